import PyProof.Rows.All
import Wide.All
import OpenK.AllK
import Wide.FinOn
import HandS.ForMost
import HandS.ForExc
import HandS.EndBits
import HandS.Wide
import HandS.Walk
import HandS.Zip
import HandS.Conv
import HandS.CallSlots
import HandS.Flow
import HandS.TupAny
import HandS.IsInst
import HandS.Style
import HandS.More
import HandS.Text
import HandS.TupLen
import HandS.Rev
import PyProof.ReprRoads
import HandS.RaiseMore
import KE.GoesMore
import PySem.Challenge.RW_goonagain_k11_whole_laying_on_and_taking
set_option Elab.async false
set_option linter.all false
set_option maxRecDepth 100000
set_option maxHeartbeats 4000000
section
/-! ## M, part 1: values, stores, what stands for what -/
namespace Mm
open PySem L2

/-- a value: tuples by value, what changes by a number into the store, things of the written part by their address -/
inductive MV where
  | non | bl (b : Bool) | int (i : Int) | str (x : Str) | ty (n : String) | obj (a : Addr) | ref (k : Nat) | tup (xs : List MV)

instance : Inhabited MV := ⟨.non⟩
/-- a class of the program: its number, its address -/
structure CId where
  nm : Nat
  ad : Addr
deriving DecidableEq
/-- what stands in the store -/
inductive MO where
  | lst (xs : List MV) | con (xs : List MV) | dK (kvs : List (Key × MV)) | dT (kvs : List (List Key × MV)) | ins (C : CId) (fs : List (Str × MV))
def MO.mut : MO → Bool
  | .con _ => false
  | _ => true
structure Sto where
  n : Nat
  g : Nat → MO
def Sto.put (S : Sto) (k : Nat) (o : MO) : Sto := ⟨S.n, fun j => if j = k then o else S.g j⟩
def Sto.add (S : Sto) (o : MO) : Sto := ⟨S.n + 1, fun j => if j = S.n then o else S.g j⟩
@[simp] theorem Sto.put_n (S : Sto) (k o) : (S.put k o).n = S.n := rfl
@[simp] theorem Sto.add_n (S : Sto) (o) : (S.add o).n = S.n + 1 := rfl
theorem Sto.put_g (S : Sto) (k o j) : (S.put k o).g j = if j = k then o else S.g j := rfl
theorem Sto.add_g (S : Sto) (o j) : (S.add o).g j = if j = S.n then o else S.g j := rfl

section
variable (K : PySem.W.Frag) (rho : Nat → Addr) (n : Nat) (H : Hp)
mutual
/-- the value v stands for x -/
def Rep : MV → V → Prop
  | .non, v => v = .non
  | .bl b, v => v = .bl b
  | .int i, v => v = .int i
  | .str x, v => v = .str x
  | .ty t, v => v = .ty t
  | .obj a, v => v = .ref a
  | .ref k, v => k < n ∧ v = .ref (rho k)
  | .tup xs, v => ∃ a vs, v = .ref a ∧ SqT K H a vs ∧ RepL xs vs
def RepL : List MV → List V → Prop
  | [], vs => vs = []
  | x :: xs, vs => ∃ v r, vs = v :: r ∧ Rep x v ∧ RepL xs r
end
/-- pairs -/
def RepP {k : Type} : List (k × MV) → List (k × V) → Prop
  | [], ws => ws = []
  | p :: ps, ws => ∃ v r, ws = (p.1, v) :: r ∧ Rep K rho n H p.2 v ∧ RepP ps r
def RepO (a : Addr) : MO → Prop
  | .lst xs => ∃ vs, H a = some (.lst vs) ∧ RepL K rho n H xs vs
  | .con xs => ∃ vs, ((∃ o, H a = some (.frz o (.lst vs))) ∨ ∃ (o : Obj) (its : Array Value) (m : Nat), K.lookup a = some o ∧ o.cls = .type "list" ∧ o.dict = none ∧ o.data = .seq its m ∧ its.size ≤ sizeLine ∧ Vals vs its.toList) ∧ RepL K rho n H xs vs
  | .dK kvs => ∃ ws, H a = some (.dK ws) ∧ RepP K rho n H kvs ws
  | .dT kvs => ∃ ws, H a = some (.dT ws) ∧ RepP K rho n H kvs ws
  | .ins C fs => ∃ dx ws, H a = some (.ins C.ad dx ws) ∧ RepP K rho n H fs ws
end

/-- the store S stands in the abstract heap H, number k at rho k -/
structure Sim (K : PySem.W.Frag) (rho : Nat → Addr) (S : Sto) (H : Hp) : Prop where
  inj : ∀ i j, i < S.n → j < S.n → (S.g i).mut = true → (S.g j).mut = true → rho i = rho j → i = j
  obj : ∀ i, i < S.n → RepO K rho S.n H (rho i) (S.g i)
/-- what comes behind: numbers and tuples stay, what the store does not know stays -/
structure Le (K : PySem.W.Frag) (rho : Nat → Addr) (S : Sto) (H : Hp) (rho' : Nat → Addr) (S' : Sto) (H' : Hp) : Prop where
  n : S.n ≤ S'.n
  r : ∀ i, i < S.n → rho' i = rho i
  tup : ∀ a vs, SqT K H a vs → SqT K H' a vs
  fr : ∀ a o, H a = some o → (∀ i, i < S.n → (S.g i).mut = true → rho i ≠ a) → H' a = some o
  new : ∀ i, S.n ≤ i → i < S'.n → H (rho' i) = none
  th : ∀ a, H' a = none → H a = none
  mu : ∀ i, i < S.n → (S'.g i).mut = (S.g i).mut

section
variable {K : PySem.W.Frag} {rho rho' rho2 : Nat → Addr} {n n' : Nat} {H H' H2 : Hp} {S S' S2 : Sto} {x y : MV} {v : V}
mutual
theorem Rep.mono (hn : n ≤ n') (hr : ∀ i, i < n → rho' i = rho i) (ht : ∀ a vs, SqT K H a vs → SqT K H' a vs) : ∀ {x : MV} {v : V}, Rep K rho n H x v → Rep K rho' n' H' x v
  | .non, _, h => h
  | .bl _, _, h => h
  | .int _, _, h => h
  | .str _, _, h => h
  | .ty _, _, h => h
  | .obj _, _, h => h
  | .ref k, v, h => by
    obtain ⟨h1, h2⟩ := h
    exact ⟨Nat.lt_of_lt_of_le h1 hn, by rw [hr k h1]; exact h2⟩
  | .tup xs, v, h => by
    obtain ⟨a, vs, h1, h2, h3⟩ := h
    exact ⟨a, vs, h1, ht a vs h2, RepL.mono hn hr ht h3⟩
theorem RepL.mono (hn : n ≤ n') (hr : ∀ i, i < n → rho' i = rho i) (ht : ∀ a vs, SqT K H a vs → SqT K H' a vs) : ∀ {xs : List MV} {vs : List V}, RepL K rho n H xs vs → RepL K rho' n' H' xs vs
  | [], _, h => h
  | x :: xs, vs, h => by
    obtain ⟨w, r, h1, h2, h3⟩ := h
    exact ⟨w, r, h1, Rep.mono hn hr ht h2, RepL.mono hn hr ht h3⟩
end
theorem RepP.mono {k : Type} (hn : n ≤ n') (hr : ∀ i, i < n → rho' i = rho i) (ht : ∀ a vs, SqT K H a vs → SqT K H' a vs) : ∀ {ps : List (k × MV)} {ws : List (k × V)}, RepP K rho n H ps ws → RepP K rho' n' H' ps ws
  | [], _, h => h
  | p :: ps, ws, h => by
    obtain ⟨w, r, h1, h2, h3⟩ := h
    exact ⟨w, r, h1, Rep.mono hn hr ht h2, RepP.mono hn hr ht h3⟩
theorem Rep.le (h : Rep K rho S.n H x v) (l : Le K rho S H rho' S' H') : Rep K rho' S'.n H' x v := Rep.mono l.n l.r l.tup h
theorem RepL.le {xs : List MV} {vs : List V} (h : RepL K rho S.n H xs vs) (l : Le K rho S H rho' S' H') : RepL K rho' S'.n H' xs vs := RepL.mono l.n l.r l.tup h
theorem RepP.le {k : Type} {ps : List (k × MV)} {ws : List (k × V)} (h : RepP K rho S.n H ps ws) (l : Le K rho S H rho' S' H') : RepP K rho' S'.n H' ps ws := RepP.mono l.n l.r l.tup h
theorem Le.refl : Le K rho S H rho S H := ⟨Nat.le_refl _, fun _ _ => rfl, fun _ _ h => h, fun _ _ h _ => h, fun i h1 h2 => absurd h2 (by omega), fun _ h => h, fun _ _ => rfl⟩
theorem Le.trans (a : Le K rho S H rho' S' H') (b : Le K rho' S' H' rho2 S2 H2) : Le K rho S H rho2 S2 H2 where
  n := Nat.le_trans a.n b.n
  r := fun i h => by rw [b.r i (Nat.lt_of_lt_of_le h a.n), a.r i h]
  tup := fun c vs h => b.tup c vs (a.tup c vs h)
  fr := fun c o h hc => by
    refine b.fr c o (a.fr c o h hc) fun i hi hm => ?_
    by_cases hs : i < S.n
    · rw [a.r i hs]; exact hc i hs (by rw [← a.mu i hs]; exact hm)
    · intro e
      have := a.new i (by omega) hi
      rw [e, h] at this; cases this
  new := fun i h1 h2 => by
    by_cases hs : i < S'.n
    · rw [b.r i hs]; exact a.new i h1 hs
    · exact a.th _ (b.new i (by omega) h2)
  th := fun c h => a.th c (b.th c h)
  mu := fun i hi => by rw [b.mu i (Nat.lt_of_lt_of_le hi a.n), a.mu i hi]

/-! ### lists of values -/
theorem RepL.len : ∀ {xs : List MV} {vs : List V}, RepL K rho n H xs vs → vs.length = xs.length
  | [], vs, h => by rw [show vs = [] from h]; rfl
  | x :: xs, vs, h => by
    obtain ⟨w, r, h1, _, h3⟩ := h
    rw [h1, List.length_cons, List.length_cons, RepL.len h3]
theorem RepL.get : ∀ {xs : List MV} {vs : List V} {i : Nat} {x : MV}, RepL K rho n H xs vs → xs[i]? = some x → ∃ v, vs[i]? = some v ∧ Rep K rho n H x v
  | [], _, _, _, _, e => by simp at e
  | y :: ys, vs, 0, x, h, e => by
    obtain ⟨w, r, h1, h2, _⟩ := h
    simp at e; subst e; subst h1
    exact ⟨w, rfl, h2⟩
  | y :: ys, vs, i + 1, x, h, e => by
    obtain ⟨w, r, h1, _, h3⟩ := h
    subst h1
    obtain ⟨u, q1, q2⟩ := RepL.get (i := i) (x := x) h3 (by simpa using e)
    exact ⟨u, by simpa using q1, q2⟩
theorem RepL.back : ∀ {xs : List MV} {vs : List V} {i : Nat} {v : V}, RepL K rho n H xs vs → vs[i]? = some v → ∃ x, xs[i]? = some x ∧ Rep K rho n H x v := fun {xs vs i v} h e => by
  have hl := h.len
  have hi : i < vs.length := (List.getElem?_eq_some_iff.mp e).1
  have hx : xs[i]? = some xs[i] := List.getElem?_eq_getElem (by omega)
  obtain ⟨u, q1, q2⟩ := h.get hx
  rw [e] at q1; cases q1
  exact ⟨_, hx, q2⟩
theorem RepL.app : ∀ {xs ys : List MV} {vs ws : List V}, RepL K rho n H xs vs → RepL K rho n H ys ws → RepL K rho n H (xs ++ ys) (vs ++ ws)
  | [], ys, vs, ws, h, q => by rw [show vs = [] from h]; exact q
  | x :: xs, ys, vs, ws, h, q => by
    obtain ⟨w, r, h1, h2, h3⟩ := h
    subst h1
    exact ⟨w, r ++ ws, rfl, h2, RepL.app h3 q⟩
theorem RepL.one (h : Rep K rho n H x v) : RepL K rho n H [x] [v] := ⟨v, [], rfl, h, rfl⟩
theorem RepL.take : ∀ (m : Nat) {xs : List MV} {vs : List V}, RepL K rho n H xs vs → RepL K rho n H (xs.take m) (vs.take m)
  | 0, _, _, _ => by simp [RepL]
  | m + 1, [], vs, h => by rw [show vs = [] from h]; rfl
  | m + 1, x :: xs, vs, h => by
    obtain ⟨w, r, h1, h2, h3⟩ := h
    subst h1
    exact ⟨w, r.take m, rfl, h2, RepL.take m h3⟩
theorem RepL.drop : ∀ (m : Nat) {xs : List MV} {vs : List V}, RepL K rho n H xs vs → RepL K rho n H (xs.drop m) (vs.drop m)
  | 0, _, _, h => h
  | m + 1, [], vs, h => by rw [show vs = [] from h]; rfl
  | m + 1, x :: xs, vs, h => by
    obtain ⟨w, r, h1, h2, h3⟩ := h
    subst h1
    exact RepL.drop m h3
theorem RepL.set : ∀ (i : Nat) {xs : List MV} {vs : List V}, RepL K rho n H xs vs → Rep K rho n H x v → RepL K rho n H (xs.set i x) (vs.set i v)
  | _, [], vs, h, _ => by rw [show vs = [] from h]; rfl
  | 0, y :: xs, vs, h, q => by
    obtain ⟨w, r, h1, _, h3⟩ := h
    subst h1
    exact ⟨v, r, rfl, q, h3⟩
  | i + 1, y :: xs, vs, h, q => by
    obtain ⟨w, r, h1, h2, h3⟩ := h
    subst h1
    exact ⟨w, r.set i v, rfl, h2, RepL.set i h3 q⟩
theorem RepL.rev {xs : List MV} {vs : List V} (h : RepL K rho n H xs vs) : RepL K rho n H xs.reverse vs.reverse := by
  induction xs generalizing vs with
  | nil => rw [show vs = [] from h]; rfl
  | cons x xs ih =>
    obtain ⟨w, r, h1, h2, h3⟩ := h
    subst h1
    rw [List.reverse_cons, List.reverse_cons]
    exact (ih h3).app (RepL.one h2)
theorem RepL.nil_iff {xs : List MV} {vs : List V} (h : RepL K rho n H xs vs) : vs = [] ↔ xs = [] := by
  have := h.len
  constructor
  · intro e; subst e; cases xs with
    | nil => rfl
    | cons => simp at this
  · intro e; subst e; cases vs with
    | nil => rfl
    | cons => simp at this
theorem RepL.dropLast {xs : List MV} {vs : List V} (h : RepL K rho n H xs vs) : RepL K rho n H xs.dropLast vs.dropLast := by
  rw [List.dropLast_eq_take, List.dropLast_eq_take, h.len]
  exact RepL.take _ h
theorem RepL.eraseIdx : ∀ (i : Nat) {xs : List MV} {vs : List V}, RepL K rho n H xs vs → RepL K rho n H (xs.eraseIdx i) (vs.eraseIdx i)
  | _, [], vs, h => by rw [show vs = [] from h]; rfl
  | 0, y :: xs, vs, h => by
    obtain ⟨w, r, h1, _, h3⟩ := h
    subst h1
    exact h3
  | i + 1, y :: xs, vs, h => by
    obtain ⟨w, r, h1, h2, h3⟩ := h
    subst h1
    exact ⟨w, r.eraseIdx i, rfl, h2, RepL.eraseIdx i h3⟩

/-! ### stores that change -/
def isMut : Option HO → Prop
  | none => True
  | some o => Mut (some o)
theorem sqT_upd {a : Addr} {o : HO} (hm : isMut (H a)) {b : Addr} {vs : List V} (h : SqT K H b vs) : SqT K (upd H a o) b vs := by
  rcases h with (h | ⟨ob, h⟩) | h
  · refine .inl (.inl ?_)
    rw [upd_ne]; exact h
    intro e; subst e; rw [h] at hm; exact hm
  · refine .inl (.inr ⟨ob, ?_⟩)
    rw [upd_ne]; exact h
    intro e; subst e; rw [h] at hm; exact hm
  · exact .inr h
/-- what stands for a number that may change is known as such -/
theorem RepO.tracked {a : Addr} {o : MO} (h : RepO K rho n H a o) (hm : o.mut = true) : ∃ u, H a = some u ∧ Mut (some u) := by
  cases o with
  | lst xs => obtain ⟨vs, h1, _⟩ := h; exact ⟨_, h1, trivial⟩
  | con xs => cases hm
  | dK kvs => obtain ⟨vs, h1, _⟩ := h; exact ⟨_, h1, trivial⟩
  | dT kvs => obtain ⟨vs, h1, _⟩ := h; exact ⟨_, h1, trivial⟩
  | ins C fs => obtain ⟨dx, vs, h1, _⟩ := h; exact ⟨_, h1, trivial⟩
theorem RepO.con_stay {a b : Addr} {xs : List MV} {u : HO} (hm : isMut (H b)) (h : RepO K rho n H a (.con xs)) (hr : ∀ i, i < n → rho' i = rho i) (hn : n ≤ n') : RepO K rho' n' (upd H b u) a (.con xs) := by
  obtain ⟨vs, h1, h2⟩ := h
  refine ⟨vs, ?_, RepL.mono hn hr (fun _ _ => sqT_upd hm) h2⟩
  rcases h1 with ⟨o, h1⟩ | h1
  · refine .inl ⟨o, ?_⟩
    rw [upd_ne]; exact h1
    intro e; subst e; rw [h1] at hm; exact hm
  · exact .inr h1
/-- an object elsewhere is changed -/
theorem RepO.stay {a b : Addr} {o : MO} {u : HO} (hm : isMut (H b)) (hne : o.mut = true → a ≠ b) (h : RepO K rho n H a o) (hr : ∀ i, i < n → rho' i = rho i) (hn : n ≤ n') : RepO K rho' n' (upd H b u) a o := by
  have ht : ∀ c vs, SqT K H c vs → SqT K (upd H b u) c vs := fun _ _ => sqT_upd hm
  cases o with
  | lst xs => obtain ⟨vs, h1, h2⟩ := h; exact ⟨vs, by rw [upd_ne (hne rfl)]; exact h1, RepL.mono hn hr ht h2⟩
  | con xs => exact RepO.con_stay hm h hr hn
  | dK kvs => obtain ⟨vs, h1, h2⟩ := h; exact ⟨vs, by rw [upd_ne (hne rfl)]; exact h1, RepP.mono hn hr ht h2⟩
  | dT kvs => obtain ⟨vs, h1, h2⟩ := h; exact ⟨vs, by rw [upd_ne (hne rfl)]; exact h1, RepP.mono hn hr ht h2⟩
  | ins C fs => obtain ⟨dx, vs, h1, h2⟩ := h; exact ⟨dx, vs, by rw [upd_ne (hne rfl)]; exact h1, RepP.mono hn hr ht h2⟩

def ext (rho : Nat → Addr) (n : Nat) (p : Addr) : Nat → Addr := fun i => if i = n then p else rho i
theorem ext_lt {p : Addr} {i : Nat} (h : i < n) : ext rho n p i = rho i := by unfold ext; rw [if_neg (by omega)]
theorem ext_at {p : Addr} : ext rho n p n = p := by unfold ext; rw [if_pos rfl]
/-- something new that the store does not know (a tuple, the dict of an instance) -/
theorem Sim.ofNew (s : Sim K rho S H) {p : Addr} {u : HO} (hp : H p = none) : Sim K rho S (upd H p u) where
  inj := s.inj
  obj := fun i hi => RepO.stay (by unfold isMut; rw [hp]; trivial) (fun hm => by
    obtain ⟨o, h1, _⟩ := (s.obj i hi).tracked hm
    exact ne_of_none h1 hp) (s.obj i hi) (fun _ _ => rfl) (Nat.le_refl _)
theorem Le.ofNew {p : Addr} {u : HO} (hp : H p = none) : Le K rho S H rho S (upd H p u) where
  n := Nat.le_refl _
  r := fun _ _ => rfl
  tup := fun _ _ => sqT_upd (by unfold isMut; rw [hp]; trivial)
  fr := fun a o h _ => by rw [upd_ne (ne_of_none h hp)]; exact h
  new := fun i h1 h2 => absurd h2 (by omega)
  th := fun a h => by
    by_cases e : a = p
    · subst e; exact hp
    · rwa [upd_ne e] at h
  mu := fun _ _ => rfl
theorem Le.add {p : Addr} {u : HO} {o : MO} (hp : H p = none) : Le K rho S H (ext rho S.n p) (S.add o) (upd H p u) where
  n := Nat.le_succ _
  r := fun i hi => ext_lt hi
  tup := fun _ _ => sqT_upd (by unfold isMut; rw [hp]; trivial)
  fr := fun a o h _ => by rw [upd_ne (ne_of_none h hp)]; exact h
  new := fun i h1 h2 => by
    have : i = S.n := by have : i < S.n + 1 := h2; omega
    subst this; rw [ext_at]; exact hp
  th := fun a h => by
    by_cases e : a = p
    · subst e; exact hp
    · rwa [upd_ne e] at h
  mu := fun i hi => by rw [Sto.add_g, if_neg (by omega)]
/-- a new object with its number -/
theorem Sim.add (s : Sim K rho S H) {p : Addr} {u : HO} {o : MO} (hp : H p = none) (hm : o.mut = true) (ho : RepO K (ext rho S.n p) (S.n + 1) (upd H p u) p o) : Sim K (ext rho S.n p) (S.add o) (upd H p u) where
  inj := fun i j hi hj mi mj e => by
    have hi' : i < S.n + 1 := hi
    have hj' : j < S.n + 1 := hj
    have key : ∀ i, i < S.n → ((S.add o).g i).mut = true → rho i ≠ p := fun i hi mi => by
      rw [Sto.add_g, if_neg (by omega)] at mi
      obtain ⟨v, h1, _⟩ := (s.obj i hi).tracked mi
      exact ne_of_none h1 hp
    by_cases h1 : i = S.n
    · by_cases h2 : j = S.n
      · omega
      · have h3 : j < S.n := by omega
        subst h1
        rw [ext_at, ext_lt h3] at e
        exact absurd e.symm (key j h3 mj)
    · have h4 : i < S.n := by omega
      by_cases h2 : j = S.n
      · subst h2
        rw [ext_at, ext_lt h4] at e
        exact absurd e (key i h4 mi)
      · have h3 : j < S.n := by omega
        rw [ext_lt h4, ext_lt h3] at e
        rw [Sto.add_g, if_neg h1] at mi
        rw [Sto.add_g, if_neg h2] at mj
        exact s.inj i j h4 h3 mi mj e
  obj := fun i hi => by
    have hi' : i < S.n + 1 := hi
    by_cases h1 : i = S.n
    · subst h1
      rw [ext_at, Sto.add_g, if_pos rfl]
      exact ho
    · have h2 : i < S.n := by omega
      rw [ext_lt h2, Sto.add_g, if_neg h1]
      exact RepO.stay (by unfold isMut; rw [hp]; trivial) (fun hm => by
        obtain ⟨o, h1, _⟩ := (s.obj i h2).tracked hm
        exact ne_of_none h1 hp) (s.obj i h2) (fun _ h => ext_lt h) (Nat.le_succ _)
theorem Le.put {k : Nat} {u : HO} {o : MO} (s : Sim K rho S H) (hk : k < S.n) (hm : (S.g k).mut = true) (ho : o.mut = true) : Le K rho S H rho (S.put k o) (upd H (rho k) u) := by
  obtain ⟨v, h1, h2⟩ := (s.obj k hk).tracked hm
  exact {
    n := Nat.le_refl _
    r := fun _ _ => rfl
    tup := fun _ _ => sqT_upd (by unfold isMut; rw [h1]; exact h2)
    fr := fun a o h hc => by rw [upd_ne (fun e => hc k hk hm e.symm)]; exact h
    new := fun i h3 h4 => absurd (show i < S.n from h4) (by omega)
    th := fun a h => by
      by_cases e : a = rho k
      · subst e; rw [upd_same] at h; cases h
      · rwa [upd_ne e] at h
    mu := fun i hi => by
      rw [Sto.put_g]
      split
      · rename_i e; rw [ho, e, hm]
      · rfl }
/-- an object changes -/
theorem Sim.put (s : Sim K rho S H) {k : Nat} {u : HO} {o : MO} (hk : k < S.n) (hm : (S.g k).mut = true) (ho : RepO K rho S.n (upd H (rho k) u) (rho k) o) : Sim K rho (S.put k o) (upd H (rho k) u) := by
  obtain ⟨v, h1, h2⟩ := (s.obj k hk).tracked hm
  have hmm : ∀ i, ((S.put k o).g i).mut = true → i ≠ k → (S.g i).mut = true := fun i h e => by
    rwa [Sto.put_g, if_neg e] at h
  refine ⟨fun i j hi hj mi mj e => ?_, fun i hi => ?_⟩
  · by_cases e1 : i = k
    · by_cases e2 : j = k
      · omega
      · subst e1
        exact s.inj i j hi hj hm (hmm j mj e2) e
    · by_cases e2 : j = k
      · subst e2
        exact s.inj i j hi hj (hmm i mi e1) hm e
      · exact s.inj i j hi hj (hmm i mi e1) (hmm j mj e2) e
  · by_cases e1 : i = k
    · subst e1
      rw [Sto.put_g, if_pos rfl]
      exact ho
    · rw [Sto.put_g, if_neg e1]
      exact RepO.stay (by unfold isMut; rw [h1]; exact h2) (fun mi e => e1 (s.inj i k hi hk mi hm e)) (s.obj i hi) (fun _ _ => rfl) (Nat.le_refl _)
/-- values ahead of a put -/
theorem Rep.upd {a : Addr} {u : HO} (hm : isMut (H a)) (h : Rep K rho n H x v) : Rep K rho n (upd H a u) x v := Rep.mono (Nat.le_refl _) (fun _ _ => rfl) (fun _ _ => sqT_upd hm) h
theorem RepL.upd {a : Addr} {u : HO} (hm : isMut (H a)) {xs : List MV} {vs : List V} (h : RepL K rho n H xs vs) : RepL K rho n (upd H a u) xs vs := RepL.mono (Nat.le_refl _) (fun _ _ => rfl) (fun _ _ => sqT_upd hm) h
theorem RepP.upd {k : Type} {a : Addr} {u : HO} (hm : isMut (H a)) {xs : List (k × MV)} {vs : List (k × V)} (h : RepP K rho n H xs vs) : RepP K rho n (upd H a u) xs vs := RepP.mono (Nat.le_refl _) (fun _ _ => rfl) (fun _ _ => sqT_upd hm) h
theorem isMut_none {a : Addr} (h : H a = none) : isMut (H a) := by rw [h]; trivial
theorem isMut_some {a : Addr} {u : HO} (h : H a = some u) (m : Mut (some u)) : isMut (H a) := by rw [h]; exact m
end
end Mm
end

section
/-! ## M, part 2: results, expressions -/
namespace Mm
open PySem L2
/-- an exception: its class, its own fields -/
structure Exc where
  cls : Value
  fs : List (Str × MV)
inductive Res (al : Type) where
  | ok (x : al) (S : Sto) | exc (e : Exc) (S : Sto) | bad
/-- the slots of a def -/
abbrev Sl := List (Option MV)
abbrev EMt (al : Type) := Sl → Sto → Res al
abbrev EM := EMt MV
def RepX (K : PySem.W.Frag) (rho : Nat → Addr) (n : Nat) (H : Hp) (d : Option Addr) (e : Exc) : Prop :=
  (d = none ∧ e.fs = []) ∨ ∃ a ws, d = some a ∧ H a = some (.xd ws) ∧ RepP K rho n H e.fs ws
def RepE (K : PySem.W.Frag) (rho : Nat → Addr) (n : Nat) (H : Hp) (sg : L2.St) (e : Sl) : Prop :=
  sg.length = e.length ∧ ∀ (i : Nat) (x : MV), e[i]? = some (some x) → ∃ v, sg[i]? = some (some v) ∧ Rep K rho n H x v
/-- how a result stands for another -/
abbrev RelT (al be : Type) := PySem.W.Frag → (Nat → Addr) → Nat → Hp → al → be → Prop
class RelM {al be : Type} (rel : RelT al be) : Prop where
  mono : ∀ {K : PySem.W.Frag} {rho rho' : Nat → Addr} {n n' : Nat} {H H' : Hp} {x : al} {v : be}, n ≤ n' → (∀ i, i < n → rho' i = rho i) → (∀ a vs, SqT K H a vs → SqT K H' a vs) → rel K rho n H x v → rel K rho' n' H' x v
abbrev rV : RelT MV V := Rep
abbrev rL : RelT (List MV) (List V) := RepL
abbrev rE (al : Type) : RelT al al := fun _ _ _ _ x y => x = y
instance : RelM rV := ⟨fun h1 h2 h3 h => Rep.mono h1 h2 h3 h⟩
instance : RelM rL := ⟨fun h1 h2 h3 h => RepL.mono h1 h2 h3 h⟩
instance {al : Type} : RelM (rE al) := ⟨fun _ _ _ h => h⟩

section
variable {K : PySem.W.Frag} {al be ga de : Type} {rel : RelT al be} {rel2 : RelT ga de}
/-- what follows from a result -/
def Fin (K : PySem.W.Frag) (rel : RelT al be) (rho : Nat → Addr) (S : Sto) (H : Hp) (Q : be → Hp → Prop) (E : XK) : Res al → Prop
  | .ok x S' => ∀ rho' H' v, Sim K rho' S' H' → Le K rho S H rho' S' H' → rel K rho' S'.n H' x v → Q v H'
  | .exc ex S' => ∀ rho' H' d, Sim K rho' S' H' → Le K rho S H rho' S' H' → RepX K rho' S'.n H' d ex → E ex.cls d H'
  | .bad => False
theorem Fin.step {rho rho1 : Nat → Addr} {S S1 : Sto} {H H1 : Hp} {Q : be → Hp → Prop} {E : XK} {r : Res al} (h : Fin K rel rho S H Q E r) (l : Le K rho S H rho1 S1 H1) : Fin K rel rho1 S1 H1 Q E r := by
  cases r with
  | ok x S' => exact fun rho' H' v s l' q => h rho' H' v s (l.trans l') q
  | exc ex S' => exact fun rho' H' d s l' q => h rho' H' d s (l.trans l') q
  | bad => exact h
theorem Fin.imp {rho : Nat → Addr} {S : Sto} {H : Hp} {Q Q' : be → Hp → Prop} {E : XK} {r : Res al} (h : Fin K rel rho S H Q E r) (hq : ∀ v H', Q v H' → Q' v H') : Fin K rel rho S H Q' E r := by
  cases r with
  | ok x S' => exact fun rho' H' v s l' q => hq _ _ (h rho' H' v s l' q)
  | exc ex S' => exact h
  | bad => exact h
theorem RepE.le {rho rho' : Nat → Addr} {S S' : Sto} {H H' : Hp} {sg : L2.St} {e : Sl} (h : RepE K rho S.n H sg e) (l : Le K rho S H rho' S' H') : RepE K rho' S'.n H' sg e :=
  ⟨h.1, fun i x q => let ⟨v, h1, h2⟩ := h.2 i x q; ⟨v, h1, h2.le l⟩⟩
/-- THE READING of an M-expression -/
def tG (K : PySem.W.Frag) (rel : RelT al be) (W : WX) (m : EMt al) : L2.St → Hp → (be → Hp → Prop) → Prop := fun sg H Q =>
  ∃ rho e S, Sim K rho S H ∧ RepE K rho S.n H sg e ∧ Fin K rel rho S H Q (fun c d H' => W c d sg H') (m e S)
abbrev tM (K : PySem.W.Frag) (W : WX) (m : EM) : TE := tG K rV W m
abbrev tB (K : PySem.W.Frag) (W : WX) (m : EMt Bool) : TT := tG K (rE Bool) W m
abbrev tA (K : PySem.W.Frag) (W : WX) (m : EMt (List MV)) : TA := tG K rL W m
theorem tG.imp {W : WX} {m : EMt al} {sg : L2.St} {H : Hp} {Q Q' : be → Hp → Prop} (h : tG K rel W m sg H Q) (hq : ∀ v H', Q v H' → Q' v H') : tG K rel W m sg H Q' := by
  obtain ⟨rho, e, S, s, re, f⟩ := h
  exact ⟨rho, e, S, s, re, f.imp hq⟩
def bindM (m : EMt al) (k : al → EMt ga) : EMt ga := fun e S => match m e S with
  | .ok x S' => k x e S'
  | .exc ex S' => .exc ex S'
  | .bad => .bad
@[simp] theorem bindM_ok {m : EMt al} {k : al → EMt ga} {e : Sl} {S S' : Sto} {x : al} (h : m e S = .ok x S') : bindM m k e S = k x e S' := by unfold bindM; rw [h]
/-- one after the other -/
theorem tG_bind {W : WX} {m : EMt al} {k : al → EMt ga} {sg : L2.St} {H : Hp} {Q : de → Hp → Prop} (h : tG K rel2 W (bindM m k) sg H Q) :
    tG K rel W m sg H fun v H1 => ∃ rho e S x, Sim K rho S H1 ∧ RepE K rho S.n H1 sg e ∧ rel K rho S.n H1 x v ∧ Fin K rel2 rho S H1 Q (fun c d H' => W c d sg H') (k x e S) := by
  obtain ⟨rho, e, S, s, re, f⟩ := h
  refine ⟨rho, e, S, s, re, ?_⟩
  unfold bindM at f
  cases q : m e S with
  | ok x S' =>
    rw [q] at f
    exact fun rho' H' v s' l' r' => ⟨rho', e, S', x, s', re.le l', r', f.step l'⟩
  | exc ex S' => rw [q] at f; exact f
  | bad => rw [q] at f; exact f
end

/-! ### from HandS's rules -/
section
variable {X : Cx} {e : Expr} {a b c : Expr} {pos : Pos} {W : WX} {m ma mb mc : EM} {K : PySem.W.Frag}
theorem PE.to {t t' : TE} (h : PE X e t) (i : ∀ sg H Q, t' sg H Q → t sg H Q) : PE X e t' := ⟨fun pins s sg H Q I q => h.run pins s sg H Q I (i _ _ _ q)⟩
theorem PT.to {t t' : TT} (h : PT X e t) (i : ∀ sg H Q, t' sg H Q → t sg H Q) : PT X e t' := ⟨fun pins s sg H Q I q => h.run pins s sg H Q I (i _ _ _ q)⟩
theorem PW.to {t t' : TT} (h : PW X e t) (i : ∀ sg H Q, t' sg H Q → t sg H Q) : PW X e t' := ⟨fun wh pins s sg H Q I q => h.run wh pins s sg H Q I (i _ _ _ q)⟩
theorem PA.to {es : List Expr} {t t' : TA} (h : PA X es t) (i : ∀ sg H Q, t' sg H Q → t sg H Q) : PA X es t' := ⟨fun ps pins s sg H Q I q => h.run ps pins s sg H Q I (i _ _ _ q)⟩

/-- a name -/
def varM (i : Nat) : EM := fun e S => match e[i]? with
  | some (some x) => .ok x S
  | _ => .bad
theorem tM_var {i : Nat} {sg : L2.St} {H : Hp} {Q : VK} (h : tM K W (varM i) sg H Q) : tVar i sg H Q := by
  obtain ⟨rho, e, S, s, re, f⟩ := h
  unfold varM at f
  split at f
  · rename_i x q
    obtain ⟨v, h1, h2⟩ := re.2 i x q
    exact ⟨v, h1, f rho H v s Le.refl h2⟩
  · exact f.elim
theorem mp_var (i : Nat) {x : Str} (hN : X.N[i]? = some x := by rfl) (hv : Vis X.env.scope x := by first | exact Or.inl rfl | exact Or.inr (Or.inl rfl) | exact Or.inr (Or.inr rfl)) (hd : (x == ("__debug__" : Str)) = false := by decide)
    (hcd : (x == ("__classdict__" : Str)) = false := by decide) : PE X (.Name x pos) (tM X.K W (varM i)) := PE.to (pe_var hN hv hd hcd) fun _ _ _ => tM_var
/-- what does not depend on anything -/
def conM (x : MV) : EM := fun _ S => .ok x S
theorem tM_con {x : MV} {v : V} {sg : L2.St} {H : Hp} {Q : VK} (hr : ∀ rho n H, Rep K rho n H x v) (h : tM K W (conM x) sg H Q) : tC v sg H Q := by
  obtain ⟨rho, e, S, s, re, f⟩ := h
  exact f rho H v s Le.refl (hr _ _ _)
theorem mp_int {i j} : PE X (.Constant (.int i) j pos) (tM X.K W (conM (.int i))) := PE.to pe_int fun _ _ _ => tM_con fun _ _ _ => rfl
theorem mp_bl {i j} : PE X (.Constant (.bool i) j pos) (tM X.K W (conM (.bl i))) := PE.to pe_bl fun _ _ _ => tM_con fun _ _ _ => rfl
theorem mp_str {i j} : PE X (.Constant (.str i) j pos) (tM X.K W (conM (.str i))) := PE.to pe_str fun _ _ _ => tM_con fun _ _ _ => rfl
theorem mp_non {j} : PE X (.Constant .none j pos) (tM X.K W (conM .non)) := PE.to pe_non fun _ _ _ => tM_con fun _ _ _ => rfl
/-- a module's constant -/
theorem mp_glob {x : Str} {v : V} {u : Value} {z : MV} (hg : Gl X x) (hm : X.mg x = some u) (r : RelV v u) (hr : ∀ rho n H, Rep X.K rho n H z v) (hd : (x == ("__debug__" : Str)) = false := by decide) : PE X (.Name x pos) (tM X.K W (conM z)) :=
  PE.to (pe_glob hg hm r hd) fun _ _ _ => tM_con hr

/-! ### operations on values -/
/-- a two-place operation of values is served by a HandS reading -/
def Snd2 (K : PySem.W.Frag) (r : R2) (g : MV → MV → Sto → Res MV) : Prop := ∀ rho S H x y vx vy Q E, Sim K rho S H → Rep K rho S.n H x vx → Rep K rho S.n H y vy → Fin K rV rho S H Q E (g x y S) → r vx vy H Q
def Snd1 (K : PySem.W.Frag) (r : V → Hp → VK → Prop) (g : MV → Sto → Res MV) : Prop := ∀ rho S H x vx Q E, Sim K rho S H → Rep K rho S.n H x vx → Fin K rV rho S H Q E (g x S) → r vx H Q
def SndL (K : PySem.W.Frag) (r : List V → Hp → VK → Prop) (g : List MV → Sto → Res MV) : Prop := ∀ rho S H xs vs Q E, Sim K rho S H → RepL K rho S.n H xs vs → Fin K rV rho S H Q E (g xs S) → r vs H Q
def op2 (g : MV → MV → Sto → Res MV) (ma mb : EM) : EM := bindM ma fun x => bindM mb fun y => fun _ S => g x y S
def op1 (g : MV → Sto → Res MV) (ma : EM) : EM := bindM ma fun x => fun _ S => g x S
def opL (g : List MV → Sto → Res MV) (ma : EMt (List MV)) : EM := bindM ma fun x => fun _ S => g x S
theorem tM_op2 {r : R2} {g : MV → MV → Sto → Res MV} (hs : Snd2 K r g) {sg : L2.St} {H : Hp} {Q : VK} (h : tM K W (op2 g ma mb) sg H Q) : tOp r (tM K W ma) (tM K W mb) sg H Q := by
  refine (tG_bind (rel := rV) h).imp fun vx H1 ⟨rho, e, S, x, s, re, rx, f⟩ => ?_
  have h2 : tM K W (bindM mb fun y => fun _ S => g x y S) sg H1 Q := ⟨rho, e, S, s, re, f⟩
  obtain ⟨rho2, e2, S2, s2, re2, f2⟩ : tM K W mb sg H1 fun vy H2 => r vx vy H2 Q := by
    refine ⟨rho, e, S, s, re, ?_⟩
    unfold bindM at f
    cases q : mb e S with
    | ok y S' =>
      rw [q] at f
      exact fun rho' H' vy s' l' ry => hs _ _ _ _ _ _ _ _ _ s' (rx.le l') ry (f.step l')
    | exc ex S' => rw [q] at f; exact f
    | bad => rw [q] at f; exact f
  exact ⟨rho2, e2, S2, s2, re2, f2⟩
theorem tM_op1 {r : V → Hp → VK → Prop} {g : MV → Sto → Res MV} (hs : Snd1 K r g) {sg : L2.St} {H : Hp} {Q : VK} (h : tM K W (op1 g ma) sg H Q) : tUn r (tM K W ma) sg H Q :=
  (tG_bind (rel := rV) h).imp fun vx H1 ⟨rho, e, S, x, s, re, rx, f⟩ => hs _ _ _ _ _ _ _ s rx f
theorem tM_opL {r : List V → Hp → VK → Prop} {g : List MV → Sto → Res MV} {ml : EMt (List MV)} (hs : SndL K r g) {sg : L2.St} {H : Hp} {Q : VK} (h : tM K W (opL g ml) sg H Q) : tCB r (tA K W ml) sg H Q :=
  (tG_bind (rel := rL) h).imp fun vx H1 ⟨rho, e, S, x, s, re, rx, f⟩ => hs _ _ _ _ _ _ _ s rx f
theorem mp_op {op : Operator} {r : R2} {g : MV → MV → Sto → Res MV} (ho : OpR X (binaryOp op) r) (hs : Snd2 X.K r g) (ha : PE X a (tM X.K W ma)) (hb : PE X b (tM X.K W mb)) : PE X (.BinOp a op b pos) (tM X.K W (op2 g ma mb)) :=
  PE.to (pe_op ho ha hb) fun _ _ _ => tM_op2 hs
theorem mp_un {op : UnaryOp} {r : V → Hp → VK → Prop} {g : MV → Sto → Res MV} (ho : UnR X (unaryOp op) r) (hs : Snd1 X.K r g) (ha : PE X a (tM X.K W ma)) : PE X (.UnaryOp op a pos) (tM X.K W (op1 g ma)) :=
  PE.to (pe_un ho ha) fun _ _ _ => tM_op1 hs
theorem mp_cmp {op : CmpOp} {r : R2} {g : MV → MV → Sto → Res MV} (ho : OpR X (compareOp op) r) (hs : Snd2 X.K r g) (ha : PE X a (tM X.K W ma)) (hb : PE X b (tM X.K W mb)) (hm : behindInMarks op b = false := by first | exact nomark _ | rfl) :
    PE X (.Compare a [op] [b] pos) (tM X.K W (op2 g ma mb)) := PE.to (pe_cmpR ho ha hb hm) fun _ _ _ => tM_op2 hs

/-! ### truth -/
def truO (xs : MO) : Option Bool := match xs with
  | .lst xs => some (!xs.isEmpty)
  | .con xs => some (!xs.isEmpty)
  | .dK kvs => some (!kvs.isEmpty)
  | _ => none
def truV : MV → Sto → Res Bool
  | .non, S => .ok false S
  | .bl b, S => .ok b S
  | .int i, S => .ok (i != 0) S
  | .str y, S => if y.length ≤ sizeLine then .ok ((y.length : Int) != 0) S else .bad
  | .tup xs, S => .ok (!xs.isEmpty) S
  | .ref k, S => match truO (S.g k) with
    | some b => .ok b S
    | none => .bad
  | _, _ => .bad
def truM (m : EM) : EMt Bool := bindM m fun x => fun _ S => truV x S
theorem isEmptyL {rho : Nat → Addr} {n : Nat} {H : Hp} {xs : List MV} {vs : List V} (r : RepL K rho n H xs vs) : vs.isEmpty = xs.isEmpty := by
  have := r.len
  cases xs <;> cases vs <;> simp_all
theorem isEmptyP {k : Type} {rho : Nat → Addr} {n : Nat} {H : Hp} {xs : List (k × MV)} {vs : List (k × V)} (r : RepP K rho n H xs vs) : vs.isEmpty = xs.isEmpty := by
  cases xs with
  | nil => rw [show vs = [] from r]; rfl
  | cons => obtain ⟨_, _, e, _⟩ := r; rw [e]; rfl
theorem sq_con {rho : Nat → Addr} {n : Nat} {H : Hp} {a : Addr} {xs : List MV} (h : RepO K rho n H a (.con xs)) : ∃ vs, SqL K H a vs ∧ RepL K rho n H xs vs := by
  obtain ⟨vs, h1, h2⟩ := h
  refine ⟨vs, ?_, h2⟩
  rcases h1 with ⟨o, h1⟩ | h1
  · exact .inl (.inr ⟨o, h1⟩)
  · exact .inr h1
theorem truV_ok {rho : Nat → Addr} {S : Sto} {H : Hp} {x : MV} {v : V} (s : Sim K rho S H) (rx : Rep K rho S.n H x v) {Q : Bool → Hp → Prop} {E : XK} (f : Fin K (rE Bool) rho S H Q E (truV x S)) : ∃ k, TruV K v H k ∧ Q k H := by
  cases x with
  | non => rw [show v = .non from rx]; exact ⟨_, rfl, f rho H _ s Le.refl rfl⟩
  | bl b => rw [show v = .bl b from rx]; exact ⟨_, rfl, f rho H _ s Le.refl rfl⟩
  | int b => rw [show v = .int b from rx]; exact ⟨_, rfl, f rho H _ s Le.refl rfl⟩
  | str b =>
    rw [show v = .str b from rx]
    simp only [truV] at f
    split at f
    · rename_i hl; exact ⟨_, ⟨hl, rfl⟩, f rho H _ s Le.refl rfl⟩
    · exact f.elim
  | tup xs =>
    obtain ⟨a, vs, h1, h2, h3⟩ := rx
    rw [h1]
    exact ⟨_, .inr (.inl ⟨vs, h2, rfl⟩), f rho H _ s Le.refl (by rw [isEmptyL h3])⟩
  | ty _ => exact f.elim
  | obj _ => exact f.elim
  | ref k =>
    obtain ⟨h1, h2⟩ := rx
    rw [h2]
    have ho := s.obj k h1
    unfold truV at f
    cases q : S.g k with
    | lst xs =>
      rw [q] at ho
      simp only [q, truO] at f
      obtain ⟨vs, h3, h4⟩ := ho
      exact ⟨_, .inl ⟨vs, SqL.of h3, rfl⟩, f rho H _ s Le.refl (by rw [isEmptyL h4])⟩
    | con xs =>
      rw [q] at ho
      simp only [q, truO] at f
      obtain ⟨vs, h3, h4⟩ := sq_con ho
      exact ⟨_, .inl ⟨vs, h3, rfl⟩, f rho H _ s Le.refl (by rw [isEmptyL h4])⟩
    | dK xs =>
      rw [q] at ho
      simp only [q, truO] at f
      obtain ⟨vs, h3, h4⟩ := ho
      exact ⟨_, .inr (.inr ⟨vs, h3, rfl⟩), f rho H _ s Le.refl (by rw [isEmptyP h4])⟩
    | dT xs => simp only [q, truO] at f; exact f.elim
    | ins C fs => simp only [q, truO] at f; exact f.elim
/-- any expression as a test -/
theorem mt_truth (ha : PE X a (tM X.K W ma)) (he : ∀ whole, isTrue a X.env whole = (do let v ← whole; standAt a.pos; holding [v] (truthy v)) := by intro _; rfl) : PT X a (tB X.K W (truM ma)) :=
  PT.to (pt_truth ha he) fun _ _ _ h => (tG_bind (rel := rV) h).imp fun _ _ ⟨_, _, _, _, s, _, rx, f⟩ => truV_ok s rx f
/-- a True or False as a test -/
def blV : MV → Sto → Res Bool
  | .bl b, S => .ok b S
  | _, _ => .bad
def blM (m : EM) : EMt Bool := bindM m fun x => fun _ S => blV x S
theorem blV_ok {rho : Nat → Addr} {S : Sto} {H : Hp} {x : MV} {v : V} (s : Sim K rho S H) (rx : Rep K rho S.n H x v) {Q : Bool → Hp → Prop} {E : XK} (f : Fin K (rE Bool) rho S H Q E (blV x S)) : ∃ k, v = .bl k ∧ Q k H := by
  cases x with
  | bl b => exact ⟨b, rx, f rho H _ s Le.refl rfl⟩
  | _ => exact f.elim
/-- a comparison as a test -/
theorem mt_cmp {op : CmpOp} {r : R2} {g : MV → MV → Sto → Res MV} (ho : OpR X (compareOp op) r) (hs : Snd2 X.K r g) (ha : PE X a (tM X.K W ma)) (hb : PE X b (tM X.K W mb)) (hm : behindInMarks op b = false := by first | exact nomark _ | rfl) :
    PT X (.Compare a [op] [b] pos) (tB X.K W (blM (op2 g ma mb))) :=
  PT.to (pt_cmpR ho ha hb hm) fun sg H Q h => tM_op2 hs ((tG_bind (rel := rV) h).imp fun _ _ ⟨_, _, _, _, s, _, rx, f⟩ => blV_ok s rx f)

/-! ### and, or, not -/
def andB (ma mb : EMt Bool) : EMt Bool := bindM ma fun b => if b = true then mb else fun _ S => .ok false S
def orB (ma mb : EMt Bool) : EMt Bool := bindM ma fun b => if b = true then (fun _ S => .ok true S) else mb
def notB (ma : EMt Bool) : EMt Bool := bindM ma fun b => fun _ S => .ok (!b) S
section
variable {ba bb : EMt Bool} {rest : List Expr}
theorem mw_and1 (ha : PT X a (tB X.K W ba)) : PW X (.BoolOp .And [a] pos) (tB X.K W ba) := pw_and1 ha
theorem mw_or1 (ha : PT X a (tB X.K W ba)) : PW X (.BoolOp .Or [a] pos) (tB X.K W ba) := pw_or1 ha
theorem tB_if {x : Bool} {m1 m2 : EMt Bool} {rho : Nat → Addr} {e : Sl} {S : Sto} {sg : L2.St} {H : Hp} {Q : Bool → Hp → Prop} {A B : Prop} (s : Sim K rho S H) (re : RepE K rho S.n H sg e)
    (f : Fin K (rE Bool) rho S H Q (fun c d H' => W c d sg H') ((if x = true then m1 else m2) e S)) (h1 : x = true → tB K W m1 sg H Q → A) (h2 : x = false → tB K W m2 sg H Q → B) : if x = true then A else B := by
  cases x with
  | true => rw [if_pos rfl] at f ⊢; exact h1 rfl ⟨rho, e, S, s, re, f⟩
  | false => rw [if_neg (by decide)] at f ⊢; exact h2 rfl ⟨rho, e, S, s, re, f⟩
theorem tB_pure {x : Bool} {sg : L2.St} {H : Hp} {Q : Bool → Hp → Prop} (h : tB K W (fun _ S => .ok x S) sg H Q) : Q x H := by
  obtain ⟨rho, e, S, s, re, f⟩ := h
  exact f rho H x s Le.refl rfl
theorem mw_and (ha : PT X a (tB X.K W ba)) (hb : PW X (.BoolOp .And (b :: rest) pos) (tB X.K W bb)) : PW X (.BoolOp .And (a :: b :: rest) pos) (tB X.K W (andB ba bb)) :=
  PW.to (pw_and ha hb) fun sg H Q h => (tG_bind (rel := rE Bool) h).imp fun c H1 ⟨rho, e, S, x, s, re, rx, f⟩ => by
    cases rx
    exact tB_if s re f (fun _ q => q) fun _ q => tB_pure q
theorem mw_or (ha : PT X a (tB X.K W ba)) (hb : PW X (.BoolOp .Or (b :: rest) pos) (tB X.K W bb)) : PW X (.BoolOp .Or (a :: b :: rest) pos) (tB X.K W (orB ba bb)) :=
  PW.to (pw_or ha hb) fun sg H Q h => (tG_bind (rel := rE Bool) h).imp fun c H1 ⟨rho, e, S, x, s, re, rx, f⟩ => by
    cases rx
    exact tB_if s re f (fun _ q => tB_pure q) fun _ q => q
theorem mt_pw (h : PW X e (tB X.K W ba)) : PT X e (tB X.K W ba) := h.pt
theorem mt_not (ha : PT X a (tB X.K W ba)) : PT X (.UnaryOp .Not a pos) (tB X.K W (notB ba)) :=
  PT.to (pt_not ha) fun sg H Q h => (tG_bind (rel := rE Bool) h).imp fun c H1 ⟨rho, e, S, x, s, re, rx, f⟩ => by
    cases rx
    exact f rho H1 _ s Le.refl rfl
/-- as values, by truth -/
def andV (ma mb : EM) : EM := bindM ma fun x => bindM (fun _ S => truV x S) fun b => if b = true then mb else fun _ S => .ok x S
def orV (ma mb : EM) : EM := bindM ma fun x => bindM (fun _ S => truV x S) fun b => if b = true then (fun _ S => .ok x S) else mb
def notV (ma : EM) : EM := bindM ma fun x => bindM (fun _ S => truV x S) fun b => fun _ S => .ok (.bl (!b)) S
theorem fin_truth {al be : Type} {rel : RelT al be} {x : MV} {v : V} {k : Bool → EMt al} {rho : Nat → Addr} {e : Sl} {S : Sto} {H : Hp} {Q : be → Hp → Prop} {E : XK} (s : Sim K rho S H) (rx : Rep K rho S.n H x v)
    (f : Fin K rel rho S H Q E (bindM (fun _ S => truV x S) k e S)) : ∃ b, TruV K v H b ∧ Fin K rel rho S H Q E (k b e S) := by
  have hv : ∃ r, truV x S = r ∧ (∀ S' b, r = .ok b S' → S' = S) ∧ (∀ x S', r ≠ .exc x S') := by
    refine ⟨_, rfl, ?_, ?_⟩
    · intro S' b h
      cases x <;> simp only [truV] at h <;> first | (cases h; done) | (cases h; rfl) | (split at h <;> first | (cases h; done) | (cases h; rfl))
    · intro y S' h
      cases x <;> simp only [truV] at h <;> first | cases h | (split at h <;> cases h)
  obtain ⟨r, h1, h2, h3⟩ := hv
  unfold bindM at f
  simp only [h1] at f
  cases r with
  | bad => exact f.elim
  | exc y S' => exact absurd rfl (h3 y S')
  | ok b S' =>
    cases h2 S' b rfl
    obtain ⟨k', hk, q⟩ := truV_ok (Q := fun c _ => c = b) (E := fun _ _ _ => False) s rx (by rw [h1]; exact fun _ _ v _ _ e => e.symm)
    subst q
    exact ⟨k', hk, f⟩
theorem mp_and (ha : PE X a (tM X.K W ma)) (hb : PE X (.BoolOp .And (b :: rest) pos) (tM X.K W mb)) : PE X (.BoolOp .And (a :: b :: rest) pos) (tM X.K W (andV ma mb)) :=
  PE.to (pe_andT ha hb) fun sg H Q h => (tG_bind (rel := rV) h).imp fun c H1 ⟨rho, e, S, x, s, re, rx, f⟩ => by
    obtain ⟨k, hk, f⟩ := fin_truth s rx f
    refine ⟨k, hk, ?_⟩
    cases k with
    | true => rw [if_pos rfl] at f ⊢; exact ⟨rho, e, S, s, re, f⟩
    | false => rw [if_neg (by decide)] at f ⊢; exact f rho H1 _ s Le.refl rx
theorem mp_or (ha : PE X a (tM X.K W ma)) (hb : PE X (.BoolOp .Or (b :: rest) pos) (tM X.K W mb)) : PE X (.BoolOp .Or (a :: b :: rest) pos) (tM X.K W (orV ma mb)) :=
  PE.to (pe_orT ha hb) fun sg H Q h => (tG_bind (rel := rV) h).imp fun c H1 ⟨rho, e, S, x, s, re, rx, f⟩ => by
    obtain ⟨k, hk, f⟩ := fin_truth s rx f
    refine ⟨k, hk, ?_⟩
    cases k with
    | true => rw [if_pos rfl] at f ⊢; exact f rho H1 _ s Le.refl rx
    | false => rw [if_neg (by decide)] at f ⊢; exact ⟨rho, e, S, s, re, f⟩
theorem mp_one {op} (h : PE X a (tM X.K W ma)) : PE X (.BoolOp op [a] pos) (tM X.K W ma) := pe_one h
theorem mp_not (ha : PE X a (tM X.K W ma)) : PE X (.UnaryOp .Not a pos) (tM X.K W (notV ma)) :=
  PE.to (pe_notT ha) fun sg H Q h => (tG_bind (rel := rV) h).imp fun c H1 ⟨rho, e, S, x, s, re, rx, f⟩ => by
    obtain ⟨k, hk, f⟩ := fin_truth s rx f
    exact ⟨k, hk, f rho H1 _ s Le.refl rfl⟩
/-- a if t else b -/
def ifV (t : EMt Bool) (ma mb : EM) : EM := bindM t fun b => if b = true then ma else mb
theorem mp_if (hc : PT X c (tB X.K W ba)) (ha : PE X a (tM X.K W ma)) (hb : PE X b (tM X.K W mb)) : PE X (.IfExp c a b pos) (tM X.K W (ifV ba ma mb)) :=
  PE.to (pe_ifExp hc ha hb) fun sg H Q h => (tG_bind (rel := rE Bool) h).imp fun k H1 ⟨rho, e, S, x, s, re, rx, f⟩ => by
    cases rx
    cases k with
    | true => rw [if_pos rfl] at f ⊢; exact ⟨rho, e, S, s, re, f⟩
    | false => rw [if_neg (by decide)] at f ⊢; exact ⟨rho, e, S, s, re, f⟩
/-- a op1 b op2 c -/
def chM (g g' : MV → MV → Sto → Res MV) (ma mb mc : EM) : EM := bindM ma fun x => bindM mb fun y => bindM (fun _ S => g x y S) fun z => bindM (fun _ S => blV z S) fun k => if k = true then (bindM mc fun w => fun _ S => g' y w S) else fun _ S => .ok (.bl false) S
end
end
end Mm
end

section
/-! ## M, part 3: operations -/
namespace Mm
open PySem L2
section
variable {K : PySem.W.Frag} {rho : Nat → Addr} {S : Sto} {H : Hp} {Q : VK} {E : XK}
/-- the ends of operations -/
theorem Fin.val {x : MV} {v : V} (f : Fin K rV rho S H Q E (.ok x S)) (s : Sim K rho S H) (r : Rep K rho S.n H x v) : Q v H := f rho H v s Le.refl r
/-- a new tuple -/
theorem Fin.tup {xs : List MV} {vs : List V} (f : Fin K rV rho S H Q E (.ok (.tup xs) S)) (s : Sim K rho S H) (r : RepL K rho S.n H xs vs) {p : Addr} (hp : H p = none) : Q (.ref p) (upd H p (.tup vs)) :=
  f rho _ _ (s.ofNew hp) (Le.ofNew hp) ⟨p, vs, rfl, SqT.of upd_same, r.upd (isMut_none hp)⟩
/-- a new list -/
theorem Fin.lst {xs : List MV} {vs : List V} (f : Fin K rV rho S H Q E (.ok (.ref S.n) (S.add (.lst xs)))) (s : Sim K rho S H) (r : RepL K rho S.n H xs vs) {p : Addr} (hp : H p = none) : Q (.ref p) (upd H p (.lst vs)) :=
  f (ext rho S.n p) _ _ (s.add hp rfl ⟨vs, upd_same, RepL.mono (Nat.le_succ _) (fun _ h => ext_lt h) (fun _ _ => sqT_upd (isMut_none hp)) r⟩) (Le.add hp) ⟨Nat.lt_succ_self _, by rw [ext_at]⟩
theorem Fin.dK {xs : List (Key × MV)} {vs : List (Key × V)} (f : Fin K rV rho S H Q E (.ok (.ref S.n) (S.add (.dK xs)))) (s : Sim K rho S H) (r : RepP K rho S.n H xs vs) {p : Addr} (hp : H p = none) : Q (.ref p) (upd H p (.dK vs)) :=
  f (ext rho S.n p) _ _ (s.add hp rfl ⟨vs, upd_same, RepP.mono (Nat.le_succ _) (fun _ h => ext_lt h) (fun _ _ => sqT_upd (isMut_none hp)) r⟩) (Le.add hp) ⟨Nat.lt_succ_self _, by rw [ext_at]⟩
theorem Fin.dT {xs : List (List Key × MV)} {vs : List (List Key × V)} (f : Fin K rV rho S H Q E (.ok (.ref S.n) (S.add (.dT xs)))) (s : Sim K rho S H) (r : RepP K rho S.n H xs vs) {p : Addr} (hp : H p = none) : Q (.ref p) (upd H p (.dT vs)) :=
  f (ext rho S.n p) _ _ (s.add hp rfl ⟨vs, upd_same, RepP.mono (Nat.le_succ _) (fun _ h => ext_lt h) (fun _ _ => sqT_upd (isMut_none hp)) r⟩) (Le.add hp) ⟨Nat.lt_succ_self _, by rw [ext_at]⟩
/-- a list that is read -/
def seqO : MO → Option (List MV)
  | .lst xs => some xs
  | .con xs => some xs
  | _ => none
theorem seqO_at (s : Sim K rho S H) {k : Nat} (hk : k < S.n) {xs : List MV} (h : seqO (S.g k) = some xs) : ∃ vs, SqL K H (rho k) vs ∧ RepL K rho S.n H xs vs := by
  have ho := s.obj k hk
  cases q : S.g k with
  | lst ys =>
    rw [q] at ho h
    cases h
    obtain ⟨vs, h1, h2⟩ := ho
    exact ⟨vs, SqL.of h1, h2⟩
  | con ys =>
    rw [q] at ho h
    cases h
    exact sq_con ho
  | dK _ => rw [q] at h; cases h
  | dT _ => rw [q] at h; cases h
  | ins _ _ => rw [q] at h; cases h
theorem lst_at (s : Sim K rho S H) {k : Nat} (hk : k < S.n) {xs : List MV} (h : S.g k = .lst xs) : ∃ vs, H (rho k) = some (.lst vs) ∧ RepL K rho S.n H xs vs := by
  have ho := s.obj k hk
  rw [h] at ho
  exact ho
theorem dK_at (s : Sim K rho S H) {k : Nat} (hk : k < S.n) {xs : List (Key × MV)} (h : S.g k = .dK xs) : ∃ vs, H (rho k) = some (.dK vs) ∧ RepP K rho S.n H xs vs := by
  have ho := s.obj k hk
  rw [h] at ho
  exact ho
theorem dT_at (s : Sim K rho S H) {k : Nat} (hk : k < S.n) {xs : List (List Key × MV)} (h : S.g k = .dT xs) : ∃ vs, H (rho k) = some (.dT vs) ∧ RepP K rho S.n H xs vs := by
  have ho := s.obj k hk
  rw [h] at ho
  exact ho
end

/-! ### + - * // % ** -/
def addV : MV → MV → Sto → Res MV
  | .int i, .int j, S => .ok (.int (i + j)) S
  | .str i, .str j, S => if i.length + j.length ≤ sizeLine then .ok (.str (i ++ j)) S else .bad
  | .tup xs, .tup ys, S => if xs.length + ys.length ≤ sizeLine then .ok (.tup (xs ++ ys)) S else .bad
  | .ref a, .ref b, S => match S.g a, S.g b with
    | .lst xs, .lst ys => if xs.length + ys.length ≤ sizeLine then .ok (.ref S.n) (S.add (.lst (xs ++ ys))) else .bad
    | _, _ => .bad
  | _, _, _ => .bad
def rAddV (K : PySem.W.Frag) : R2 := fun x y H Q => ((rI0 fun i j => .int (i + j)) x y H Q ∨ (∃ i j, x = .str i ∧ y = .str j ∧ i.length + j.length ≤ sizeLine ∧ Q (.str (i ++ j)) H)) ∨ (rCat x y H Q ∨ rCatA K x y H Q)
theorem op_addV {X : Cx} : OpR X (binaryOp .Add) (rAddV X.K) := OpR.or (OpR.or op_add op_add_str) (OpR.or op_cat op_catA)
theorem addV_ok {K : PySem.W.Frag} : Snd2 K (rAddV K) addV := by
  intro rho S H x y vx vy Q E s rx ry f
  unfold addV at f
  split at f
  · exact .inl (.inl ⟨_, _, rx, ry, f.val s rfl⟩)
  · split at f
    · rename_i h; exact .inl (.inr ⟨_, _, rx, ry, h, f.val s rfl⟩)
    · exact f.elim
  · rename_i xs ys
    split at f
    · rename_i h
      obtain ⟨a, vs, h1, h2, h3⟩ := rx
      obtain ⟨b, ws, g1, g2, g3⟩ := ry
      refine .inr (.inr ⟨a, b, vs, ws, h1, g1, h2, g2, by rw [h3.len, g3.len]; exact h, fun e => ?_, fun _ e => ?_, fun _ _ p hp => ?_⟩)
      · have e2 : xs = [] := h3.nil_iff.mp e
        subst e2
        exact f.val s ⟨b, ws, rfl, g2, g3⟩
      · have e2 : ys = [] := g3.nil_iff.mp e
        subst e2
        rw [List.append_nil] at f
        exact f.val s ⟨a, vs, rfl, h2, h3⟩
      · exact f.tup s (h3.app g3) hp
    · exact f.elim
  · rename_i a b
    split at f
    · rename_i xs ys qa qb
      split at f
      · rename_i h
        obtain ⟨ha, ea⟩ := rx
        obtain ⟨hb, eb⟩ := ry
        obtain ⟨vs, h1, h2⟩ := lst_at s ha qa
        obtain ⟨ws, g1, g2⟩ := lst_at s hb qb
        exact .inr (.inl ⟨_, _, vs, ws, ea, eb, h1, g1, by rw [h2.len, g2.len]; exact h, fun p hp => f.lst s (h2.app g2) hp⟩)
      · exact f.elim
    · exact f.elim
  · exact f.elim
def subV : MV → MV → Sto → Res MV
  | .int i, .int j, S => .ok (.int (i - j)) S
  | _, _, _ => .bad
theorem subV_ok {K : PySem.W.Frag} : Snd2 K (rI0 fun i j => .int (i - j)) subV := by
  intro rho S H x y vx vy Q E s rx ry f
  unfold subV at f
  split at f
  · exact ⟨_, _, rx, ry, f.val s rfl⟩
  · exact f.elim
def MulOk (i j : Int) : Prop := CMul i j ∨ CMulW i j
open Classical in
noncomputable def mulV : MV → MV → Sto → Res MV
  | .int i, .int j, S => if MulOk i j then .ok (.int (i * j)) S else .bad
  | _, _, _ => .bad
def rMulV : R2 := fun x y H Q => rI CMul (fun i j => .int (i * j)) x y H Q ∨ rI CMulW (fun i j => .int (i * j)) x y H Q
theorem op_mulV {X : Cx} : OpR X (binaryOp .Mult) rMulV := OpR.or op_mul op_mulW
theorem mulV_ok {K : PySem.W.Frag} : Snd2 K rMulV mulV := by
  intro rho S H x y vx vy Q E s rx ry f
  unfold mulV at f
  split at f
  · split at f
    · rename_i h
      rcases h with h | h
      · exact .inl ⟨_, _, rx, ry, h, f.val s rfl⟩
      · exact .inr ⟨_, _, rx, ry, h, f.val s rfl⟩
    · exact f.elim
  · exact f.elim
def divV : MV → MV → Sto → Res MV
  | .int i, .int j, S => if 0 < j ∧ j.natAbs.log2 < 9000 then .ok (.int (i / j)) S else .bad
  | _, _, _ => .bad
theorem divV_ok {K : PySem.W.Frag} : Snd2 K (rI CDivW fun i j => .int (i / j)) divV := by
  intro rho S H x y vx vy Q E s rx ry f
  unfold divV at f
  split at f
  · split at f
    · rename_i h; exact ⟨_, _, rx, ry, h, f.val s rfl⟩
    · exact f.elim
  · exact f.elim
def modV : MV → MV → Sto → Res MV
  | .int i, .int j, S => if 0 < j then .ok (.int (i % j)) S else .bad
  | _, _, _ => .bad
theorem modV_ok {K : PySem.W.Frag} : Snd2 K (rI (fun _ j => 0 < j) fun i j => .int (i % j)) modV := by
  intro rho S H x y vx vy Q E s rx ry f
  unfold modV at f
  split at f
  · split at f
    · rename_i h; exact ⟨_, _, rx, ry, h, f.val s rfl⟩
    · exact f.elim
  · exact f.elim
def powV : MV → MV → Sto → Res MV
  | .int i, .int j, S => if 0 ≤ j ∧ j ≤ 1000000 ∧ i.natAbs < 2 ^ 64 then .ok (.int (i ^ j.toNat)) S else .bad
  | _, _, _ => .bad
theorem powV_ok {K : PySem.W.Frag} : Snd2 K (rI CPow fun i j => .int (i ^ j.toNat)) powV := by
  intro rho S H x y vx vy Q E s rx ry f
  unfold powV at f
  split at f
  · split at f
    · rename_i h; exact ⟨_, _, rx, ry, h, f.val s rfl⟩
    · exact f.elim
  · exact f.elim
def negV : MV → Sto → Res MV
  | .int i, S => .ok (.int (-i)) S
  | _, _ => .bad
theorem negV_ok {K : PySem.W.Frag} : Snd1 K (rU fun i => .int (-i)) negV := by
  intro rho S H x vx Q E s rx f
  unfold negV at f
  split at f
  · exact ⟨_, rx, f.val s rfl⟩
  · exact f.elim

/-! ### == -/
mutual
/-- data by value; numbers are looked up by f -/
def toDw (f : Nat → Option PyData) : MV → Option PyData
  | .non => some .none
  | .bl b => some (.bool b)
  | .int i => some (.int i)
  | .str x => some (.str x)
  | .ty _ => none
  | .obj _ => none
  | .ref k => f k
  | .tup xs => (toDwL f xs).map .tuple
def toDwL (f : Nat → Option PyData) : List MV → Option (List PyData)
  | [] => some []
  | x :: xs => match toDw f x, toDwL f xs with
    | some d, some ds => some (d :: ds)
    | _, _ => none
end
def look (S : Sto) : Nat → Nat → Option PyData
  | 0, _ => none
  | f + 1, k => match seqO (S.g k) with
    | some xs => (toDwL (look S f) xs).map .list
    | none => none
/-- lists within lists to a depth of eight -/
def toD (S : Sto) (x : MV) : Option PyData := toDw (look S 8) x
section
variable {K : PySem.W.Frag} {rho : Nat → Addr} {S : Sto} {H : Hp}
mutual
theorem toDw_ok {n : Nat} {f : Nat → Option PyData} (hf : ∀ k d, k < n → f k = some d → Dp K H (.ref (rho k)) d) : ∀ {x : MV} {v : V} {d : PyData}, Rep K rho n H x v → toDw f x = some d → Dp K H v d
  | .non, v, d, r, e => by cases e; cases (show v = .non from r); exact .non
  | .bl b, v, d, r, e => by cases e; cases (show v = .bl b from r); exact .bl b
  | .int b, v, d, r, e => by cases e; cases (show v = .int b from r); exact .int b
  | .str b, v, d, r, e => by cases e; cases (show v = .str b from r); exact .str b
  | .ty _, _, _, _, e => by cases e
  | .obj _, _, _, _, e => by cases e
  | .ref k, v, d, r, e => by
    obtain ⟨h1, h2⟩ := r
    rw [h2]
    exact hf k d h1 e
  | .tup xs, v, d, r, e => by
    obtain ⟨a, vs, h1, h2, h3⟩ := r
    rw [h1]
    cases q : toDwL f xs with
    | none => simp only [toDw, q] at e; cases e
    | some ds =>
      simp only [toDw, q, Option.map_some, Option.some.injEq] at e
      subst e
      exact .tup h2 (toDwL_ok hf h3 q)
theorem toDwL_ok {n : Nat} {f : Nat → Option PyData} (hf : ∀ k d, k < n → f k = some d → Dp K H (.ref (rho k)) d) : ∀ {xs : List MV} {vs : List V} {ds : List PyData}, RepL K rho n H xs vs → toDwL f xs = some ds → DpAll K H vs ds
  | [], vs, ds, r, e => by cases e; cases (show vs = [] from r); exact .nil
  | x :: xs, vs, ds, r, e => by
    obtain ⟨w, r', h1, h2, h3⟩ := r
    subst h1
    simp only [toDwL] at e
    split at e
    · rename_i d ds' q1 q2
      cases e
      exact .cons (toDw_ok hf h2 q1) (toDwL_ok hf h3 q2)
    · cases e
end
theorem look_ok (s : Sim K rho S H) : ∀ (f k : Nat) (d : PyData), k < S.n → look S f k = some d → Dp K H (.ref (rho k)) d
  | 0, _, _, _, e => by cases e
  | f + 1, k, d, hk, e => by
    simp only [look] at e
    split at e
    · rename_i xs q
      obtain ⟨vs, h1, h2⟩ := seqO_at s hk q
      cases q2 : toDwL (look S f) xs with
      | none => rw [q2] at e; cases e
      | some ds =>
        rw [q2] at e
        cases e
        exact .lst h1 (toDwL_ok (fun k d hk e => look_ok s f k d hk e) h2 q2)
    · cases e
theorem toD_ok (s : Sim K rho S H) {x : MV} {v : V} {d : PyData} (r : Rep K rho S.n H x v) (e : toD S x = some d) : Dp K H v d := toDw_ok (fun k d hk e => look_ok s 8 k d hk e) r e
end
def twoS (x y : MV) : Bool := match x, y with
  | .str _, .str _ => true
  | _, _ => false
def eqV (x y : MV) (S : Sto) : Res MV := match toD S x, toD S y with
  | some d, some e => if (SeqAt.shaped d = true ∧ SeqAt.shaped e = true) ∨ twoS x y = true then .ok (.bl (PyData.eqv d e)) S else .bad
  | _, _ => .bad
def neV (x y : MV) (S : Sto) : Res MV := match toD S x, toD S y with
  | some d, some e => if (SeqAt.shaped d = true ∧ SeqAt.shaped e = true) ∨ twoS x y = true then .ok (.bl (!PyData.eqv d e)) S else .bad
  | _, _ => .bad
theorem twoS_eq {x y : MV} (h : twoS x y = true) : ∃ a b, x = .str a ∧ y = .str b := by
  cases x <;> cases y <;> first | exact ⟨_, _, rfl, rfl⟩ | cases h
def rEqM (K : PySem.W.Frag) : R2 := fun x y H Q => rEq x y H Q ∨ rEqD K x y H Q
def rNeM (K : PySem.W.Frag) : R2 := fun x y H Q => rNe x y H Q ∨ rNeD K x y H Q
theorem op_eqM {X : Cx} (hu : X.A.units + 64 < cLine) : OpR X (compareOp .Eq) (rEqM X.K) := OpR.or op_eq (op_eqD hu)
theorem op_neM {X : Cx} (hu : X.A.units + 64 < cLine) : OpR X (compareOp .NotEq) (rNeM X.K) := OpR.or op_ne (op_neD hu)
theorem eqV_ok {K : PySem.W.Frag} : Snd2 K (rEqM K) eqV := by
  intro rho S H x y vx vy Q E s rx ry f
  unfold eqV at f
  split at f
  · rename_i d e q1 q2
    split at f
    · rename_i h
      have q := f.val s rfl
      rcases h with h | h
      · exact .inr ⟨d, e, toD_ok s rx q1, toD_ok s ry q2, h.1, h.2, q⟩
      · obtain ⟨a, b, rfl, rfl⟩ := twoS_eq h
        cases q1; cases q2
        cases (show vx = .str a from rx)
        cases (show vy = .str b from ry)
        exact .inl ⟨rfl, by rw [dec_str]; exact q⟩
    · exact f.elim
  · exact f.elim
theorem neV_ok {K : PySem.W.Frag} : Snd2 K (rNeM K) neV := by
  intro rho S H x y vx vy Q E s rx ry f
  unfold neV at f
  split at f
  · rename_i d e q1 q2
    split at f
    · rename_i h
      have q := f.val s rfl
      rcases h with h | h
      · exact .inr ⟨d, e, toD_ok s rx q1, toD_ok s ry q2, h.1, h.2, q⟩
      · obtain ⟨a, b, rfl, rfl⟩ := twoS_eq h
        cases q1; cases q2
        cases (show vx = .str a from rx)
        cases (show vy = .str b from ry)
        exact .inl ⟨rfl, by rw [dec_str]; exact q⟩
    · exact f.elim
  · exact f.elim

/-! ### < <= > >= is -/
def ltV : MV → MV → Sto → Res MV
  | .int i, .int j, S => .ok (.bl (decide (i < j))) S
  | .str i, .str j, S => .ok (.bl (decide (i.cps.toList < j.cps.toList))) S
  | _, _, _ => .bad
def rLtV : R2 := fun x y H Q => (rI0 fun i j => .bl (decide (i < j))) x y H Q ∨ ∃ i j, x = .str i ∧ y = .str j ∧ Q (.bl (decide (i.cps.toList < j.cps.toList))) H
theorem op_ltV {X : Cx} : OpR X (compareOp .Lt) rLtV := OpR.or op_lt op_lt_str
theorem ltV_ok {K : PySem.W.Frag} : Snd2 K rLtV ltV := by
  intro rho S H x y vx vy Q E s rx ry f
  unfold ltV at f
  split at f
  · exact .inl ⟨_, _, rx, ry, f.val s rfl⟩
  · exact .inr ⟨_, _, rx, ry, f.val s rfl⟩
  · exact f.elim
def leV : MV → MV → Sto → Res MV
  | .int i, .int j, S => .ok (.bl (decide (i ≤ j))) S
  | _, _, _ => .bad
theorem leV_ok {K : PySem.W.Frag} : Snd2 K (rI0 fun i j => .bl (decide (i ≤ j))) leV := by
  intro rho S H x y vx vy Q E s rx ry f
  unfold leV at f
  split at f
  · exact ⟨_, _, rx, ry, f.val s rfl⟩
  · exact f.elim
def gtV : MV → MV → Sto → Res MV
  | .int i, .int j, S => .ok (.bl (decide (j < i))) S
  | _, _, _ => .bad
theorem gtV_ok {K : PySem.W.Frag} : Snd2 K (rI0 fun i j => .bl (decide (j < i))) gtV := by
  intro rho S H x y vx vy Q E s rx ry f
  unfold gtV at f
  split at f
  · exact ⟨_, _, rx, ry, f.val s rfl⟩
  · exact f.elim
def geV : MV → MV → Sto → Res MV
  | .int i, .int j, S => .ok (.bl (decide (j ≤ i))) S
  | _, _, _ => .bad
theorem geV_ok {K : PySem.W.Frag} : Snd2 K (rI0 fun i j => .bl (decide (j ≤ i))) geV := by
  intro rho S H x y vx vy Q E s rx ry f
  unfold geV at f
  split at f
  · exact ⟨_, _, rx, ry, f.val s rfl⟩
  · exact f.elim
def isNon : MV → Bool
  | .non => true
  | _ => false
def isNV : MV → MV → Sto → Res MV
  | x, .non, S => .ok (.bl (isNon x)) S
  | _, _, _ => .bad
def notNV : MV → MV → Sto → Res MV
  | x, .non, S => .ok (.bl (!isNon x)) S
  | _, _, _ => .bad
theorem isNon_eq {K : PySem.W.Frag} {rho : Nat → Addr} {n : Nat} {H : Hp} {x : MV} {v : V} (r : Rep K rho n H x v) : decide (v = .non) = isNon x := by
  cases x with
  | non => cases (show v = .non from r); rfl
  | bl b => cases (show v = .bl b from r); rfl
  | int b => cases (show v = .int b from r); rfl
  | str b => cases (show v = .str b from r); rfl
  | ty b => cases (show v = .ty b from r); rfl
  | obj b => cases (show v = .ref b from r); rfl
  | ref k => obtain ⟨_, e⟩ := r; rw [e]; rfl
  | tup k => obtain ⟨_, _, e, _⟩ := r; rw [e]; rfl
theorem isNV_ok {K : PySem.W.Frag} : Snd2 K (fun x y H Q => y = .non ∧ Q (.bl (decide (x = .non))) H) isNV := by
  intro rho S H x y vx vy Q E s rx ry f
  unfold isNV at f
  split at f
  · exact ⟨ry, by rw [isNon_eq rx]; exact f.val s rfl⟩
  · exact f.elim
theorem notNV_ok {K : PySem.W.Frag} : Snd2 K (fun x y H Q => y = .non ∧ Q (.bl (!decide (x = .non))) H) notNV := by
  intro rho S H x y vx vy Q E s rx ry f
  unfold notNV at f
  split at f
  · exact ⟨ry, by rw [isNon_eq rx]; exact f.val s rfl⟩
  · exact f.elim
end Mm
end

section
/-! ## M, part 4: sequences and dicts -/
namespace Mm
open PySem L2 PyProof.Rows
/-! ### displays, argument lists -/
def nilM : EMt (List MV) := fun _ S => .ok [] S
def consM (ma : EM) (mr : EMt (List MV)) : EMt (List MV) := bindM ma fun x => bindM mr fun xs => fun _ S => .ok (x :: xs) S
def lenOk (n : Nat) : Bool := decide (n ≤ sizeLine)
def tupV (xs : List MV) (S : Sto) : Res MV := if xs.length ≤ sizeLine then .ok (.tup xs) S else .bad
def lstV (xs : List MV) (S : Sto) : Res MV := if xs.length ≤ sizeLine then .ok (.ref S.n) (S.add (.lst xs)) else .bad
section
variable {X : Cx} {e a b : Expr} {es : List Expr} {pos : Pos} {W : WX} {m ma mb : EM} {ml : EMt (List MV)}
theorem mp_nil : PA X [] (tA X.K W nilM) := PA.to pa_nil fun sg H Q h => by
  obtain ⟨rho, e, S, s, re, f⟩ := h
  exact f rho H [] s Le.refl rfl
theorem mp_cons (ha : PE X e (tM X.K W m)) (hr : PA X es (tA X.K W ml)) (hs : starEach (e :: es) X.env = (false, eval e X.env) :: starEach es X.env := by rfl) : PA X (e :: es) (tA X.K W (consM m ml)) :=
  PA.to (pa_cons ha hr hs) fun sg H Q h => (tG_bind (rel := rV) h).imp fun v H1 ⟨rho, e, S, x, s, re, rx, f⟩ => by
    refine ⟨rho, e, S, s, re, ?_⟩
    unfold bindM at f
    cases q : ml e S with
    | ok xs S' =>
      rw [q] at f
      exact fun rho' H' vs s' l' rs => f rho' H' _ s' l' ⟨v, vs, rfl, rx.le l', rs⟩
    | exc ex S' => rw [q] at f; exact f
    | bad => rw [q] at f; exact f
theorem mp_tup {k} (h : PA X es (tA X.K W ml)) : PE X (.Tuple es k pos) (tM X.K W (opL tupV ml)) :=
  PE.to (pe_tup h) fun sg H Q h => (tG_bind (rel := rL) h).imp fun vs H1 ⟨rho, e, S, xs, s, re, rx, f⟩ => by
    unfold tupV at f
    split at f
    · rename_i hl
      exact ⟨by rw [rx.len]; exact hl, fun p hp => f.tup s rx hp⟩
    · exact f.elim
theorem mp_lst (h : PA X es (tA X.K W ml)) : PE X (.List es pos) (tM X.K W (opL lstV ml)) :=
  PE.to (pe_lst h) fun sg H Q h => (tG_bind (rel := rL) h).imp fun vs H1 ⟨rho, e, S, xs, s, re, rx, f⟩ => by
    unfold lstV at f
    split at f
    · rename_i hl
      exact ⟨by rw [rx.len]; exact hl, fun p hp => f.lst s rx hp⟩
    · exact f.elim
def dNewK : EM := fun _ S => .ok (.ref S.n) (S.add (.dK []))
def dNewT : EM := fun _ S => .ok (.ref S.n) (S.add (.dT []))
theorem mp_dnewK : PE X (.Dict [] [] pos) (tM X.K W dNewK) := PE.to pe_dnewK fun sg H Q h => by
  obtain ⟨rho, e, S, s, re, f⟩ := h
  exact fun p hp => f.dK s (vs := []) rfl hp
theorem mp_dnewT : PE X (.Dict [] [] pos) (tM X.K W dNewT) := PE.to pe_dnewT fun sg H Q h => by
  obtain ⟨rho, e, S, s, re, f⟩ := h
  exact fun p hp => f.dT s (vs := []) rfl hp
end

/-! ### keys -/
def toK : MV → Option Key
  | .int i => some (.inl i)
  | .str x => some (.inr x)
  | _ => none
section
variable {ka : Type} [DecidableEq ka]
def valM (kvs : List (ka × MV)) (k : ka) : Option MV := (kvs.find? fun kv => decide (kv.1 = k)).map (·.2)
def putM (kvs : List (ka × MV)) (k : ka) (v : MV) : List (ka × MV) :=
  if (kvs.any fun kv => decide (kv.1 = k)) = true then kvs.map (fun kv => if kv.1 = k then (kv.1, v) else kv) else kvs ++ [(k, v)]
def dropM (kvs : List (ka × MV)) (k : ka) : List (ka × MV) := kvs.filter fun kv => decide (kv.1 ≠ k)
variable {K : PySem.W.Frag} {rho : Nat → Addr} {n : Nat} {H : Hp}
theorem RepP.len {ka : Type} : ∀ {ps : List (ka × MV)} {ws : List (ka × V)}, RepP K rho n H ps ws → ws.length = ps.length
  | [], ws, h => by rw [show ws = [] from h]; rfl
  | p :: ps, ws, h => by
    obtain ⟨w, r, h1, _, h3⟩ := h
    rw [h1, List.length_cons, List.length_cons, RepP.len h3]
theorem RepP.val {k : ka} : ∀ {ps : List (ka × MV)} {ws : List (ka × V)}, RepP K rho n H ps ws → (∀ x, valM ps k = some x → ∃ v, valV ws k = some v ∧ Rep K rho n H x v) ∧ (valM ps k = none → valV ws k = none)
  | [], ws, h => by rw [show ws = [] from h]; exact ⟨fun x e => by simp [valM] at e, fun _ => valV_nil⟩
  | p :: ps, ws, h => by
    obtain ⟨w, r, h1, h2, h3⟩ := h
    subst h1
    by_cases e : p.1 = k
    · refine ⟨fun x q => ⟨w, valV_pos e, ?_⟩, fun q => ?_⟩
      · simp [valM, List.find?_cons, e] at q; rw [← q]; exact h2
      · simp [valM, List.find?_cons, e] at q
    · have q : valM (p :: ps) k = valM ps k := by simp [valM, List.find?_cons, e]
      rw [q, valV_neg (p := (p.1, w)) e]
      exact RepP.val h3
theorem RepP.any {k : ka} : ∀ {ps : List (ka × MV)} {ws : List (ka × V)}, RepP K rho n H ps ws → (ws.any fun kv => decide (kv.1 = k)) = (ps.any fun kv => decide (kv.1 = k))
  | [], ws, h => by rw [show ws = [] from h]; rfl
  | p :: ps, ws, h => by
    obtain ⟨w, r, h1, h2, h3⟩ := h
    subst h1
    rw [List.any_cons, List.any_cons, RepP.any h3]
theorem RepP.repl {k : ka} {x : MV} {v : V} (rx : Rep K rho n H x v) : ∀ {ps : List (ka × MV)} {ws : List (ka × V)}, RepP K rho n H ps ws → RepP K rho n H (ps.map fun kv => if kv.1 = k then (kv.1, x) else kv) (ws.map fun kv => if kv.1 = k then (kv.1, v) else kv)
  | [], ws, h => by rw [show ws = [] from h]; rfl
  | p :: ps, ws, h => by
    obtain ⟨w, r, h1, h2, h3⟩ := h
    subst h1
    rw [List.map_cons, List.map_cons]
    by_cases e : p.1 = k
    · rw [if_pos e, if_pos e]; exact ⟨v, _, rfl, rx, RepP.repl rx h3⟩
    · rw [if_neg e, if_neg e]; exact ⟨w, _, rfl, h2, RepP.repl rx h3⟩
theorem RepP.app {ka : Type} : ∀ {ps qs : List (ka × MV)} {ws us : List (ka × V)}, RepP K rho n H ps ws → RepP K rho n H qs us → RepP K rho n H (ps ++ qs) (ws ++ us)
  | [], qs, ws, us, h, q => by rw [show ws = [] from h]; exact q
  | p :: ps, qs, ws, us, h, q => by
    obtain ⟨w, r, h1, h2, h3⟩ := h
    subst h1
    exact ⟨w, _, rfl, h2, RepP.app h3 q⟩
theorem RepP.put {k : ka} {x : MV} {v : V} (rx : Rep K rho n H x v) {ps : List (ka × MV)} {ws : List (ka × V)} (h : RepP K rho n H ps ws) : RepP K rho n H (putM ps k x) (putK ws k v) := by
  unfold putM putK
  rw [h.any]
  split
  · exact RepP.repl rx h
  · exact h.app ⟨v, [], rfl, rx, rfl⟩
theorem RepP.filt {k : ka} : ∀ {ps : List (ka × MV)} {ws : List (ka × V)}, RepP K rho n H ps ws → RepP K rho n H (dropM ps k) (dropK ws k)
  | [], ws, h => by rw [show ws = [] from h]; rfl
  | p :: ps, ws, h => by
    obtain ⟨w, r, h1, h2, h3⟩ := h
    subst h1
    have ih := RepP.filt (k := k) h3
    unfold dropM dropK at ih ⊢
    rw [List.filter_cons, List.filter_cons]
    by_cases e : p.1 = k
    · rw [if_neg (by simp [e]), if_neg (by simp [e])]; exact ih
    · rw [if_pos (by simp [e]), if_pos (by simp [e])]; exact ⟨w, _, rfl, h2, ih⟩
end
theorem toK_rep {K : PySem.W.Frag} {rho : Nat → Addr} {n : Nat} {H : Hp} {x : MV} {v : V} {k : Key} (r : Rep K rho n H x v) (e : toK x = some k) : v = kV k := by
  cases x with
  | int i => cases e; exact r
  | str i => cases e; exact r
  | _ => cases e

/-! ### places -/
theorem atI_len {al be : Type} {xs : List al} {vs : List be} (h : vs.length = xs.length) {i : Int} {x : al} (e : atI xs i = some x) : ∃ j, ixN xs.length i = some j ∧ xs[j]? = some x ∧ ∀ v, vs[j]? = some v → atI vs i = some v := by
  unfold atI at e
  cases q : ixN xs.length i with
  | none => rw [q] at e; cases e
  | some j =>
    rw [q] at e
    refine ⟨j, rfl, e, fun v hv => ?_⟩
    unfold atI
    rw [h, q]
    exact hv
theorem RepL.at {K : PySem.W.Frag} {rho : Nat → Addr} {n : Nat} {H : Hp} {xs : List MV} {vs : List V} (r : RepL K rho n H xs vs) {i : Int} {x : MV} (e : atI xs i = some x) : ∃ v, atI vs i = some v ∧ Rep K rho n H x v := by
  obtain ⟨j, _, h2, h3⟩ := atI_len r.len e
  obtain ⟨v, h4, h5⟩ := r.get h2
  exact ⟨v, h3 v h4, h5⟩
def optV (o : Option MV) (S : Sto) : Res MV := match o with
  | some x => .ok x S
  | none => .bad
def idxV : MV → MV → Sto → Res MV
  | .tup xs, .int i, S => optV (atI xs i) S
  | .str z, .int i, S => if z.length ≤ sizeLine then optV ((atI z.cps.toList i).map fun c => .str ⟨#[c]⟩) S else .bad
  | .ref k, y, S => match S.g k with
    | .lst xs => (match y with
      | .int i => optV (atI xs i) S
      | _ => .bad)
    | .con xs => (match y with
      | .int i => optV (atI xs i) S
      | _ => .bad)
    | .dK kvs => (match toK y with
      | some key => optV (valM kvs key) S
      | none => .bad)
    | _ => .bad
  | _, _, _ => .bad
def rDGet : R2 := fun x y H Q => ∃ a v, x = .ref a ∧ DGet H a y (some v) ∧ Q v H
theorem ix_dict {X : Cx} (hu : X.A.units + 1 < cLine) : IxR X rDGet := by
  intro value slice pins s sg H x y v u Q I rx ry h hs
  obtain ⟨a, z, rfl, g, q⟩ := h
  cases rx
  exact tail_any (dict_typeIs I g) PySem.F.slot_dict_getitem.lookup (d_getItem hu I g ry fun w' s' I' rw' => ⟨z, H, I', rw', q⟩) hs
def rIdxV (K : PySem.W.Frag) : R2 := fun x y H Q => rIx K x y H Q ∨ rDGet x y H Q
theorem ix_idxV {X : Cx} (hu : X.A.units + 1 < cLine) : IxR X (rIdxV X.K) := IxR.or ix_seq (ix_dict hu)
theorem Fin.opt {K : PySem.W.Frag} {rho : Nat → Addr} {S : Sto} {H : Hp} {Q : VK} {E : XK} {o : Option MV} (f : Fin K rV rho S H Q E (optV o S)) : ∃ x, o = some x ∧ Fin K rV rho S H Q E (.ok x S) := by
  cases o with
  | some x => exact ⟨x, rfl, f⟩
  | none => exact f.elim
theorem idxV_ok {K : PySem.W.Frag} : Snd2 K (rIdxV K) idxV := by
  intro rho S H x y vx vy Q E s rx ry f
  unfold idxV at f
  split at f
  · obtain ⟨z, e, f⟩ := f.opt
    obtain ⟨a, vs, h1, h2, h3⟩ := rx
    obtain ⟨v, h4, h5⟩ := h3.at e
    exact .inl (.inr (.inl ⟨a, vs, _, v, h1, ry, h2, h4, f.val s h5⟩))
  · split at f
    · rename_i hl
      obtain ⟨z, e, f⟩ := f.opt
      cases q : atI _ _ with
      | none => rw [q] at e; cases e
      | some c =>
        rw [q] at e; cases e
        exact .inl (.inr (.inr ⟨_, _, c, rx, ry, hl, q, f.val s rfl⟩))
    · exact f.elim
  · rename_i k
    obtain ⟨hk, ek⟩ := rx
    subst ek
    cases q : S.g k with
    | lst xs =>
      simp only [q] at f
      split at f
      · obtain ⟨z, e, f⟩ := f.opt
        obtain ⟨vs, h1, h2⟩ := lst_at s hk q
        obtain ⟨v, h4, h5⟩ := h2.at e
        exact .inl (.inl ⟨_, vs, _, v, rfl, ry, SqL.of h1, h4, f.val s h5⟩)
      · exact f.elim
    | con xs =>
      simp only [q] at f
      split at f
      · obtain ⟨z, e, f⟩ := f.opt
        obtain ⟨vs, h1, h2⟩ := seqO_at s hk (xs := xs) (by rw [q]; rfl)
        obtain ⟨v, h4, h5⟩ := h2.at e
        exact .inl (.inl ⟨_, vs, _, v, rfl, ry, h1, h4, f.val s h5⟩)
      · exact f.elim
    | dK kvs =>
      simp only [q] at f
      split at f
      · rename_i key hkey
        obtain ⟨z, e, f⟩ := f.opt
        obtain ⟨ws, h1, h2⟩ := dK_at s hk q
        obtain ⟨v, h4, h5⟩ := h2.val.1 z e
        exact .inr ⟨_, v, rfl, .inl ⟨ws, key, .inl h1, toK_rep ry hkey, h4.symm⟩, f.val s h5⟩
      · exact f.elim
    | dT kvs => simp only [q] at f; exact f.elim
    | ins C fs => simp only [q] at f; exact f.elim
  · exact f.elim
section
variable {X : Cx} {e a b : Expr} {es : List Expr} {pos : Pos} {W : WX} {m ma mb : EM} {ml : EMt (List MV)} {K : PySem.W.Frag}
theorem mp_ix {r : R2} {g : MV → MV → Sto → Res MV} (hi : IxR X r) (hs : Snd2 X.K r g) (ha : PE X a (tM X.K W ma)) (hb : PE X b (tM X.K W mb)) (hp : PlainIx b := by exact fun _ _ => rfl) : PE X (.Subscript a b pos) (tM X.K W (op2 g ma mb)) :=
  PE.to (pe_ix hi ha hb hp) fun _ _ _ => tM_op2 hs
theorem mp_idx (hu : X.A.units + 1 < cLine) (ha : PE X a (tM X.K W ma)) (hb : PE X b (tM X.K W mb)) (hp : PlainIx b := by exact fun _ _ => rfl) : PE X (.Subscript a b pos) (tM X.K W (op2 idxV ma mb)) :=
  mp_ix (ix_idxV hu) idxV_ok ha hb hp

/-! ### slices -/
def prtM (o : Option EM) : EMt (Option Int) := match o with
  | none => fun _ S => .ok none S
  | some m => bindM m fun x => fun _ S => match x with
    | .int i => .ok (some i) S
    | _ => .bad
abbrev tP (K : PySem.W.Frag) (W : WX) (m : EMt (Option Int)) : TO := tG K (rE (Option Int)) W m
theorem mp_pno : PO X none (tP X.K W (prtM none)) := ⟨fun pins s sg H Q I h => po_none.run pins s sg H Q I (by
  obtain ⟨rho, e, S, s, re, f⟩ := h
  exact f rho H none s Le.refl rfl)⟩
theorem mp_psome (ha : PE X e (tM X.K W m)) : PO X (some e) (tP X.K W (prtM (some m))) := ⟨fun pins s sg H Q I h => (po_some ha).run pins s sg H Q I ((tG_bind (rel := rV) h).imp fun v H1 ⟨rho, e, S, x, s, re, rx, f⟩ => by
  cases x with
  | int i => exact ⟨i, rx, f rho H1 _ s Le.refl rfl⟩
  | _ => exact f.elim)⟩
/-- the items of xs[lo:hi] -/
def cutM {al : Type} (xs : List al) (lo hi : Option Int) : List al := (xs.drop (HT.sIx xs.length 0 lo)).take (HT.sIx xs.length xs.length hi - HT.sIx xs.length 0 lo)
def cutSV (x : MV) (lo hi : Option Int) (S : Sto) : Res MV := match x with
  | .tup xs => .ok (.tup (cutM xs lo hi)) S
  | .str z => if z.length ≤ sizeLine then .ok (.str (cutS z lo hi)) S else .bad
  | .ref k => match seqO (S.g k) with
    | some xs => .ok (.ref S.n) (S.add (.lst (cutM xs lo hi)))
    | none => .bad
  | _ => .bad
theorem RepL.cut {rho : Nat → Addr} {n : Nat} {H : Hp} {xs : List MV} {vs : List V} (r : RepL K rho n H xs vs) (lo hi : Option Int) : RepL K rho n H (cutM xs lo hi) (cutV vs lo hi) := by
  unfold cutM cutV
  rw [r.len]
  exact RepL.take _ (RepL.drop _ r)
def slcM (mo : EM) (ml mh : Option EM) : EM := bindM mo fun x => bindM (prtM ml) fun l => bindM (prtM mh) fun h => fun _ S => cutSV x l h S
def rSlV (K : PySem.W.Frag) : V → Option Int → Option Int → Hp → VK → Prop := fun x lo hi H Q => rSlL K x lo hi H Q ∨ (rSlA K x lo hi H Q ∨ rSlS x lo hi H Q)
theorem mp_slice {lo hi : Option Expr} {ml mh : Option EM} {p2 : Pos} (ha : PE X e (tM X.K W m)) (hl : PO X lo (tP X.K W (prtM ml))) (hh : PO X hi (tP X.K W (prtM mh))) : PE X (.Subscript e (.Slice lo hi none p2) pos) (tM X.K W (slcM m ml mh)) :=
  PE.to (pe_slice (SlR.or sl_list (SlR.or sl_tupA sl_str)) ha hl hh) fun sg H Q h => (tG_bind (rel := rV) h).imp fun v H1 ⟨rho, e, S, x, s, re, rx, f⟩ => by
    have h1 : tM X.K W (bindM (prtM ml) fun l => bindM (prtM mh) fun h => fun _ S => cutSV x l h S) sg H1 Q := ⟨rho, e, S, s, re, f⟩
    refine ⟨rho, e, S, s, re, ?_⟩
    unfold bindM at f
    cases q : prtM ml e S with
    | exc ex S' => rw [q] at f; exact f
    | bad => rw [q] at f; exact f
    | ok l S' =>
      rw [q] at f
      intro rho' H' o' s' l' ro
      have ro' : l = o' := ro
      subst ro'
      have f' := f.step l'
      have rx' := rx.le l'
      refine ⟨rho', e, S', s', re.le l', ?_⟩
      simp only at f'
      cases q2 : prtM mh e S' with
      | exc ex S' => rw [q2] at f'; exact f'
      | bad => rw [q2] at f'; exact f'
      | ok hb S2 =>
        rw [q2] at f'
        intro rho2 H2 o2 s2 l2 ro2
        have ro2' : hb = o2 := ro2
        subst ro2'
        have f2 := f'.step l2
        have rx2 := rx'.le l2
        simp only at f2
        unfold cutSV at f2
        split at f2
        · rename_i xs
          obtain ⟨a, vs, e1, e2, e3⟩ := rx2
          refine .inr (.inl ⟨a, vs, e1, e2, fun e => ?_, fun _ p hp => f2.tup s2 (e3.cut _ _) hp⟩)
          have : cutM xs l hb = xs := by
            unfold cutM
            rw [← e3.len, e.1, e.2, e3.len]
            simp
          rw [this] at f2
          exact f2.val s2 ⟨a, vs, rfl, e2, e3⟩
        · split at f2
          · rename_i z hl
            exact .inr (.inr ⟨_, rx2, hl, f2.val s2 rfl⟩)
          · exact f2.elim
        · split at f2
          · rename_i k xs qk
            obtain ⟨hk, ek⟩ := rx2
            obtain ⟨vs, e1, e2⟩ := seqO_at s2 hk qk
            exact .inl ⟨_, vs, ek, e1, fun p hp => f2.lst s2 (e2.cut _ _) hp⟩
          · exact f2.elim
        · exact f2.elim
/-- xs[::-1] -/
def revLV (x : MV) (S : Sto) : Res MV := match x with
  | .ref k => match seqO (S.g k) with
    | some xs => .ok (.ref S.n) (S.add (.lst xs.reverse))
    | none => .bad
  | _ => .bad
theorem mp_revL {k : Nat} {p1 p2 p3 : Pos} (ha : PE X e (tM X.K W m)) : PE X (.Subscript e (.Slice none none (some (.UnaryOp .USub (.Constant (.int 1) k p1) p2)) p3) pos) (tM X.K W (op1 revLV m)) :=
  PE.to (pe_revL ha) fun sg H Q h => (tG_bind (rel := rV) h).imp fun v H1 ⟨rho, e, S, x, s, re, rx, f⟩ => by
    unfold revLV at f
    split at f
    · split at f
      · rename_i k xs q
        obtain ⟨hk, ek⟩ := rx
        obtain ⟨vs, h1, h2⟩ := seqO_at s hk q
        exact ⟨_, vs, ek, h1, fun p hp => f.lst s h2.rev hp⟩
      · exact f.elim
    · exact f.elim

/-! ### in -/
def toF : MV → Option V
  | .non => some .non
  | .bl b => some (.bl b)
  | .int i => some (.int i)
  | .str x => some (.str x)
  | _ => none
def toFs : List MV → Option (List V)
  | [] => some []
  | x :: xs => match toF x, toFs xs with
    | some v, some vs => some (v :: vs)
    | _, _ => none
theorem toF_ok {rho : Nat → Addr} {n : Nat} {H : Hp} {x : MV} {v u : V} (r : Rep K rho n H x v) (e : toF x = some u) : v = u ∧ flatV u = true := by
  cases x <;> simp only [toF] at e <;> first | (cases e; exact ⟨r, rfl⟩) | cases e
theorem toFs_ok {rho : Nat → Addr} {n : Nat} {H : Hp} : ∀ {xs : List MV} {vs us : List V}, RepL K rho n H xs vs → toFs xs = some us → vs = us ∧ us.all flatV = true
  | [], vs, us, r, e => by cases e; exact ⟨r, rfl⟩
  | x :: xs, vs, us, r, e => by
    obtain ⟨w, r', h1, h2, h3⟩ := r
    subst h1
    simp only [toFs] at e
    split at e
    · rename_i v vs' q1 q2
      cases e
      obtain ⟨e1, e2⟩ := toF_ok h2 q1
      obtain ⟨e3, e4⟩ := toFs_ok h3 q2
      subst e1 e3
      exact ⟨rfl, by simp [e2]; simpa using e4⟩
    · cases e
def inFl (x : MV) (xs : List MV) : Option Bool := match toF x, toFs xs with
  | some v, some vs => some (inV v vs)
  | _, _ => none
def inO (x y : MV) (S : Sto) : Option Bool := match y with
  | .tup xs => inFl x xs
  | .str z => match x with
    | .str w => (match w.cps.toList with
      | [c] => some (decide (c ∈ z.cps.toList))
      | _ => some (!(Builtin.Str.occurrences z w 0 z.length 1).isEmpty))
    | _ => none
  | .ref k => match S.g k with
    | .lst xs => inFl x xs
    | .con xs => inFl x xs
    | .dK kvs => (toK x).map fun key => (valM kvs key).isSome
    | _ => none
  | _ => none
def inVv (x y : MV) (S : Sto) : Res MV := match inO x y S with
  | some b => .ok (.bl b) S
  | none => .bad
def notInV (x y : MV) (S : Sto) : Res MV := match inO x y S with
  | some b => .ok (.bl (!b)) S
  | none => .bad
def rDIn (neg : Bool) : R2 := fun x y H Q => ∃ a o, y = .ref a ∧ DGet H a x o ∧ Q (.bl (if neg then !o.isSome else o.isSome)) H
theorem op_dIn (hu : X.A.units + 1 < cLine) : OpR X (compareOp .In) (rDIn false) := by
  intro pins s sg H x y v u Q I rx ry h
  obtain ⟨a, o, rfl, g, q⟩ := h
  cases ry
  exact d_in hu I g rx fun s' I' => ⟨.bl o.isSome, H, I', rfl, q⟩
theorem op_dNotIn (hu : X.A.units + 1 < cLine) : OpR X (compareOp .NotIn) (rDIn true) := by
  intro pins s sg H x y v u Q I rx ry h
  obtain ⟨a, o, rfl, g, q⟩ := h
  cases ry
  exact d_notIn hu I g rx fun s' I' => ⟨.bl (!o.isSome), H, I', rfl, q⟩
def rStrIn (neg : Bool) : R2 := fun x y H Q => ∃ i j, x = .str i ∧ y = .str j ∧ Q (.bl (if neg then !(!(Builtin.Str.occurrences j i 0 j.length 1).isEmpty) else !(Builtin.Str.occurrences j i 0 j.length 1).isEmpty)) H
def rSgnIn (neg : Bool) : R2 := fun x y H Q => ∃ (c : Nat) (z : Str), x = .str ⟨#[c]⟩ ∧ y = .str z ∧ Q (.bl (if neg then !decide (c ∈ z.cps.toList) else decide (c ∈ z.cps.toList))) H
def rInV (K : PySem.W.Frag) (neg : Bool) : R2 := fun x y H Q => (rIn K neg x y H Q ∨ rDIn neg x y H Q) ∨ (rStrIn neg x y H Q ∨ rSgnIn neg x y H Q)
theorem op_inV (hu : X.A.units + 1 < cLine) : OpR X (compareOp .In) (rInV X.K false) := OpR.or (OpR.or op_in_seq (op_dIn hu)) (OpR.or op_in_str op_in_sign)
theorem op_notInV (hu : X.A.units + 1 < cLine) : OpR X (compareOp .NotIn) (rInV X.K true) := OpR.or (OpR.or op_notIn_seq (op_dNotIn hu)) (OpR.or op_notin_str op_notIn_sign)
theorem inO_ok {rho : Nat → Addr} {S : Sto} {H : Hp} {x y : MV} {vx vy : V} {Q : VK} {b neg : Bool} (s : Sim K rho S H) (rx : Rep K rho S.n H x vx) (ry : Rep K rho S.n H y vy) (e : inO x y S = some b) (q : Q (.bl (if neg then !b else b)) H) : rInV K neg vx vy H Q := by
  have fl : ∀ {xs : List MV} {vs : List V} {a : Addr}, (SqL K H a vs ∨ SqT K H a vs) → RepL K rho S.n H xs vs → inFl x xs = some b → vy = .ref a → rInV K neg vx vy H Q := by
    intro xs vs a hs hr e hy
    unfold inFl at e
    split at e
    · rename_i v vs' q1 q2
      cases e
      obtain ⟨e1, e2⟩ := toF_ok rx q1
      obtain ⟨e3, e4⟩ := toFs_ok hr q2
      subst e1 e3
      exact .inl (.inl ⟨a, vs, hy, hs, e2, e4, q⟩)
    · cases e
  unfold inO at e
  split at e
  · obtain ⟨a, vs, h1, h2, h3⟩ := ry
    exact fl (.inr h2) h3 e h1
  · split at e
    · rename_i z _ w
      split at e
      · rename_i c hc
        cases e
        refine .inr (.inr ⟨c, z, ?_, ry, q⟩)
        rw [show vx = .str w from rx]
        congr 1
        cases w with
        | mk l => simp only at hc; congr 1; exact Array.toList_inj.mp (by simpa using hc)
      · cases e
        exact .inr (.inl ⟨w, z, rx, ry, q⟩)
    · cases e
  · rename_i k
    obtain ⟨hk, ek⟩ := ry
    split at e
    · rename_i xs qk
      obtain ⟨vs, h1, h2⟩ := lst_at s hk qk
      exact fl (.inl (SqL.of h1)) h2 e ek
    · rename_i xs qk
      obtain ⟨vs, h1, h2⟩ := seqO_at s hk (xs := xs) (by rw [qk]; rfl)
      exact fl (.inl h1) h2 e ek
    · rename_i kvs qk
      cases qx : toK x with
      | none => rw [qx] at e; cases e
      | some key =>
        rw [qx] at e
        cases e
        obtain ⟨ws, h1, h2⟩ := dK_at s hk qk
        have hv := h2.val (k := key)
        refine .inl (.inr ⟨_, _, ek, .inl ⟨ws, key, .inl h1, toK_rep rx qx, rfl⟩, ?_⟩)
        have : (valV ws key).isSome = (valM kvs key).isSome := by
          cases q3 : valM kvs key with
          | none => rw [hv.2 q3]; rfl
          | some z => obtain ⟨v, h4, _⟩ := hv.1 z q3; rw [h4]; rfl
        rw [this]
        exact q
    · cases e
  · cases e
theorem inV_ok : Snd2 K (rInV K false) inVv := by
  intro rho S H x y vx vy Q E s rx ry f
  unfold inVv at f
  split at f
  · rename_i b e
    exact inO_ok s rx ry e (f.val s rfl)
  · exact f.elim
theorem notInV_ok : Snd2 K (rInV K true) notInV := by
  intro rho S H x y vx vy Q E s rx ry f
  unfold notInV at f
  split at f
  · rename_i b e
    exact inO_ok s rx ry e (f.val s rfl)
  · exact f.elim

/-! ### built-ins by values -/
theorem mp_callB {id : String} {r : List V → Hp → VK → Prop} {g : List MV → Sto → Res MV} {x : Str} {p : Pos} (hc : CallR X (.builtin id) r) (hs : SndL X.K r g) (hg : Gl X x) (hm : X.mg x = none) (hv : bootBuiltins x = some (.builtin id)) (ha : PA X (e :: es) (tA X.K W ml)) (hn : x ≠ "__name__" := by decide) (hdb : (x == ("__debug__" : Str)) = false := by decide)
    (he : starEach (e :: es) X.env = (false, eval e X.env) :: starEach es X.env := by rfl) (hpl : (backTo pos (starEach es X.env)).any (·.1) = false := by rfl) : PE X (.Call (.Name x p) (e :: es) [] pos) (tM X.K W (opL g ml)) :=
  PE.to (pe_callB hc hg hm hv ha hn hdb he hpl) fun _ _ _ => tM_opL hs
theorem mp_callTy {T : String} {r : List V → Hp → VK → Prop} {g : List MV → Sto → Res MV} {x : Str} {p : Pos} (hc : CallR X (.type T) r) (hs : SndL X.K r g) (hg : Gl X x) (hm : X.mg x = none) (hv : bootBuiltins x = some (.type T)) (ha : PA X (e :: es) (tA X.K W ml)) (hn : x ≠ "__name__" := by decide) (hdb : (x == ("__debug__" : Str)) = false := by decide)
    (he : starEach (e :: es) X.env = (false, eval e X.env) :: starEach es X.env := by rfl) (hpl : (backTo pos (starEach es X.env)).any (·.1) = false := by rfl) : PE X (.Call (.Name x p) (e :: es) [] pos) (tM X.K W (opL g ml)) :=
  PE.to (pe_callTy hc hg hm hv ha hn hdb he hpl) fun _ _ _ => tM_opL hs
theorem rep1 {rho : Nat → Addr} {n : Nat} {H : Hp} {x : MV} {vs : List V} (r : RepL K rho n H [x] vs) : ∃ v, vs = [v] ∧ Rep K rho n H x v := by
  obtain ⟨v, r', h1, h2, h3⟩ := r
  rw [show r' = [] from h3] at h1
  exact ⟨v, h1, h2⟩
theorem rep2 {rho : Nat → Addr} {n : Nat} {H : Hp} {x y : MV} {vs : List V} (r : RepL K rho n H [x, y] vs) : ∃ v w, vs = [v, w] ∧ Rep K rho n H x v ∧ Rep K rho n H y w := by
  obtain ⟨v, r', h1, h2, h3⟩ := r
  obtain ⟨w, h4, h5⟩ := rep1 h3
  exact ⟨v, w, by rw [h1, h4], h2, h5⟩
def lenO (x : MV) (S : Sto) : Option Nat := match x with
  | .tup xs => some xs.length
  | .str z => if z.length ≤ sizeLine then some z.length else none
  | .ref k => match S.g k with
    | .lst xs => some xs.length
    | .con xs => some xs.length
    | .dK kvs => some kvs.length
    | _ => none
  | _ => none
def lenV : List MV → Sto → Res MV
  | [x], S => match lenO x S with
    | some n => .ok (.int n) S
    | none => .bad
  | _, _ => .bad
def rLenV (K : PySem.W.Frag) : List V → Hp → VK → Prop := fun xs H Q => (∃ x n, xs = [x] ∧ LenV K x H n ∧ Q (.int n) H) ∨ ∃ a kvs, xs = [V.ref a] ∧ H a = some (.dK kvs) ∧ Q (.int kvs.length) H
theorem call_lenV : CallR X (.builtin "len") (rLenV X.K) := CallR.or call_len call_lenD
theorem lenV_ok : SndL K (rLenV K) lenV := by
  intro rho S H xs vs Q E s rx f
  unfold lenV at f
  split at f
  · rename_i x
    obtain ⟨v, h1, h2⟩ := rep1 rx
    subst h1
    split at f
    · rename_i n e
      have q : Q (.int n) H := f.val s rfl
      unfold lenO at e
      split at e
      · cases e
        obtain ⟨a, vs, g1, g2, g3⟩ := h2
        exact .inl ⟨v, _, rfl, by rw [g1]; exact .inr ⟨vs, g2, g3.len.symm⟩, q⟩
      · split at e
        · rename_i hl
          cases e
          exact .inl ⟨v, _, rfl, by rw [show v = .str _ from h2]; exact ⟨hl, rfl⟩, q⟩
        · cases e
      · rename_i k
        obtain ⟨hk, ek⟩ := h2
        subst ek
        split at e
        · rename_i ys qk
          cases e
          obtain ⟨vs, g1, g2⟩ := lst_at s hk qk
          exact .inl ⟨_, _, rfl, .inl ⟨vs, SqL.of g1, g2.len.symm⟩, q⟩
        · rename_i ys qk
          cases e
          obtain ⟨vs, g1, g2⟩ := seqO_at s hk (xs := ys) (by rw [qk]; rfl)
          exact .inl ⟨_, _, rfl, .inl ⟨vs, g1, g2.len.symm⟩, q⟩
        · rename_i kvs qk
          cases e
          obtain ⟨ws, g1, g2⟩ := dK_at s hk qk
          exact .inr ⟨_, ws, rfl, g1, by rw [g2.len]; exact q⟩
        · cases e
      · cases e
    · exact f.elim
  · exact f.elim
def intV : List MV → Sto → Res MV
  | [.int i], S => .ok (.int i) S
  | [.bl b], S => .ok (.int (if b then 1 else 0)) S
  | [.str a], S => match PySem.intText? a with
    | some n => if a.length ≤ 640 then .ok (.int n) S else .bad
    | none => .bad
  | _, _ => .bad
def rIntV : List V → Hp → VK → Prop := fun xs H Q => ((∃ i, xs = [.int i] ∧ Q (.int i) H) ∨ ∃ k, xs = [.bl k] ∧ Q (.int (if k then 1 else 0)) H) ∨ ∃ a n, xs = [.str a] ∧ PySem.intText? a = some n ∧ a.length ≤ 640 ∧ Q (.int n) H
theorem call_intV : CallR X (.type "int") rIntV := CallR.or call_int1 call_int_str
theorem intV_ok : SndL K rIntV intV := by
  intro rho S H xs vs Q E s rx f
  unfold intV at f
  split at f
  · obtain ⟨v, h1, h2⟩ := rep1 rx
    exact .inl (.inl ⟨_, by rw [h1, show v = .int _ from h2], f.val s rfl⟩)
  · obtain ⟨v, h1, h2⟩ := rep1 rx
    exact .inl (.inr ⟨_, by rw [h1, show v = .bl _ from h2], f.val s rfl⟩)
  · obtain ⟨v, h1, h2⟩ := rep1 rx
    split at f
    · rename_i n e
      split at f
      · rename_i hl
        exact .inr ⟨_, n, by rw [h1, show v = .str _ from h2], e, hl, f.val s rfl⟩
      · exact f.elim
    · exact f.elim
  · exact f.elim
def absVl : List MV → Sto → Res MV
  | [.int i], S => .ok (.int (if i < 0 then -i else i)) S
  | _, _ => .bad
theorem absV_ok : SndL K (fun xs H Q => ∃ i, xs = [.int i] ∧ Q (.int (if i < 0 then -i else i)) H) absVl := by
  intro rho S H xs vs Q E s rx f
  unfold absVl at f
  split at f
  · obtain ⟨v, h1, h2⟩ := rep1 rx
    exact ⟨_, by rw [h1, show v = .int _ from h2], f.val s rfl⟩
  · exact f.elim
def minVl : List MV → Sto → Res MV
  | [.int i, .int j], S => .ok (.int (if j < i then j else i)) S
  | _, _ => .bad
theorem minV_ok : SndL K (fun xs H Q => ∃ i j, xs = [.int i, .int j] ∧ Q (.int (if j < i then j else i)) H) minVl := by
  intro rho S H xs vs Q E s rx f
  unfold minVl at f
  split at f
  · obtain ⟨v, w, h1, h2, h3⟩ := rep2 rx
    exact ⟨_, _, by rw [h1, show v = .int _ from h2, show w = .int _ from h3], f.val s rfl⟩
  · exact f.elim
def maxVl : List MV → Sto → Res MV
  | [.int i, .int j], S => .ok (.int (if j > i then j else i)) S
  | _, _ => .bad
theorem maxV_ok : SndL K (fun xs H Q => ∃ i j, xs = [.int i, .int j] ∧ Q (.int (if j > i then j else i)) H) maxVl := by
  intro rho S H xs vs Q E s rx f
  unfold maxVl at f
  split at f
  · obtain ⟨v, w, h1, h2, h3⟩ := rep2 rx
    exact ⟨_, _, by rw [h1, show v = .int _ from h2, show w = .int _ from h3], f.val s rfl⟩
  · exact f.elim
def tupOf : List MV → Sto → Res MV
  | [.tup xs], S => .ok (.tup xs) S
  | [.ref k], S => match seqO (S.g k) with
    | some xs => .ok (.tup xs) S
    | none => .bad
  | _, _ => .bad
theorem tupOf_ok : SndL K (fun xs H Q => ∃ p ys, xs = [.ref p] ∧ ((SqL K H p ys ∧ ∀ l, H l = none → Q (.ref l) (upd H l (.tup ys))) ∨ (SqT K H p ys ∧ Q (.ref p) H))) tupOf := by
  intro rho S H xs vs Q E s rx f
  unfold tupOf at f
  split at f
  · obtain ⟨v, h1, a, ws, h2, h3, h4⟩ := rep1 rx
    exact ⟨a, ws, by rw [h1, h2], .inr ⟨h3, f.val s ⟨a, ws, rfl, h3, h4⟩⟩⟩
  · obtain ⟨v, h1, hk, ek⟩ := rep1 rx
    split at f
    · rename_i ys qk
      obtain ⟨ws, g1, g2⟩ := seqO_at s hk qk
      exact ⟨_, ws, by rw [h1, ek], .inl ⟨g1, fun p hp => f.tup s g2 hp⟩⟩
    · exact f.elim
  · exact f.elim
def lstOf : List MV → Sto → Res MV
  | [.tup xs], S => .ok (.ref S.n) (S.add (.lst xs))
  | [.ref k], S => match seqO (S.g k) with
    | some xs => .ok (.ref S.n) (S.add (.lst xs))
    | none => .bad
  | _, _ => .bad
theorem lstOf_ok : SndL K (fun xs H Q => ∃ p ys, xs = [.ref p] ∧ (SqL K H p ys ∨ SqT K H p ys) ∧ ∀ l, H l = none → Q (.ref l) (upd H l (.lst ys))) lstOf := by
  intro rho S H xs vs Q E s rx f
  unfold lstOf at f
  split at f
  · obtain ⟨v, h1, a, ws, h2, h3, h4⟩ := rep1 rx
    exact ⟨a, ws, by rw [h1, h2], .inr h3, fun p hp => f.lst s h4 hp⟩
  · obtain ⟨v, h1, hk, ek⟩ := rep1 rx
    split at f
    · rename_i ys qk
      obtain ⟨ws, g1, g2⟩ := seqO_at s hk qk
      exact ⟨_, ws, by rw [h1, ek], .inl g1, fun p hp => f.lst s g2 hp⟩
    · exact f.elim
  · exact f.elim

/-! ### methods of built-in types -/
def SndB (K : PySem.W.Frag) (T : String) (r : V → List V → Hp → VK → Prop) (g : MV → List MV → Sto → Res MV) : Prop := ∀ rho S H x vx xs vs Q E, Sim K rho S H → Rep K rho S.n H x vx → RepL K rho S.n H xs vs → Fin K rV rho S H Q E (g x xs S) → r vx vs H Q
/-- the type is what the method's call wants -/
def tyOk (T : String) (x : MV) (S : Sto) : Bool := match x with
  | .str _ => T == "str"
  | .int _ => T == "int"
  | .ref k => match S.g k with
    | .lst _ => T == "list"
    | .con _ => T == "list"
    | .dK _ => T == "dict"
    | .dT _ => T == "dict"
    | _ => false
  | _ => false
def bmM (T : String) (g : MV → List MV → Sto → Res MV) (mo : EM) (ml : EMt (List MV)) : EM := bindM mo fun x => fun e S => if tyOk T x S = true then bindM ml (fun xs => fun _ S => g x xs S) e S else .bad
theorem tyOk_ok {rho : Nat → Addr} {S : Sto} {H : Hp} {x : MV} {v : V} {T : String} (s : Sim K rho S H) (rx : Rep K rho S.n H x v) (h : tyOk T x S = true) : tyV K T v H := by
  unfold tyOk at h
  split at h
  · rw [show v = .str _ from rx]; exact (show T = "str" by simpa using h)
  · rw [show v = .int _ from rx]; exact (show T = "int" by simpa using h)
  · rename_i k
    obtain ⟨hk, ek⟩ := rx
    subst ek
    split at h
    · rename_i xs q
      obtain ⟨vs, h1, h2⟩ := lst_at s hk q
      exact .inl ⟨by simpa using h, vs, SqL.of h1⟩
    · rename_i xs q
      obtain ⟨vs, h1, h2⟩ := seqO_at s hk (xs := xs) (by rw [q]; rfl)
      exact .inl ⟨by simpa using h, vs, h1⟩
    · rename_i xs q
      obtain ⟨vs, h1, h2⟩ := dK_at s hk q
      exact .inr (.inr (.inl ⟨by simpa using h, .inl ⟨vs, h1⟩⟩))
    · rename_i xs q
      obtain ⟨vs, h1, h2⟩ := dT_at s hk q
      exact .inr (.inr (.inl ⟨by simpa using h, .inr ⟨vs, h1⟩⟩))
    · cases h
  · cases h
theorem tM_bm {T : String} {r : V → List V → Hp → VK → Prop} {g : MV → List MV → Sto → Res MV} (hs : SndB K T r g) {sg : L2.St} {H : Hp} {Q : VK} (h : tM K W (bmM T g ma ml) sg H Q) : tBM K T r (tM K W ma) (tA K W ml) sg H Q :=
  (tG_bind (rel := rV) h).imp fun v H1 ⟨rho, e, S, x, s, re, rx, f⟩ => by
    by_cases ht : tyOk T x S = true
    · rw [if_pos ht] at f
      refine ⟨tyOk_ok s rx ht, rho, e, S, s, re, ?_⟩
      unfold bindM at f
      cases q : ml e S with
      | ok xs S' =>
        rw [q] at f
        exact fun rho' H' vs s' l' rs => hs _ _ _ _ _ _ _ _ _ s' (rx.le l') rs (f.step l')
      | exc ex S' => rw [q] at f; exact f
      | bad => rw [q] at f; exact f
    · rw [if_neg ht] at f; exact f.elim
theorem tM_bm0 {T : String} {r : V → List V → Hp → VK → Prop} {g : MV → List MV → Sto → Res MV} (hs : SndB K T r g) {sg : L2.St} {H : Hp} {Q : VK} (h : tM K W (bmM T g ma nilM) sg H Q) : tBM0 K T r (tM K W ma) sg H Q :=
  (tG_bind (rel := rV) h).imp fun v H1 ⟨rho, e, S, x, s, re, rx, f⟩ => by
    by_cases ht : tyOk T x S = true
    · rw [if_pos ht] at f
      exact ⟨tyOk_ok s rx ht, hs _ _ _ _ _ [] [] _ _ s rx rfl f⟩
    · rw [if_neg ht] at f; exact f.elim
variable {o : Expr} {name : Str} {apos cpos : Pos} {T id : String}
theorem mp_bm0 {r : V → List V → Hp → VK → Prop} {g : MV → List MV → Sto → Res MV} (pa : PlainAttrs T) (slot : Slot T name id) (hty : typeOf (.builtin id) = pure (.type "method_descriptor")) (hm : MtR X id r) (hs : SndB X.K T r g) (ho : PE X o (tM X.K W ma))
    (hbase : attributeBase o name X.env (eval o X.env) = eval o X.env := by rfl) (hline : (apos.endLine == cpos.line) = true := by rfl) : PE X (.Call (.Attribute o name apos) [] [] cpos) (tM X.K W (bmM T g ma nilM)) :=
  PE.to (pe_bm0 pa slot hty hm ho hbase hline) fun _ _ _ => tM_bm0 hs
theorem mp_bm {r : V → List V → Hp → VK → Prop} {g : MV → List MV → Sto → Res MV} (pa : PlainAttrs T) (slot : Slot T name id) (hty : typeOf (.builtin id) = pure (.type "method_descriptor")) (hm : MtR X id r) (hs : SndB X.K T r g) (ho : PE X o (tM X.K W ma)) (ha : PA X (e :: es) (tA X.K W ml))
    (hbase : attributeBase o name X.env (eval o X.env) = eval o X.env := by rfl)
    (hfew : ((backTo cpos (starEach (e :: es) X.env)).all (fun x => !x.1) && (backToKw cpos (keywordEach [] X.env)).all (fun x => x.1.isSome)
      && decide ((e :: es).length + ([] : List Keyword).length + (if ([] : List Keyword).isEmpty then 0 else 1) < 30)) = true := by rfl)
    (hline : (apos.endLine == cpos.line) = true := by rfl) (hs2 : starEach (e :: es) X.env = (false, eval e X.env) :: starEach es X.env := by rfl) (hplain : (backTo cpos (starEach es X.env)).any (·.1) = false := by rfl) :
    PE X (.Call (.Attribute o name apos) (e :: es) [] cpos) (tM X.K W (bmM T g ma ml)) :=
  PE.to (pe_bm pa slot hty hm ho ha hbase hfew hline hs2 hplain) fun _ _ _ => tM_bm hs
theorem Fin.put {rho : Nat → Addr} {S : Sto} {H : Hp} {Q : VK} {E : XK} {k : Nat} {o : MO} {x : MV} {v : V} {u : HO} (f : Fin K rV rho S H Q E (.ok x (S.put k o))) (s : Sim K rho S H) (hk : k < S.n) (hm : (S.g k).mut = true)
    (ho : RepO K rho S.n (upd H (rho k) u) (rho k) o) (rx : Rep K rho S.n (upd H (rho k) u) x v) (hmo : o.mut = true := by rfl) : Q v (upd H (rho k) u) := f rho _ _ (s.put hk hm ho) (Le.put s hk hm hmo) rx
def appendV : MV → List MV → Sto → Res MV
  | .ref k, [y], S => match S.g k with
    | .lst xs => if xs.length < sizeLine then .ok .non (S.put k (.lst (xs ++ [y]))) else .bad
    | _ => .bad
  | _, _, _ => .bad
theorem appendV_ok : SndB K "list" rAppend appendV := by
  intro rho S H x vx xs vs Q E s rx rs f
  unfold appendV at f
  split at f
  · rename_i k y
    obtain ⟨hk, ek⟩ := rx
    obtain ⟨v, h1, h2⟩ := rep1 rs
    split at f
    · rename_i ys q
      split at f
      · rename_i hl
        obtain ⟨ws, g1, g2⟩ := lst_at s hk q
        have hm : isMut (H (rho k)) := isMut_some g1 trivial
        exact ⟨_, ws, v, ek, h1, g1, by rw [g2.len]; exact hl, f.put s hk (by rw [q]; rfl) ⟨_, upd_same, (g2.upd hm).app (RepL.one (h2.upd hm))⟩ rfl⟩
      · exact f.elim
    · exact f.elim
  · exact f.elim
def extendV : MV → List MV → Sto → Res MV
  | .ref k, [.ref j], S => match S.g k, S.g j with
    | .lst xs, .lst ys => if xs.length + ys.length ≤ sizeLine then .ok .non (S.put k (.lst (xs ++ ys))) else .bad
    | _, _ => .bad
  | _, _, _ => .bad
theorem extendV_ok : SndB K "list" rExtend extendV := by
  intro rho S H x vx xs vs Q E s rx rs f
  unfold extendV at f
  split at f
  · rename_i k j
    obtain ⟨hk, ek⟩ := rx
    obtain ⟨v, h1, hj, ej⟩ := rep1 rs
    split at f
    · rename_i ys zs q q2
      split at f
      · rename_i hl
        obtain ⟨ws, g1, g2⟩ := lst_at s hk q
        obtain ⟨us, g3, g4⟩ := lst_at s hj q2
        have hm : isMut (H (rho k)) := isMut_some g1 trivial
        exact ⟨_, _, ws, us, ek, by rw [h1, ej], g1, g3, by rw [g2.len, g4.len]; exact hl, f.put s hk (by rw [q]; rfl) ⟨_, upd_same, (g2.upd hm).app (g4.upd hm)⟩ rfl⟩
      · exact f.elim
    · exact f.elim
  · exact f.elim
def popV : MV → List MV → Sto → Res MV
  | .ref k, [], S => match S.g k with
    | .lst xs => match xs[xs.length - 1]? with
      | some y => .ok y (S.put k (.lst xs.dropLast))
      | none => .bad
    | _ => .bad
  | _, _, _ => .bad
theorem popV_ok : SndB K "list" rPop popV := by
  intro rho S H x vx xs vs Q E s rx rs f
  unfold popV at f
  split at f
  · rename_i k
    obtain ⟨hk, ek⟩ := rx
    split at f
    · rename_i ys q
      split at f
      · rename_i y hy
        obtain ⟨ws, g1, g2⟩ := lst_at s hk q
        have hm : isMut (H (rho k)) := isMut_some g1 trivial
        obtain ⟨v, h4, h5⟩ := g2.get hy
        exact ⟨_, ws, v, ek, rs, g1, by rw [g2.len]; exact h4, f.put s hk (by rw [q]; rfl) ⟨_, upd_same, (g2.upd hm).dropLast⟩ (h5.upd hm)⟩
      · exact f.elim
    · exact f.elim
  · exact f.elim
end
end Mm
end

section
/-! ## M, part 5: statements, loops, comprehensions -/
namespace Mm
open PySem L2 PyProof.Rows
inductive SR where
  | nx (e : Sl) (S : Sto) | ret (x : MV) (S : Sto) | brk (e : Sl) (S : Sto) | ct (e : Sl) (S : Sto) | exc (ex : Exc) (e : Sl) (S : Sto) | bad
abbrev SM := Sl → Sto → SR
section
variable {K : PySem.W.Frag} {W : WX}
def FinS (K : PySem.W.Frag) (rho : Nat → Addr) (S : Sto) (H : Hp) (D : Ends) (W : WX) : SR → Prop
  | .nx e' S' => ∀ rho' H' sg', Sim K rho' S' H' → Le K rho S H rho' S' H' → RepE K rho' S'.n H' sg' e' → D.nx sg' H'
  | .ret x S' => ∀ rho' H' v, Sim K rho' S' H' → Le K rho S H rho' S' H' → Rep K rho' S'.n H' x v → D.rt v H'
  | .brk e' S' => ∀ rho' H' sg', Sim K rho' S' H' → Le K rho S H rho' S' H' → RepE K rho' S'.n H' sg' e' → D.bk sg' H'
  | .ct e' S' => ∀ rho' H' sg', Sim K rho' S' H' → Le K rho S H rho' S' H' → RepE K rho' S'.n H' sg' e' → D.ct sg' H'
  | .exc ex e' S' => ∀ rho' H' sg' d, Sim K rho' S' H' → Le K rho S H rho' S' H' → RepE K rho' S'.n H' sg' e' → RepX K rho' S'.n H' d ex → W ex.cls d sg' H'
  | .bad => False
theorem FinS.step {rho rho1 : Nat → Addr} {S S1 : Sto} {H H1 : Hp} {D : Ends} {r : SR} (h : FinS K rho S H D W r) (l : Le K rho S H rho1 S1 H1) : FinS K rho1 S1 H1 D W r := by
  cases r with
  | nx e' S' => exact fun a b c s l' q => h a b c s (l.trans l') q
  | ret x S' => exact fun a b c s l' q => h a b c s (l.trans l') q
  | brk e' S' => exact fun a b c s l' q => h a b c s (l.trans l') q
  | ct e' S' => exact fun a b c s l' q => h a b c s (l.trans l') q
  | exc ex e' S' => exact fun a b c d s l' q => h a b c d s (l.trans l') q
  | bad => exact h
def tS (K : PySem.W.Frag) (W : WX) (m : SM) : TS := fun D sg H => ∃ rho e S, Sim K rho S H ∧ RepE K rho S.n H sg e ∧ FinS K rho S H D W (m e S)
/-- an expression, then what follows -/
def useM {al : Type} (m : EMt al) (k : al → SM) : SM := fun e S => match m e S with
  | .ok x S' => k x e S'
  | .exc ex S' => .exc ex e S'
  | .bad => .bad
theorem tS_use {al be : Type} {rel : RelT al be} {m : EMt al} {k : al → SM} {D : Ends} {sg : L2.St} {H : Hp} (h : tS K W (useM m k) D sg H) :
    tG K rel W m sg H fun v H1 => ∃ rho e S x, Sim K rho S H1 ∧ RepE K rho S.n H1 sg e ∧ rel K rho S.n H1 x v ∧ FinS K rho S H1 D W (k x e S) := by
  obtain ⟨rho, e, S, s, re, f⟩ := h
  refine ⟨rho, e, S, s, re, ?_⟩
  unfold useM at f
  cases q : m e S with
  | ok x S' =>
    rw [q] at f
    exact fun rho' H' v s' l' r' => ⟨rho', e, S', x, s', re.le l', r', f.step l'⟩
  | exc ex S' =>
    rw [q] at f
    exact fun rho' H' d s' l' r' => f rho' H' sg d s' l' (re.le l') r'
  | bad => rw [q] at f; exact f
theorem RepE.set {rho : Nat → Addr} {n : Nat} {H : Hp} {sg : L2.St} {e : Sl} (h : RepE K rho n H sg e) {i : Nat} {x : MV} {v : V} (r : Rep K rho n H x v) : RepE K rho n H (sg.set i (some v)) (e.set i (some x)) := by
  refine ⟨by rw [List.length_set, List.length_set]; exact h.1, fun j y q => ?_⟩
  by_cases hj : i = j
  · subst hj
    by_cases hl : i < e.length
    · rw [List.getElem?_set_self hl] at q
      cases q
      exact ⟨v, by rw [List.getElem?_set_self (by rw [h.1]; exact hl)], r⟩
    · rw [List.getElem?_eq_none (by rw [List.length_set]; omega)] at q
      cases q
  · rw [List.getElem?_set_ne hj] at q ⊢
    exact h.2 j y q
end

/-! ### targets -/
inductive Pt where
  | nm (i : Nat) | tp (ps : List Pt)
mutual
def asg : Pt → MV → Sl → Option Sl
  | .nm i, x, e => some (e.set i (some x))
  | .tp ps, .tup xs, e => asgL ps xs e
  | .tp _, _, _ => none
def asgL : List Pt → List MV → Sl → Option Sl
  | [], [], e => some e
  | p :: ps, x :: xs, e => match asg p x e with
    | some e1 => asgL ps xs e1
    | none => none
  | _, _, _ => none
end
mutual
def Pt.ns : Pt → List Nat
  | .nm i => [i]
  | .tp ps => Pt.nsL ps
def Pt.nsL : List Pt → List Nat
  | [] => []
  | p :: ps => p.ns ++ Pt.nsL ps
end
theorem wipe_get (sg : L2.St) : ∀ (vs : List Nat) (i : Nat), (wipe sg vs)[i]? = if i < sg.length then (if i ∈ vs then some none else sg[i]?) else none
  | [], i => by
    by_cases h : i < sg.length
    · simp [wipe, h]
    · simp [wipe, h]
  | v :: vs, i => by
    show ((wipe sg vs).set v none)[i]? = _
    have hl := wipe_length sg vs
    by_cases hi : i < sg.length
    · rw [if_pos hi]
      by_cases hv : v = i
      · subst hv
        rw [List.getElem?_set_self (by omega), if_pos (by simp)]
      · rw [List.getElem?_set_ne hv, wipe_get sg vs i, if_pos hi]
        by_cases hm : i ∈ vs
        · rw [if_pos hm, if_pos (by simp [hm])]
        · rw [if_neg hm, if_neg (by simp [hm]; omega)]
    · rw [if_neg hi]
      exact List.getElem?_eq_none (by rw [List.length_set]; omega)
theorem wipe_set {sg : L2.St} {vs : List Nat} {j : Nat} {y : Option V} (h : j ∈ vs) : wipe (sg.set j y) vs = wipe sg vs := by
  apply List.ext_getElem?
  intro i
  rw [wipe_get, wipe_get, List.length_set]
  by_cases hi : i < sg.length
  · rw [if_pos hi, if_pos hi]
    by_cases hm : i ∈ vs
    · rw [if_pos hm, if_pos hm]
    · rw [if_neg hm, if_neg hm, List.getElem?_set_ne (by intro e; subst e; exact hm h)]
  · rw [if_neg hi, if_neg hi]
def wipeE (e : Sl) : List Nat → Sl
  | [] => e
  | v :: vs => (wipeE e vs).set v none
section
variable {K : PySem.W.Frag} {W : WX}
theorem RepE.wipe {rho : Nat → Addr} {n : Nat} {H : Hp} {sg : L2.St} {e : Sl} (h : RepE K rho n H sg e) : ∀ vs : List Nat, RepE K rho n H (wipe sg vs) (wipeE e vs)
  | [] => h
  | v :: vs => by
    have ih := RepE.wipe h vs
    refine ⟨by show ((L2.wipe sg vs).set v none).length = ((wipeE e vs).set v none).length; rw [List.length_set, List.length_set]; exact ih.1, fun j y q => ?_⟩
    have q' : ((wipeE e vs).set v none)[j]? = some (some y) := q
    show ∃ u, ((L2.wipe sg vs).set v none)[j]? = some (some u) ∧ _
    by_cases hj : v = j
    · subst hj
      by_cases hl : v < (wipeE e vs).length
      · rw [List.getElem?_set_self hl] at q'; cases q'
      · rw [List.getElem?_eq_none (by rw [List.length_set]; omega)] at q'; cases q'
    · rw [List.getElem?_set_ne hj] at q' ⊢
      exact ih.2 j y q'
/-- a target's reading -/
def tT (K : PySem.W.Frag) (p : Pt) : TG := fun v sg H Q => ∃ rho e S x, Sim K rho S H ∧ RepE K rho S.n H sg e ∧ Rep K rho S.n H x v ∧ match asg p x e with
  | some e' => ∀ sg', RepE K rho S.n H sg' e' → (∀ vs, (∀ j ∈ p.ns, j ∈ vs) → wipe sg' vs = wipe sg vs) → Q sg' H
  | none => False
def tTs (K : PySem.W.Frag) (ps : List Pt) : TGs := fun vs sg H Q => ∃ rho e S xs, Sim K rho S H ∧ RepE K rho S.n H sg e ∧ RepL K rho S.n H xs vs ∧ match asgL ps xs e with
  | some e' => ∀ sg', RepE K rho S.n H sg' e' → (∀ vs, (∀ j ∈ Pt.nsL ps, j ∈ vs) → wipe sg' vs = wipe sg vs) → Q sg' H
  | none => False
variable {X : Cx} {pos : Pos}
theorem PG.to {e : Expr} {t t' : TG} (h : PG X e t) (i : ∀ v sg H Q, t' v sg H Q → t v sg H Q) : PG X e t' := ⟨fun pins s sg H v u Q I r q => h.run pins s sg H v u Q I r (i _ _ _ _ q)⟩
theorem PGs.to {e : List Expr} {t t' : TGs} (h : PGs X e t) (i : ∀ v sg H Q, t' v sg H Q → t v sg H Q) : PGs X e t' := ⟨fun pins s sg H v u Q I r q => h.run pins s sg H v u Q I r (i _ _ _ _ q)⟩
theorem mg_name {i : Nat} {x : Str} (hN : X.N.Nodup) (hi : X.N[i]? = some x := by rfl) (hx : Loc X.env.scope x := by first | exact Or.inl rfl | exact Or.inr rfl) (hf : X.fn x = true ∨ X.env.scope.names.lookup x = some .local := by first | exact .inl rfl | exact .inr rfl | assumption) : PG X (.Name x pos) (tT X.K (.nm i)) :=
  PG.to (pg_name hN hi hx hf) fun v sg H Q ⟨rho, e, S, y, s, re, r, f⟩ => f _ (re.set r) fun vs hv => wipe_set (hv i (by simp [Pt.ns]))
theorem mg_nil : PGs X [] (tTs X.K []) := PGs.to pgs_nil fun v sg H Q ⟨rho, e, S, ys, s, re, r, f⟩ => by
  cases ys with
  | nil => exact ⟨r, f _ re fun _ _ => rfl⟩
  | cons => exact f.elim
theorem mg_cons {e : Expr} {es : List Expr} {p : Pt} {ps : List Pt} (h1 : PG X e (tT X.K p)) (h2 : PGs X es (tTs X.K ps)) (hs : (assignEach (e :: es) X.env).map (·.2) = assign e X.env :: (assignEach es X.env).map (·.2) := by rfl) : PGs X (e :: es) (tTs X.K (p :: ps)) :=
  PGs.to (pgs_cons h1 h2 hs) fun v sg H Q ⟨rho, e, S, ys, s, re, r, f⟩ => by
    cases ys with
    | nil => exact f.elim
    | cons y ys =>
      obtain ⟨w, r', e1, e2, e3⟩ := r
      refine ⟨w, r', e1, rho, e, S, y, s, re, e2, ?_⟩
      simp only [asgL] at f
      cases q : asg p y e with
      | none => rw [q] at f; exact f.elim
      | some e' =>
        rw [q] at f
        simp only at f ⊢
        intro sg' re' hw
        refine ⟨rho, e', S, ys, s, re', e3, ?_⟩
        cases q2 : asgL ps ys e' with
        | none => rw [q2] at f; exact f.elim
        | some e2 =>
          rw [q2] at f
          simp only at f ⊢
          intro sg2 re2 hw2
          refine f sg2 re2 fun vs hv => ?_
          rw [hw2 vs fun j hj => hv j (by simp [Pt.nsL, hj]), hw vs fun j hj => hv j (by simp [Pt.nsL, hj])]
theorem asgL_len : ∀ {ps : List Pt} {xs : List MV} {e e' : Sl}, asgL ps xs e = some e' → xs.length = ps.length
  | [], [], _, _, _ => rfl
  | [], _ :: _, _, _, h => by simp [asgL] at h
  | _ :: _, [], _, _, h => by simp [asgL] at h
  | p :: ps, x :: xs, e, e', h => by
    simp only [asgL] at h
    split at h
    · rw [List.length_cons, List.length_cons, asgL_len h]
    · cases h
theorem mg_tup {es : List Expr} {k : Nat} {ps : List Pt} (hc : X.calm = true) (h : PGs X es (tTs X.K ps))
    (hn : (assignEach es X.env).length = ps.length := by rfl) (hst : (assignEach es X.env).findIdx? (·.1) = none := by rfl) : PG X (.Tuple es k pos) (tT X.K (.tp ps)) :=
  PG.to (pg_tup hc h hn hst) fun v sg H Q ⟨rho, e, S, y, s, re, r, f⟩ => by
    cases y with
    | tup xs =>
      obtain ⟨a, vs, e1, e2, e3⟩ := r
      simp only [asg] at f
      cases q : asgL ps xs e with
      | none => rw [q] at f; exact f.elim
      | some e' =>
        rw [q] at f
        exact ⟨a, vs, e1, e2, by rw [e3.len, asgL_len q], rho, e, S, xs, s, re, e3, by rw [q]; exact f⟩
    | _ => exact f.elim

/-! ### statements -/
variable {st : Stmt} {rest : List Stmt} {a b : SM} {m : EM} {e c o i : Expr} {bm : EMt Bool}
theorem PS.to {t t' : TS} (h : PS X st t) (i : ∀ D sg H, t' D sg H → t D sg H) : PS X st t' := ⟨fun pins s sg H D I q => h.run pins s sg H D I (i _ _ _ q)⟩
theorem PSs.to {t t' : TS} (h : PSs X rest t) (i : ∀ D sg H, t' D sg H → t D sg H) : PSs X rest t' := ⟨fun pins s sg H D I q => h.run pins s sg H D I (i _ _ _ q)⟩
def seqM (a b : SM) : SM := fun e S => match a e S with
  | .nx e' S' => b e' S'
  | r => r
def nextM : SM := fun e S => .nx e S
theorem ms_nil : PSs X [] (tS X.K W nextM) := PSs.to pss_nil fun D sg H ⟨rho, e, S, s, re, f⟩ => f rho H sg s Le.refl re
theorem ms_one (h : PS X st (tS X.K W a)) : PSs X [st] (tS X.K W a) := pss_one h
theorem ms_cons (h1 : PS X st (tS X.K W a)) (h2 : PSs X rest (tS X.K W b)) : PSs X (st :: rest) (tS X.K W (seqM a b)) :=
  PSs.to (pss_cons h1 h2) fun D sg H ⟨rho, e, S, s, re, f⟩ => by
    refine ⟨rho, e, S, s, re, ?_⟩
    unfold seqM at f
    cases q : a e S with
    | nx e' S' => rw [q] at f; exact fun rho' H' sg' s' l' re' => ⟨rho', e', S', s', re', f.step l'⟩
    | ret x S' => rw [q] at f; exact f
    | brk e' S' => rw [q] at f; exact f
    | ct e' S' => rw [q] at f; exact f
    | exc ex e' S' => rw [q] at f; exact f
    | bad => rw [q] at f; exact f
def brkM : SM := fun e S => .brk e S
def ctM : SM := fun e S => .ct e S
def badM : SM := fun _ _ => .bad
theorem ms_pass : PS X (.Pass pos) (tS X.K W nextM) := PS.to ps_pass fun D sg H ⟨rho, e, S, s, re, f⟩ => f rho H sg s Le.refl re
theorem ms_break : PS X (.Break pos) (tS X.K W brkM) := PS.to ps_break fun D sg H ⟨rho, e, S, s, re, f⟩ => f rho H sg s Le.refl re
theorem ms_continue : PS X (.Continue pos) (tS X.K W ctM) := PS.to ps_continue fun D sg H ⟨rho, e, S, s, re, f⟩ => f rho H sg s Le.refl re
theorem ms_doc {x j pos pos'} : PS X (.Expr (.Constant (.str x) j pos) pos') (tS X.K W nextM) := PS.to ps_doc fun D sg H ⟨rho, e, S, s, re, f⟩ => f rho H sg s Le.refl re
/-- what is never come to -/
theorem ms_never : PS X st (tS X.K W badM) := PS.to ps_never fun D sg H ⟨rho, e, S, s, re, f⟩ => f
theorem mss_never : PSs X rest (tS X.K W badM) := PSs.to pss_never fun D sg H ⟨rho, e, S, s, re, f⟩ => f
def asgM (p : Pt) (m : EM) : SM := useM m fun x => fun e S => match asg p x e with
  | some e' => .nx e' S
  | none => .bad
theorem FinS.asg {rho : Nat → Addr} {S : Sto} {H : Hp} {D : Ends} {p : Pt} {x : MV} {e : Sl} (f : FinS K rho S H D W (match asg p x e with | some e' => .nx e' S | none => .bad)) (s : Sim K rho S H) : ∃ e', Mm.asg p x e = some e' ∧ ∀ sg', RepE K rho S.n H sg' e' → D.nx sg' H := by
  cases q : Mm.asg p x e with
  | none => rw [q] at f; exact f.elim
  | some e' => rw [q] at f; exact ⟨e', rfl, fun sg' re' => f rho H sg' s Le.refl re'⟩
/-- name = e -/
theorem ms_set {i : Nat} {x : Str} {pos' : Pos} (hN : X.N.Nodup) (he : PE X e (tM X.K W m)) (hi : X.N[i]? = some x := by rfl) (hx : Loc X.env.scope x := by first | exact Or.inl rfl | exact Or.inr rfl) (hs : swapsWith e (some (.Name x pos')) pos.line X.env = pure false := by rfl) (hf : X.fn x = true ∨ X.env.scope.names.lookup x = some .local := by first | exact .inl rfl | exact .inr rfl | assumption) :
    PS X (.Assign [.Name x pos'] e pos) (tS X.K W (asgM (.nm i) m)) :=
  PS.to (ps_set hN hi hx he hs hf) fun D sg H h => (tS_use (rel := rV) h).imp fun v H1 ⟨rho, e, S, y, s, re, r, f⟩ => f rho H1 _ s Le.refl (re.set r)
/-- target = e -/
theorem ms_asg {tg : Expr} {p : Pt} (he : PE X e (tM X.K W m)) (hg : PG X tg (tT X.K p)) (hs : swapsWithSole [tg] e pos.line X.env = pure false := by rfl) (hw : swappedStores [tg] e X.env = pure none := by rfl)
    (h1 : (assignEach [tg] X.env).map (·.2) = [assign tg X.env] := by rfl) : PS X (.Assign [tg] e pos) (tS X.K W (asgM p m)) :=
  PS.to (ps_asg he hg hs hw h1) fun D sg H h => (tS_use (rel := rV) h).imp fun v H1 ⟨rho, e, S, y, s, re, r, f⟩ => by
    obtain ⟨e', q, k⟩ := FinS.asg f s
    refine ⟨rho, e, S, y, s, re, r, ?_⟩
    rw [q]
    exact fun sg' re' _ => k sg' re'
/-- a, b = x, y -/
def parM (i j : Nat) (ml : EMt (List MV)) : SM := useM ml fun xs => fun e S => match xs with
  | [x, y] => .nx ((e.set i (some x)).set j (some y)) S
  | _ => .bad
theorem ms_par {i j : Nat} {x y : Str} {a b : Expr} {ml : EMt (List MV)} {px py pt : Pos} {kt k2 pt2} (hc : X.calm = true) (hN : X.N.Nodup) (hij : i ≠ j) (ha : PA X [a, b] (tA X.K W ml))
    (hw : swappedStores [.Tuple [.Name x px, .Name y py] kt pt] (.Tuple [a, b] k2 pt2) X.env = pure (some [x, y])) (hi : X.N[i]? = some x := by rfl) (hj : X.N[j]? = some y := by rfl)
    (hx : X.env.scope.names.lookup x = some .local := by rfl) (hy : X.env.scope.names.lookup y = some .local := by rfl)
    (hs : swapsWithSole [.Tuple [.Name x px, .Name y py] kt pt] (.Tuple [a, b] k2 pt2) pos.line X.env = pure false := by rfl) :
    PS X (.Assign [.Tuple [.Name x px, .Name y py] kt pt] (.Tuple [a, b] k2 pt2) pos) (tS X.K W (parM i j ml)) :=
  PS.to (ps_par hc hN hi hj hij hx hy ha hw hs) fun D sg H h => (tS_use (rel := rL) h).imp fun vs H1 ⟨rho, e, S, ys, s, re, r, f⟩ => by
    split at f
    · obtain ⟨v, w, e1, r1, r2⟩ := rep2 r
      exact ⟨v, w, e1, f rho H1 _ s Le.refl ((re.set r1).set r2)⟩
    · exact f.elim
def dropM' (m : EM) : SM := useM m fun _ => nextM
theorem ms_expr (he : PE X e (tM X.K W m)) (hs : swapsWith e none pos.line X.env = pure false := by rfl) : PS X (.Expr e pos) (tS X.K W (dropM' m)) :=
  PS.to (ps_expr he hs) fun D sg H h => (tS_use (rel := rV) h).imp fun v H1 ⟨rho, e, S, y, s, re, r, f⟩ => f rho H1 _ s Le.refl re
def retM (m : EM) : SM := useM m fun x => fun _ S => .ret x S
theorem ms_ret (he : PE X e (tM X.K W m)) : PS X (.Return (some e) pos) (tS X.K W (retM m)) :=
  PS.to (ps_ret he) fun D sg H h => (tS_use (rel := rV) h).imp fun v H1 ⟨rho, e, S, y, s, re, r, f⟩ => f rho H1 _ s Le.refl r
def retNM : SM := fun _ S => .ret .non S
theorem ms_retN : PS X (.Return none pos) (tS X.K W retNM) := PS.to ps_retN fun D sg H ⟨rho, e, S, s, re, f⟩ => f rho H .non s Le.refl rfl
def ifM (t : EMt Bool) (a b : SM) : SM := useM t fun k => if k = true then a else b
theorem ms_if {p q : List Stmt} (hc : PT X c (tB X.K W bm)) (ha : PSs X p (tS X.K W a)) (hb : PSs X q (tS X.K W b)) : PS X (.If c p q pos) (tS X.K W (ifM bm a b)) :=
  PS.to (ps_if hc ha hb) fun D sg H h => (tS_use (rel := rE Bool) h).imp fun k H1 ⟨rho, e, S, y, s, re, r, f⟩ => by
    cases r
    cases k with
    | true => rw [if_pos rfl] at f ⊢; exact ⟨rho, e, S, s, re, f⟩
    | false => rw [if_neg (by decide)] at f ⊢; exact ⟨rho, e, S, s, re, f⟩
/-- name op= e -/
def augM (i : Nat) (g : MV → MV → Sto → Res MV) (m : EM) : SM := useM (varM i) fun x => useM m fun y => useM (fun _ S => g x y S) fun z => fun e S => .nx (e.set i (some z)) S
theorem ms_aug {i : Nat} {x : Str} {op : Operator} {r : R2} {g : MV → MV → Sto → Res MV} {pos' : Pos} (ho : OpR X (inplaceOp op) r) (hs : Snd2 X.K r g) (hN : X.N.Nodup) (he : PE X e (tM X.K W m)) (hi : X.N[i]? = some x := by rfl) (hx : Loc X.env.scope x := by first | exact Or.inl rfl | exact Or.inr rfl) (hf : X.fn x = true ∨ X.env.scope.names.lookup x = some .local := by first | exact .inl rfl | exact .inr rfl | assumption) :
    PS X (.AugAssign (.Name x pos') op e pos) (tS X.K W (augM i g m)) := by
  refine PS.to (ps_aug (ti := r) hN hi hx he (fun pins s sg H x y v u Q I r1 r2 h => ho pins s sg H x y v u Q I r1 r2 h) hf) fun D sg H ⟨rho, e, S, s, re, f⟩ => ?_
  simp only [augM, useM, varM] at f
  split at f
  · rename_i x' S' q
    split at q
    · rename_i y q2
      cases q
      obtain ⟨v, h1, h2⟩ := re.2 _ _ q2
      refine ⟨v, h1, rho, e, S, s, re, ?_⟩
      cases q3 : m e S with
      | ok z S' =>
        rw [q3] at f
        intro rho' H' w s' l' rw'
        have f' := f.step l'
        simp only at f'
        refine hs rho' S' H' _ _ _ _ _ (fun c d H'' => W c d sg H'') s' (h2.le l') rw' ?_
        cases q4 : g x' z S' with
        | ok z2 S2 => rw [q4] at f'; exact fun rho2 H2 v2 s2 l2 r2 => f' rho2 H2 _ s2 l2 (((re.le l').le l2).set r2)
        | exc ex S2 => rw [q4] at f'; exact fun rho2 H2 d s2 l2 r2 => f' rho2 H2 sg d s2 l2 ((re.le l').le l2) r2
        | bad => rw [q4] at f'; exact f'
      | exc ex S' => rw [q3] at f; exact fun rho' H' d s' l' r' => f rho' H' sg d s' l' (re.le l') r'
      | bad => rw [q3] at f; exact f
    · cases q
  · rename_i x' S' q
    split at q <;> cases q
  · exact f.elim
/-- o[i] = v -/
def SndS (K : PySem.W.Frag) (t : TSet) (g : MV → MV → MV → Sto → Option Sto) : Prop := ∀ rho S H o i v vo vi vv Q S', Sim K rho S H → Rep K rho S.n H o vo → Rep K rho S.n H i vi → Rep K rho S.n H v vv → g o i v S = some S' → (∀ H', Sim K rho S' H' → Le K rho S H rho S' H' → Q H') → t vo vi vv H Q
def setM (g : MV → MV → MV → Sto → Option Sto) (mo mi mv : EM) : SM := useM mv fun v => useM mo fun o => useM mi fun i => fun e S => match g o i v S with
  | some S' => .nx e S'
  | none => .bad
theorem ms_setItem {t : TSet} {g : MV → MV → MV → Sto → Option Sto} {mo mi mv : EM} {pos' : Pos} (hst : PSet X t) (hg : SndS X.K t g) (ho : PE X o (tM X.K W mo)) (hi : PE X i (tM X.K W mi)) (he : PE X e (tM X.K W mv))
    (ha : ∀ v, assign (.Subscript o i pos') X.env v = (do
      let ov ← holding [v] (eval o X.env)
      let iv ← holding [v, ov] (eval i X.env)
      standAt pos'
      holding [v, ov, iv] (setItem ov iv v)
      release [v, ov, iv] []) := by intro _; rfl) (hs : swapsWithSole [.Subscript o i pos'] e pos.line X.env = pure false := by rfl) (hw : swappedStores [.Subscript o i pos'] e X.env = pure none := by rfl)
    (h1 : (assignEach [.Subscript o i pos'] X.env).map (·.2) = [assign (.Subscript o i pos') X.env] := by rfl) : PS X (.Assign [.Subscript o i pos'] e pos) (tS X.K W (setM g mo mi mv)) :=
  PS.to (ps_asg he (pg_sub ho hi hst ha) hs hw h1) fun D sg H h => (tS_use (rel := rV) h).imp fun vv H1 ⟨rho, e, S, y, s, re, r, f⟩ => by
    have f1 : tS X.K W (useM mo fun o => useM mi fun i => fun e S => match g o i y S with | some S' => .nx e S' | none => .bad) D sg H1 := ⟨rho, e, S, s, re, f⟩
    refine ⟨rho, e, S, s, re, ?_⟩
    unfold useM at f
    cases q : mo e S with
    | exc ex S' => rw [q] at f; exact fun rho' H' d s' l' r' => f rho' H' sg d s' l' (re.le l') r'
    | bad => rw [q] at f; exact f
    | ok o' S' =>
      rw [q] at f
      intro rho' H' vo s' l' ro
      have f' := f.step l'
      refine ⟨rho', e, S', s', re.le l', ?_⟩
      simp only at f'
      cases q2 : mi e S' with
      | exc ex S' => rw [q2] at f'; exact fun rho2 H2 d s2 l2 r2 => f' rho2 H2 sg d s2 l2 ((re.le l').le l2) r2
      | bad => rw [q2] at f'; exact f'
      | ok i' S2 =>
        rw [q2] at f'
        intro rho2 H2 vi s2 l2 ri
        have f2 := f'.step l2
        simp only at f2
        split at f2
        · rename_i S3 q3
          exact hg rho2 S2 H2 _ _ _ _ _ _ _ S3 s2 (ro.le l2) ri ((r.le l').le l2) q3 fun H3 s3 l3 => f2 rho2 H3 sg s3 l3 (((re.le l').le l2).le l3)
        · exact f2.elim
def setV (o i v : MV) (S : Sto) : Option Sto := match o with
  | .ref k => match S.g k with
    | .lst xs => (match i with
      | .int j => (ixN xs.length j).map fun j => S.put k (.lst (xs.set j v))
      | _ => none)
    | .dK kvs => (match toK i with
      | some key => if kvs.length < sizeLine then some (S.put k (.dK (putM kvs key v))) else none
      | none => none)
    | _ => none
  | _ => none
def rDSet : TSet := fun o i v H Q => ∃ a H', o = .ref a ∧ DPut H a i v H' ∧ Q H'
theorem set_dict (hu : X.A.units + 1 < cLine) : PSet X rDSet := by
  intro pins s sg H o i v ov iv u Q I ro ri rv h
  obtain ⟨a, H', rfl, g, q⟩ := h
  cases ro
  exact d_setItem hu I g ri rv fun s' I' => ⟨H', I', q⟩
theorem PSet.or {t t' : TSet} (h : PSet X t) (h' : PSet X t') : PSet X (fun o i v H Q => t o i v H Q ∨ t' o i v H Q) := fun pins s sg H o i v ov iv u Q I ro ri rv hq => by
  rcases hq with hq | hq
  · exact h pins s sg H o i v ov iv u Q I ro ri rv hq
  · exact h' pins s sg H o i v ov iv u Q I ro ri rv hq
def rSetV : TSet := fun o i v H Q => rSetL o i v H Q ∨ rDSet o i v H Q
theorem setV_set (hu : X.A.units + 1 < cLine) : PSet X rSetV := PSet.or set_list (set_dict hu)
theorem setV_ok : SndS K rSetV setV := by
  intro rho S H o i v vo vi vv Q S' s ro ri rv e k
  unfold setV at e
  split at e
  · rename_i n
    obtain ⟨hk, ek⟩ := ro
    split at e
    · rename_i xs q
      split at e
      · rename_i j
        cases q2 : ixN xs.length j with
        | none => rw [q2] at e; cases e
        | some j' =>
          rw [q2] at e
          cases e
          obtain ⟨ws, g1, g2⟩ := lst_at s hk q
          have hm : isMut (H (rho n)) := isMut_some g1 trivial
          have hmt : (S.g n).mut = true := by rw [q]; rfl
          exact .inl ⟨_, ws, j, j', ek, ri, g1, by rw [g2.len]; exact q2, k _ (s.put hk hmt ⟨_, upd_same, RepL.set _ (g2.upd hm) (rv.upd hm)⟩) (Le.put s hk hmt rfl)⟩
      · cases e
    · rename_i kvs q
      split at e
      · rename_i key hkey
        split at e
        · rename_i hl
          cases e
          obtain ⟨ws, g1, g2⟩ := dK_at s hk q
          have hm : isMut (H (rho n)) := isMut_some g1 trivial
          have hmt : (S.g n).mut = true := by rw [q]; rfl
          exact .inr ⟨_, _, ek, .inl ⟨ws, key, g1, toK_rep ri hkey, by rw [g2.len]; exact hl, rfl⟩, k _ (s.put hk hmt ⟨_, upd_same, RepP.put (rv.upd hm) (g2.upd hm)⟩) (Le.put s hk hmt rfl)⟩
        · cases e
      · cases e
    · cases e
  · cases e
theorem ms_put {mo mi mv : EM} {pos' : Pos} (hu : X.A.units + 1 < cLine) (ho : PE X o (tM X.K W mo)) (hi : PE X i (tM X.K W mi)) (he : PE X e (tM X.K W mv))
    (ha : ∀ v, assign (.Subscript o i pos') X.env v = (do
      let ov ← holding [v] (eval o X.env)
      let iv ← holding [v, ov] (eval i X.env)
      standAt pos'
      holding [v, ov, iv] (setItem ov iv v)
      release [v, ov, iv] []) := by intro _; rfl) (hs : swapsWithSole [.Subscript o i pos'] e pos.line X.env = pure false := by rfl) (hw : swappedStores [.Subscript o i pos'] e X.env = pure none := by rfl)
    (h1 : (assignEach [.Subscript o i pos'] X.env).map (·.2) = [assign (.Subscript o i pos') X.env] := by rfl) : PS X (.Assign [.Subscript o i pos'] e pos) (tS X.K W (setM setV mo mi mv)) :=
  ms_setItem (setV_set hu) setV_ok ho hi he ha hs hw h1
end
end Mm
end

section
/-! ## M, part 6: what is walked; for, while, comprehensions -/
namespace Mm
open PySem L2 PyProof.Rows
/-- what is walked: its items, and the lists that must stay as they are -/
structure Itm where
  xs : List MV
  ck : List (Nat × List MV)
def ckOk (ck : List (Nat × List MV)) (S : Sto) : Prop := ∀ c ∈ ck, seqO (S.g c.1) = some c.2
@[simp] theorem ckOk_nil (S : Sto) : ckOk [] S = True := by simp [ckOk]
@[simp] theorem ckOk_cons (c : Nat × List MV) (ck) (S : Sto) : ckOk (c :: ck) S = (seqO (S.g c.1) = some c.2 ∧ ckOk ck S) := by simp [ckOk]
section
variable {K : PySem.W.Frag} {W : WX}
/-- the iterator J walks over these items -/
def rI : RelT Itm It := fun K rho n _ itm J => ∀ rho' S' H', n ≤ S'.n → (∀ i, i < n → rho' i = rho i) → Sim K rho' S' H' → ckOk itm.ck S' →
  J.stop itm.xs.length H' ∧ ∀ (i : Nat) (x : MV), itm.xs[i]? = some x → J.go i H' ∧ ∀ v H2, J.yld i H' v H2 → Sim K rho' S' H2 ∧ Le K rho' S' H' rho' S' H2 ∧ Rep K rho' S'.n H2 x v
/-- the same, where the items' values must still stand -/
def rJ : RelT Itm It := fun K rho n H itm J => ∀ rho' S' H', n ≤ S'.n → (∀ i, i < n → rho' i = rho i) → (∀ a vs, SqT K H a vs → SqT K H' a vs) → Sim K rho' S' H' → ckOk itm.ck S' →
  J.stop itm.xs.length H' ∧ ∀ (i : Nat) (x : MV), itm.xs[i]? = some x → J.go i H' ∧ ∀ v H2, J.yld i H' v H2 → Sim K rho' S' H2 ∧ Le K rho' S' H' rho' S' H2 ∧ Rep K rho' S'.n H2 x v
instance : RelM rJ := ⟨fun h1 h2 h3 h rho2 S2 H2 g1 g2 g3 s c => h rho2 S2 H2 (Nat.le_trans h1 g1) (fun i hi => by rw [g2 i (Nat.lt_of_lt_of_le hi h1), h2 i hi]) (fun a vs q => g3 a vs (h3 a vs q)) s c⟩
abbrev tI (K : PySem.W.Frag) (W : WX) (m : EMt Itm) : TI := fun sg H R => tG K rJ W m sg H R
theorem rJ_le {rho rho' : Nat → Addr} {S S' : Sto} {H H' : Hp} {itm : Itm} {J : It} (h : rJ K rho S.n H itm J) (l : Le K rho S H rho' S' H') : rJ K rho' S'.n H' itm J := RelM.mono (rel := rJ) l.n l.r l.tup h
open Classical in
noncomputable def loopM (ck : List (Nat × List MV)) (p : Pt) (body : SM) : List MV → SM
  | [] => fun e S => if ckOk ck S then .nx e S else .bad
  | x :: r => fun e S => if ckOk ck S then (match asg p x e with
    | none => .bad
    | some e1 => match body e1 S with
      | .nx e' S' => loopM ck p body r e' S'
      | .ct e' S' => loopM ck p body r e' S'
      | .brk e' S' => .nx e' S'
      | .ret y S' => .ret y S'
      | .exc ex e' S' => .exc ex e' S'
      | .bad => .bad) else .bad
noncomputable def forM (mi : EMt Itm) (p : Pt) (body : SM) : SM := useM mi fun itm => loopM itm.ck p body itm.xs
theorem rJ_self {rho : Nat → Addr} {S : Sto} {H : Hp} {itm : Itm} {J : It} (h : rJ K rho S.n H itm J) (s : Sim K rho S H) (c : ckOk itm.ck S) :
    J.stop itm.xs.length H ∧ ∀ (i : Nat) (x : MV), itm.xs[i]? = some x → J.go i H ∧ ∀ v H2, J.yld i H v H2 → Sim K rho S H2 ∧ Le K rho S H rho S H2 ∧ Rep K rho S.n H2 x v :=
  h rho S H (Nat.le_refl _) (fun _ _ => rfl) (fun _ _ q => q) s c
theorem drop_cons' {al : Type} {xs : List al} {i : Nat} (h : i < xs.length) : xs.drop i = xs[i] :: xs.drop (i + 1) := List.drop_eq_getElem_cons h
theorem loop_ok {itm : Itm} {J : It} {p : Pt} {body : SM} {D : Ends} {rho : Nat → Addr} {e : Sl} {S : Sto} {sg : L2.St} {H : Hp} (s : Sim K rho S H) (re : RepE K rho S.n H sg e) (r : rJ K rho S.n H itm J)
    (f : FinS K rho S H D W (loopM itm.ck p body itm.xs e S)) : ∃ Wv : Nat → Nat → L2.St → Hp → Prop, (∃ m, Wv 0 m sg H) ∧ ∀ i m sg H, Wv i m sg H →
      (J.stop i H ∧ D.nx sg H) ∨ (J.go i H ∧ ∃ N : L2.St → Hp → Prop, (∀ sg' H', N sg' H' → ∃ m', m' < m ∧ Wv (i + 1) m' sg' H') ∧ ∀ x H', J.yld i H x H' → tT K p x sg H' fun sg2 H2 => tS K W body { D with nx := N, ct := N, bk := D.nx } sg2 H2) := by
  refine ⟨fun i m sg H => m = itm.xs.length - i ∧ i ≤ itm.xs.length ∧ ∃ rho e S, Sim K rho S H ∧ RepE K rho S.n H sg e ∧ rJ K rho S.n H itm J ∧ FinS K rho S H D W (loopM itm.ck p body (itm.xs.drop i) e S), ⟨_, rfl, Nat.zero_le _, rho, e, S, s, re, r, f⟩, ?_⟩
  rintro i m sg H ⟨rfl, hi, rho, e, S, s, re, r, f⟩
  by_cases hl : i < itm.xs.length
  · rw [drop_cons' hl] at f
    simp only [loopM] at f
    split at f
    · rename_i hc
      obtain ⟨_, h2⟩ := rJ_self r s hc
      obtain ⟨h3, h4⟩ := h2 i _ (List.getElem?_eq_getElem hl)
      refine .inr ⟨h3, fun sg' H' => i + 1 ≤ itm.xs.length ∧ ∃ rho e S, Sim K rho S H' ∧ RepE K rho S.n H' sg' e ∧ rJ K rho S.n H' itm J ∧ FinS K rho S H' D W (loopM itm.ck p body (itm.xs.drop (i + 1)) e S), fun sg' H' ⟨q1, q2⟩ => ⟨itm.xs.length - (i + 1), by omega, rfl, q1, q2⟩, fun v H2 y => ?_⟩
      obtain ⟨s2, l2, r2⟩ := h4 v H2 y
      refine ⟨rho, e, S, _, s2, re.le l2, r2, ?_⟩
      cases q : asg p itm.xs[i] e with
      | none => rw [q] at f; exact f.elim
      | some e1 =>
        rw [q] at f
        simp only at f ⊢
        intro sg' re' _
        refine ⟨rho, e1, S, s2, re', ?_⟩
        have f2 := f.step l2
        have r3 := rJ_le r l2
        cases q2 : body e1 S with
        | nx e' S' => rw [q2] at f2; exact fun rho' H' sg2 s' l' re2 => ⟨hl, rho', e', S', s', re2, rJ_le r3 l', f2.step l'⟩
        | ct e' S' => rw [q2] at f2; exact fun rho' H' sg2 s' l' re2 => ⟨hl, rho', e', S', s', re2, rJ_le r3 l', f2.step l'⟩
        | brk e' S' => rw [q2] at f2; exact f2
        | ret y S' => rw [q2] at f2; exact f2
        | exc ex e' S' => rw [q2] at f2; exact f2
        | bad => rw [q2] at f2; exact f2
    · exact f.elim
  · have e1 : i = itm.xs.length := by omega
    subst e1
    rw [List.drop_length] at f
    simp only [loopM] at f
    split at f
    · rename_i hc
      exact .inl ⟨(rJ_self r s hc).1, f rho H sg s Le.refl re⟩
    · exact f.elim
variable {X : Cx} {pos : Pos} {tg iter : Expr}
theorem PI.to {t t' : TI} (h : PI X tg iter t) (i : ∀ sg H R, t' sg H R → t sg H R) : PI X tg iter t' := ⟨fun pins s sg H R I q => h.run pins s sg H R I (i _ _ _ q)⟩
theorem ms_for {body : List Stmt} {mi : EMt Itm} {p : Pt} {b : SM} (hp : PassesOwn (model X.prog X.w) X.A X.env X.xe) (hc : X.calm = true) (hi : PI X tg iter (tI X.K W mi)) (hg : PG X tg (tT X.K p)) (hb : PSs X body (tS X.K W b))
    (hs : ∀ x, foldedSetIterable iter X.env x = pure x := by intro _; rfl) : PS X (.For tg iter body [] pos) (tS X.K W (forM mi p b)) :=
  PS.to (ps_for hp hc hi hg hb hs) fun D sg H h => (tS_use (rel := rJ) h).imp fun J H1 ⟨rho, e, S, itm, s, re, r, f⟩ => loop_ok s re r f

/-! ### comprehensions -/
open Classical in
noncomputable def lcLoop (ck : List (Nat × List MV)) (p : Pt) (tt : EMt Bool) (te : EM) (e : Sl) : List MV → List MV → Sto → Res (List MV)
  | [], acc, S => if ckOk ck S then .ok acc S else .bad
  | x :: r, acc, S => if ckOk ck S then (match asg p x e with
    | none => .bad
    | some e1 => match tt e1 S with
      | .ok true S1 => (match te e1 S1 with
        | .ok y S2 => if acc.length < sizeLine then lcLoop ck p tt te e r (acc ++ [y]) S2 else .bad
        | _ => .bad)
      | .ok false S1 => lcLoop ck p tt te e r acc S1
      | _ => .bad) else .bad
noncomputable def lcM (mi : EMt Itm) (p : Pt) (tt : EMt Bool) (te : EM) (vs : List Nat) : EM := bindM mi fun itm => fun e S => match lcLoop itm.ck p tt te (wipeE e vs) itm.xs [] S with
  | .ok acc S' => .ok (.ref S'.n) (S'.add (.lst acc))
  | _ => .bad
def yesM : EMt Bool := fun _ S => .ok true S
/-- a list that the store did not know is taken into it -/
theorem Sim.adopt {rho : Nat → Addr} {S : Sto} {H : Hp} (s : Sim K rho S H) {D : Addr} {vs : List V} {xs : List MV} (hD : H D = some (.lst vs)) (hn : ∀ i, i < S.n → (S.g i).mut = true → rho i ≠ D) (r : RepL K rho S.n H xs vs) : Sim K (ext rho S.n D) (S.add (.lst xs)) H where
  inj := fun i j hi hj mi mj e => by
    have hi' : i < S.n + 1 := hi
    have hj' : j < S.n + 1 := hj
    by_cases h1 : i = S.n
    · by_cases h2 : j = S.n
      · omega
      · rw [Sto.add_g, if_neg h2] at mj
        subst h1
        rw [ext_at, ext_lt (by omega)] at e
        exact absurd e.symm (hn j (by omega) mj)
    · by_cases h2 : j = S.n
      · rw [Sto.add_g, if_neg h1] at mi
        subst h2
        rw [ext_at, ext_lt (by omega)] at e
        exact absurd e (hn i (by omega) mi)
      · rw [ext_lt (by omega), ext_lt (by omega)] at e
        rw [Sto.add_g, if_neg h1] at mi
        rw [Sto.add_g, if_neg h2] at mj
        exact s.inj i j (by omega) (by omega) mi mj e
  obj := fun i hi => by
    have hi' : i < S.n + 1 := hi
    by_cases h1 : i = S.n
    · subst h1
      rw [ext_at, Sto.add_g, if_pos rfl]
      exact ⟨vs, hD, RepL.mono (Nat.le_succ _) (fun _ h => ext_lt h) (fun _ _ q => q) r⟩
    · have h2 : i < S.n := by omega
      rw [ext_lt h2, Sto.add_g, if_neg h1]
      have ho := s.obj i h2
      cases q : S.g i with
      | lst ys => rw [q] at ho; obtain ⟨ws, g1, g2⟩ := ho; exact ⟨ws, g1, RepL.mono (Nat.le_succ _) (fun _ h => ext_lt h) (fun _ _ q => q) g2⟩
      | con ys => rw [q] at ho; obtain ⟨ws, g1, g2⟩ := ho; exact ⟨ws, g1, RepL.mono (Nat.le_succ _) (fun _ h => ext_lt h) (fun _ _ q => q) g2⟩
      | dK ys => rw [q] at ho; obtain ⟨ws, g1, g2⟩ := ho; exact ⟨ws, g1, RepP.mono (Nat.le_succ _) (fun _ h => ext_lt h) (fun _ _ q => q) g2⟩
      | dT ys => rw [q] at ho; obtain ⟨ws, g1, g2⟩ := ho; exact ⟨ws, g1, RepP.mono (Nat.le_succ _) (fun _ h => ext_lt h) (fun _ _ q => q) g2⟩
      | ins C ys => rw [q] at ho; obtain ⟨dx, ws, g1, g2⟩ := ho; exact ⟨dx, ws, g1, RepP.mono (Nat.le_succ _) (fun _ h => ext_lt h) (fun _ _ q => q) g2⟩
/-- what the store does not know changes -/
theorem Sim.mutAt {rho : Nat → Addr} {S : Sto} {H : Hp} (s : Sim K rho S H) {D : Addr} {u : HO} (hm : isMut (H D)) (hn : ∀ i, i < S.n → (S.g i).mut = true → rho i ≠ D) : Sim K rho S (upd H D u) where
  inj := s.inj
  obj := fun i hi => RepO.stay hm (fun q => hn i hi q) (s.obj i hi) (fun _ _ => rfl) (Nat.le_refl _)
theorem Le.mutAt {rho rho' : Nat → Addr} {S S' : Sto} {H H' : Hp} (l : Le K rho S H rho' S' H') {D : Addr} {u : HO} (hm : isMut (H' D)) (h0 : H D = none) : Le K rho S H rho' S' (upd H' D u) where
  n := l.n
  r := l.r
  tup := fun a vs q => sqT_upd hm (l.tup a vs q)
  fr := fun a o q hc => by rw [upd_ne (ne_of_none q h0)]; exact l.fr a o q hc
  new := l.new
  th := fun a q => by
    by_cases e : a = D
    · subst e; exact h0
    · rw [upd_ne e] at q; exact l.th a q
  mu := l.mu
theorem Le.adopt {rho rho' : Nat → Addr} {S S' : Sto} {H H' : Hp} (l : Le K rho S H rho' S' H') {D : Addr} {o : MO} (h0 : H D = none) : Le K rho S H (ext rho' S'.n D) (S'.add o) H' where
  n := Nat.le_trans l.n (Nat.le_succ _)
  r := fun i hi => by rw [ext_lt (Nat.lt_of_lt_of_le hi l.n)]; exact l.r i hi
  tup := l.tup
  fr := l.fr
  new := fun i h1 h2 => by
    have h2' : i < S'.n + 1 := h2
    by_cases e : i = S'.n
    · subst e; rw [ext_at]; exact h0
    · rw [ext_lt (by omega)]; exact l.new i h1 (by omega)
  th := l.th
  mu := fun i hi => by rw [Sto.add_g, if_neg (by have := l.n; omega)]; exact l.mu i hi
/-- numbers that come new are not D's -/
theorem Le.notD {rho rho' : Nat → Addr} {S S' : Sto} {H H' : Hp} (l : Le K rho S H rho' S' H') {D : Addr} {u : HO} (hD : H D = some u) (hn : ∀ i, i < S.n → (S.g i).mut = true → rho i ≠ D) : ∀ i, i < S'.n → (S'.g i).mut = true → rho' i ≠ D := fun i hi hm => by
  by_cases h : i < S.n
  · rw [l.r i h]; exact hn i h (by rw [← l.mu i h]; exact hm)
  · intro e
    have := l.new i (by omega) hi
    rw [e, hD] at this; cases this
theorem wipe_wipe (sg : L2.St) (vs : List Nat) : L2.wipe (L2.wipe sg vs) vs = L2.wipe sg vs := by
  apply List.ext_getElem?
  intro i
  rw [wipe_get, wipe_length, wipe_get]
  by_cases h : i < sg.length
  · by_cases h2 : i ∈ vs
    · simp [h, h2]
    · simp [h, h2]
  · simp [h]
theorem lc_ok {itm : Itm} {J : It} {p : Pt} {tt : EMt Bool} {te : EM} {vs : List Nat} {rho : Nat → Addr} {e : Sl} {S : Sto} {sg : L2.St} {H1 : Hp} {Q : VK} {E : XK} (hp : ∀ j ∈ p.ns, j ∈ vs) (s : Sim K rho S H1) (re : RepE K rho S.n H1 sg e) (r : rJ K rho S.n H1 itm J)
    (f : Fin K rV rho S H1 Q E (match lcLoop itm.ck p tt te (wipeE e vs) itm.xs [] S with | .ok acc S' => .ok (.ref S'.n) (S'.add (.lst acc)) | _ => .bad))
    (D : Addr) (hD : H1 D = none) : ∃ Wv : Nat → Nat → Hp → Prop, (∃ m, Wv 0 m (upd H1 D (.lst []))) ∧ ∀ i m H, Wv i m H →
      (J.stop i H ∧ Q (.ref D) H) ∨ (J.go i H ∧ ∃ Nx : Hp → Prop, (∀ H', Nx H' → ∃ m', m' < m ∧ Wv (i + 1) m' H') ∧ ∀ x H', J.yld i H x H' → tT K p x (L2.wipe sg vs) H' fun sg2 H2 => L2.wipe sg2 vs = L2.wipe sg vs ∧ tB K (fun _ _ _ _ => False) tt sg2 H2 fun b H3 =>
        if b = true then tM K (fun _ _ _ _ => False) te sg2 H3 fun y H4 => ∃ acc, H4 D = some (.lst acc) ∧ acc.length < sizeLine ∧ Nx (upd H4 D (.lst (acc ++ [y]))) else Nx H3) := by
  -- the state of the block ahead of the i-th item
  refine ⟨fun i m H => m = itm.xs.length - i ∧ i ≤ itm.xs.length ∧ ∃ rho' S' acc av, Sim K rho' S' H ∧ Le K rho S H1 rho' S' H ∧ (∀ i, i < S'.n → (S'.g i).mut = true → rho' i ≠ D) ∧ H D = some (.lst av) ∧ RepL K rho' S'.n H acc av ∧
      Fin K rV rho S H1 Q E (match lcLoop itm.ck p tt te (wipeE e vs) (itm.xs.drop i) acc S' with | .ok acc S' => .ok (.ref S'.n) (S'.add (.lst acc)) | _ => .bad), ⟨_, rfl, Nat.zero_le _, rho, S, [], [], s.ofNew hD, Le.ofNew hD, fun i hi hm => ?_, upd_same, rfl, f⟩, ?_⟩
  · obtain ⟨o, q, _⟩ := (s.obj i hi).tracked hm
    exact ne_of_none q hD
  · rintro i m H ⟨rfl, hi, rho1, S1, acc, av, s1, l1, n1, hD1, ra, f1⟩
    have r1 := rJ_le r l1
    by_cases hl : i < itm.xs.length
    · rw [drop_cons' hl] at f1
      simp only [lcLoop] at f1
      by_cases hc : ckOk itm.ck S1
      · rw [if_pos hc] at f1
        obtain ⟨_, h2⟩ := rJ_self r1 s1 hc
        obtain ⟨h3, h4⟩ := h2 i _ (List.getElem?_eq_getElem hl)
        refine .inr ⟨h3, fun H => i + 1 ≤ itm.xs.length ∧ ∃ rho' S' acc av, Sim K rho' S' H ∧ Le K rho S H1 rho' S' H ∧ (∀ i, i < S'.n → (S'.g i).mut = true → rho' i ≠ D) ∧ H D = some (.lst av) ∧ RepL K rho' S'.n H acc av ∧
          Fin K rV rho S H1 Q E (match lcLoop itm.ck p tt te (wipeE e vs) (itm.xs.drop (i + 1)) acc S' with | .ok acc S' => .ok (.ref S'.n) (S'.add (.lst acc)) | _ => .bad), fun H' ⟨q1, q2⟩ => ⟨itm.xs.length - (i + 1), by omega, rfl, q1, q2⟩, fun v H2 y => ?_⟩
        obtain ⟨s2, l2, r2⟩ := h4 v H2 y
        have l12 := l1.trans l2
        have hD2 : H2 D = some (.lst av) := l2.fr D _ hD1 n1
        have ra2 := ra.le l2
        refine ⟨rho1, wipeE e vs, S1, _, s2, (re.wipe vs).le l12, r2, ?_⟩
        cases q : asg p itm.xs[i] (wipeE e vs) with
        | none => rw [q] at f1; exact f1.elim
        | some e1 =>
          rw [q] at f1
          simp only at f1 ⊢
          intro sg2 re2 hw
          refine ⟨?_, rho1, e1, S1, s2, re2, ?_⟩
          · rw [hw vs hp]
            exact wipe_wipe sg vs
          · cases q2 : tt e1 S1 with
            | bad => rw [q2] at f1; exact f1.elim
            | exc ex S2 => rw [q2] at f1; exact f1.elim
            | ok b S2 =>
              rw [q2] at f1
              intro rho3 H3 b' s3 l3 rb
              have rb' : b = b' := rb
              subst rb'
              have n3 := l3.notD hD2 n1
              have hD3 : H3 D = some (.lst av) := l3.fr D _ hD2 n1
              have l13 := l12.trans l3
              cases b with
              | false =>
                rw [if_neg (by decide)]
                exact ⟨hl, rho3, S2, acc, av, s3, l13, n3, hD3, ra2.le l3, f1⟩
              | true =>
                rw [if_pos rfl]
                refine ⟨rho3, e1, S2, s3, re2.le l3, ?_⟩
                simp only at f1
                cases q3 : te e1 S2 with
                | bad => rw [q3] at f1; exact f1.elim
                | exc ex S3 => rw [q3] at f1; exact f1.elim
                | ok yv S3 =>
                  rw [q3] at f1
                  intro rho4 H4 y' s4 l4 ry
                  have n4 := l4.notD hD3 n3
                  have hD4 : H4 D = some (.lst av) := l4.fr D _ hD3 n3
                  have ra4 := (ra2.le l3).le l4
                  simp only at f1
                  by_cases hz : acc.length < sizeLine
                  · rw [if_pos hz] at f1
                    have hm : isMut (H4 D) := isMut_some hD4 trivial
                    exact ⟨av, hD4, by rw [ra4.len]; exact hz, hl, rho4, S3, acc ++ [yv], av ++ [y'], s4.mutAt hm n4, (l13.trans l4).mutAt hm hD, n4, upd_same, (ra4.upd hm).app (RepL.one (ry.upd hm)), f1⟩
                  · rw [if_neg hz] at f1; exact f1.elim
      · rw [if_neg hc] at f1; exact f1.elim
    · have e1 : i = itm.xs.length := by omega
      subst e1
      rw [List.drop_length] at f1
      simp only [lcLoop] at f1
      by_cases hc : ckOk itm.ck S1
      · rw [if_pos hc] at f1
        refine .inl ⟨(rJ_self r1 s1 hc).1, ?_⟩
        exact f1 (ext rho1 S1.n D) H _ (s1.adopt hD1 n1 ra) (l1.adopt hD) ⟨Nat.lt_succ_self _, by rw [ext_at]⟩
      · rw [if_neg hc] at f1; exact f1.elim
theorem mp_lc {elt : Expr} {ifs : List Expr} {scope : Scope} {own : List (Str × Nat)} {mi : EMt Itm} {p : Pt} {tt : EMt Bool} {te : EM} {W : WX} (hc : X.calm = true) (hN : X.N.Nodup) (hi : PI X tg iter (tI X.K W mi)) (ok : BlkOk X.N X.env.scope scope own)
    (hp : ∀ j ∈ p.ns, j ∈ own.map (·.2))
    (hg : ∀ (s : Shared) (H : Hp) (C : Addr) (cl : List (Str × Addr)) (fp : List Addr), PG (X.blk s H scope (compEnvC scope cl C X.env) fp) tg (tT X.K p))
    (ht : ∀ (s : Shared) (H : Hp) (C : Addr) (cl : List (Str × Addr)) (fp : List Addr), PTs (X.blk s H scope (compEnvC scope cl C X.env) fp) ifs (tB X.K (fun _ _ _ _ => False) tt))
    (he : ∀ (s : Shared) (H : Hp) (C : Addr) (cl : List (Str × Addr)) (fp : List Addr), PE (X.blk s H scope (compEnvC scope cl C X.env) fp) elt (tM X.K (fun _ _ _ _ => False) te)) (hs : ∀ x, foldedSetIterable iter X.env x = pure x := by intro _; rfl) :
    PE X (.ListComp elt [⟨tg, iter, ifs, 0⟩] scope pos) (tM X.K W (lcM mi p tt te (own.map (·.2)))) :=
  PE.to (pe_lc hc hN hi ok hg ht he hs) fun sg H Q h => (tG_bind (rel := rJ) h).imp fun J H1 ⟨rho, e, S, itm, s, re, r, f⟩ => lc_ok hp s re r f
end
end Mm
end

section
/-! ## M, part 7: iterables, while, defs and their calls, the law's end -/
namespace Mm
open PySem L2 PyProof.Rows
def itmOf (x : MV) (S : Sto) : Option Itm := match x with
  | .tup xs => some ⟨xs, []⟩
  | .str z => some ⟨z.cps.toList.map fun c => .str ⟨#[c]⟩, []⟩
  | .ref k => match S.g k with
    | .lst xs => some ⟨xs, [(k, xs)]⟩
    | .con xs => some ⟨xs, [(k, xs)]⟩
    | _ => none
  | _ => none
def itmV (o : Option Itm) (S : Sto) : Res Itm := match o with
  | some i => .ok i S
  | none => .bad
def iterM (m : EM) : EMt Itm := bindM m fun x => fun _ S => itmV (itmOf x S) S
section
variable {K : PySem.W.Frag} {W : WX} {X : Cx} {pos : Pos} {tg iter e : Expr} {m : EM}
theorem PI.or {w1 w2 : TI} (h1 : PI X tg iter w1) (h2 : PI X tg iter w2) : PI X tg iter (fun sg H R => w1 sg H R ∨ w2 sg H R) := ⟨fun pins s sg H R I h => by
  rcases h with h | h
  · exact h1.run pins s sg H R I h
  · exact h2.run pins s sg H R I h⟩
theorem rJ_seqT {rho : Nat → Addr} {n : Nat} {H : Hp} {a : Addr} {vs : List V} {xs : List MV} (h : SqT K H a vs) (r : RepL K rho n H xs vs) : rJ K rho n H ⟨xs, []⟩ (Itt K a) := by
  intro rho' S' H' hn hr ht s hc
  have h' := ht a vs h
  have r' := RepL.mono hn hr ht r
  refine ⟨⟨vs, h', by rw [r'.len]; exact Nat.le_refl _⟩, fun i x hx => ?_⟩
  obtain ⟨v, h1, h2⟩ := r'.get hx
  refine ⟨⟨vs, v, h', h1⟩, fun v2 H2 ⟨e1, e2⟩ => ?_⟩
  subst e1
  have := e2 vs h'
  rw [h1] at this; cases this
  exact ⟨s, Le.refl, h2⟩
theorem ck_at {rho rho' : Nat → Addr} {S' : Sto} {n k : Nat} {H' : Hp} {xs : List MV} (hk : k < n) (hn : n ≤ S'.n) (hr : ∀ i, i < n → rho' i = rho i) (s : Sim K rho' S' H') (hc : ckOk [(k, xs)] S') : ∃ vs, SqL K H' (rho k) vs ∧ RepL K rho' S'.n H' xs vs := by
  simp at hc
  obtain ⟨vs, h1, h2⟩ := seqO_at s (Nat.lt_of_lt_of_le hk hn) hc
  exact ⟨vs, by rw [← hr k hk]; exact h1, h2⟩
theorem sq_inj {H : Hp} {a : Addr} {xs : List MV} {vs : List V} {rho : Nat → Addr} {n : Nat} {i : Nat} {v : V} {x : MV} (r : RepL K rho n H xs vs) (hx : xs[i]? = some x) (h : SqL K H a vs) (e : ∀ ys, SqL K H a ys → ys[i]? = some v) : Rep K rho n H x v := by
  obtain ⟨w, h1, h2⟩ := r.get hx
  have := e vs h
  rw [h1] at this; cases this
  exact h2
theorem rJ_seqL {rho : Nat → Addr} {n k : Nat} {H : Hp} {xs : List MV} (hk : k < n) : rJ K rho n H ⟨xs, [(k, xs)]⟩ (Itl K (rho k)) := by
  intro rho' S' H' hn hr ht s hc
  obtain ⟨vs, h', r'⟩ := ck_at hk hn hr s hc
  refine ⟨⟨vs, h', by rw [r'.len]; exact Nat.le_refl _⟩, fun i x hx => ?_⟩
  obtain ⟨v, h1, h2⟩ := r'.get hx
  refine ⟨⟨vs, v, h', h1⟩, fun v2 H2 ⟨e1, e2⟩ => ?_⟩
  subst e1
  exact ⟨s, Le.refl, sq_inj r' hx h' e2⟩
theorem rJ_str {rho : Nat → Addr} {n : Nat} {H : Hp} {z : Str} : rJ K rho n H ⟨z.cps.toList.map fun c => .str ⟨#[c]⟩, []⟩ (Its z) := by
  intro rho' S' H' hn hr ht s hc
  refine ⟨by show z.cps.size ≤ (z.cps.toList.map _).length; simp, fun i x hx => ?_⟩
  simp only [List.getElem?_map, Option.map_eq_some_iff] at hx
  obtain ⟨c, h1, h2⟩ := hx
  have hl : i < z.cps.size := by
    have := (List.getElem?_eq_some_iff.mp h1).1
    simpa using this
  refine ⟨hl, fun v H2 ⟨e1, c', h3, h4⟩ => ?_⟩
  subst e1
  have : c = c' := by
    rw [← Array.getElem?_toList] at h3
    rw [h1] at h3; exact Option.some.inj h3
  subst this
  exact ⟨s, Le.refl, by rw [← h2]; exact h4⟩
/-- a value that is walked: a tuple, a list, a text -/
theorem mi_seq (he : PE X e (tM X.K W m)) : PI X tg e (tI X.K W (iterM m)) :=
  PI.to (PI.or (pi_list he) (PI.or (pi_tup he) (pi_str he))) fun sg H R ⟨rho, en, S, s, re, f⟩ => by
    unfold iterM bindM at f
    cases q : m en S with
    | exc ex S' => rw [q] at f; exact .inl ⟨rho, en, S, s, re, by rw [q]; exact f⟩
    | bad => rw [q] at f; exact f.elim
    | ok x S' =>
      rw [q] at f
      simp only at f
      cases q2 : itmOf x S' with
      | none => rw [q2] at f; exact f.elim
      | some itm =>
        rw [q2] at f
        unfold itmOf at q2
        split at q2
        · cases q2
          refine .inr (.inl ⟨rho, en, S, s, re, ?_⟩)
          rw [q]
          intro rho' H' v s' l' ⟨a, vs, h1, h2, h3⟩
          exact ⟨a, h1, ⟨vs, h2⟩, f rho' H' _ s' l' (rJ_seqT h2 h3)⟩
        · cases q2
          refine .inr (.inr ⟨rho, en, S, s, re, ?_⟩)
          rw [q]
          intro rho' H' v s' l' h1
          exact ⟨_, h1, f rho' H' _ s' l' rJ_str⟩
        · rename_i k
          refine .inl ⟨rho, en, S, s, re, ?_⟩
          rw [q]
          intro rho' H' v s' l' ⟨hk, h1⟩
          split at q2
          · rename_i xs qk
            cases q2
            obtain ⟨vs, g1, g2⟩ := lst_at s' hk qk
            exact ⟨_, h1, ⟨vs, SqL.of g1⟩, f rho' H' _ s' l' (rJ_seqL hk)⟩
          · rename_i xs qk
            cases q2
            obtain ⟨vs, g1, g2⟩ := seqO_at s' hk (xs := xs) (by rw [qk]; rfl)
            exact ⟨_, h1, ⟨vs, g1⟩, f rho' H' _ s' l' (rJ_seqL hk)⟩
          · cases q2
        · cases q2
/-- range -/
theorem range_get {c i c' : Nat} (h : (List.range c)[i]? = some c') : i < c ∧ c' = i := by
  obtain ⟨h1, h2⟩ := List.getElem?_eq_some_iff.mp h
  rw [List.getElem_range] at h2
  exact ⟨by simpa using h1, h2.symm⟩
def rngL (lo : Int) (n : Nat) : List MV := (List.range n).map fun i => .int (lo + (i : Nat))
@[irreducible] def rngO1 : List MV → Option Itm
  | [.int j] => if -(2 ^ 62) ≤ j ∧ j < 2 ^ 62 then some ⟨rngL 0 j.toNat, []⟩ else none
  | _ => none
@[irreducible] def rngO2 : List MV → Option Itm
  | [.int i, .int j] => if -(2 ^ 62) ≤ i ∧ i < 2 ^ 62 ∧ -(2 ^ 62) ≤ j ∧ j < 2 ^ 62 then some ⟨rngL i (j - i).toNat, []⟩ else none
  | _ => none
/-- down by ones -/
@[irreducible] def rngO3 : List MV → Option Itm
  | [.int i, .int j, .int c] => if c = -1 ∧ -(2 ^ 62) ≤ i ∧ i < 2 ^ 62 ∧ -(2 ^ 62) ≤ j ∧ j < 2 ^ 62 then some ⟨(List.range (i - j).toNat).map fun k => .int (i + (k : Nat) * (-1)), []⟩ else none
  | _ => none
def itmM (g : List MV → Option Itm) (ml : EMt (List MV)) : EMt Itm := bindM ml fun xs => fun _ S => itmV (g xs) S
theorem rJ_rng {rho : Nat → Addr} {n : Nat} {H : Hp} {lo : Int} {c : Nat} : rJ K rho n H ⟨rngL lo c, []⟩ (Itr lo c) := by
  intro rho' S' H' hn hr ht s hc
  refine ⟨by show c ≤ (rngL lo c).length; simp [rngL], fun i x hx => ?_⟩
  simp only [rngL, List.getElem?_map, Option.map_eq_some_iff] at hx
  obtain ⟨c', h1, h2⟩ := hx
  obtain ⟨hl, rfl⟩ := range_get h1
  refine ⟨hl, fun v H2 ⟨e1, e2⟩ => ?_⟩
  subst e1
  exact ⟨s, Le.refl, by rw [← h2]; exact e2⟩
theorem rJ_rngC {rho : Nat → Addr} {n : Nat} {H : Hp} {lo st : Int} {c : Nat} : rJ K rho n H ⟨(List.range c).map fun k => .int (lo + (k : Nat) * st), []⟩ (Itc lo st c) := by
  intro rho' S' H' hn hr ht s hc
  refine ⟨by show c ≤ ((List.range c).map _).length; simp, fun i x hx => ?_⟩
  simp only [List.getElem?_map, Option.map_eq_some_iff] at hx
  obtain ⟨c', h1, h2⟩ := hx
  obtain ⟨hl, rfl⟩ := range_get h1
  refine ⟨hl, fun v H2 ⟨e1, e2⟩ => ?_⟩
  subst e1
  exact ⟨s, Le.refl, by rw [← h2]; exact e2⟩
theorem fin_itm {al : Type} {rho : Nat → Addr} {S : Sto} {H : Hp} {Q : It → Hp → Prop} {E : XK} {o : Option Itm} (f : Fin K rJ rho S H Q E (itmV o S)) (s : Sim K rho S H) : ∃ itm, o = some itm ∧ ∀ J, rJ K rho S.n H itm J → Q J H := by
  cases o with
  | none => exact f.elim
  | some itm => exact ⟨itm, rfl, fun J h => f rho H J s Le.refl h⟩
theorem mi_range1 {a : Expr} {ml : EMt (List MV)} {p : Pos} (hg : Gl X "range") (hm : X.mg "range" = none) (ha : PA X [a] (tA X.K W ml)) (hs : starEach [a] X.env = [(false, eval a X.env)] := by rfl) : PI X tg (.Call (.Name "range" p) [a] [] pos) (tI X.K W (itmM rngO1 ml)) :=
  PI.to (pi_range1 hg hm ha hs) fun sg H R h => (tG_bind (rel := rL) h).imp fun vs H1 ⟨rho, en, S, xs, s, re, r, f⟩ => by
    obtain ⟨itm, q, k⟩ := fin_itm (al := Unit) f s
    unfold rngO1 at q
    split at q
    · split at q
      · rename_i j hj
        cases q
        obtain ⟨v, h1, h2⟩ := rep1 r
        exact ⟨j, by rw [h1, show v = .int j from h2], hj.1, hj.2, k _ rJ_rng⟩
      · cases q
    · cases q
theorem mi_range2 {a b : Expr} {ml : EMt (List MV)} {p : Pos} (hg : Gl X "range") (hm : X.mg "range" = none) (ha : PA X [a, b] (tA X.K W ml)) (hs : starEach [a, b] X.env = [(false, eval a X.env), (false, eval b X.env)] := by rfl) (hs2 : starEach [b] X.env = [(false, eval b X.env)] := by rfl) : PI X tg (.Call (.Name "range" p) [a, b] [] pos) (tI X.K W (itmM rngO2 ml)) :=
  PI.to (pi_range2 hg hm ha hs hs2) fun sg H R h => (tG_bind (rel := rL) h).imp fun vs H1 ⟨rho, en, S, xs, s, re, r, f⟩ => by
    obtain ⟨itm, q, k⟩ := fin_itm (al := Unit) f s
    unfold rngO2 at q
    split at q
    · split at q
      · rename_i i j hj
        cases q
        obtain ⟨v, w, h1, h2, h3⟩ := rep2 r
        exact ⟨i, j, by rw [h1, show v = .int i from h2, show w = .int j from h3], hj, k _ rJ_rng⟩
      · cases q
    · cases q
theorem mi_range3 {a b c : Expr} {ml : EMt (List MV)} {p : Pos} (hg : Gl X "range") (hm : X.mg "range" = none) (ha : PA X [a, b, c] (tA X.K W ml)) (hs : starEach [a, b, c] X.env = (false, eval a X.env) :: starEach [b, c] X.env := by rfl) (hpl : (backTo pos (starEach [b, c] X.env)).any (·.1) = false := by rfl) :
    PI X tg (.Call (.Name "range" p) [a, b, c] [] pos) (tI X.K W (itmM rngO3 ml)) :=
  PI.to (pi_range3 hg hm ha hs hpl) fun sg H R h => (tG_bind (rel := rL) h).imp fun vs H1 ⟨rho, en, S, xs, s, re, r, f⟩ => by
    obtain ⟨itm, q, k⟩ := fin_itm (al := Unit) f s
    unfold rngO3 at q
    split at q
    · split at q
      · rename_i i j c hj
        cases q
        obtain ⟨v, r1, h1, h2, h3⟩ := r
        obtain ⟨w, z, h4, h5, h6⟩ := rep2 h3
        obtain ⟨rfl, a1, a2, a3, a4⟩ := hj
        exact ⟨i, j, -1, (i - j).toNat, by rw [h1, h4, show v = .int i from h2, show w = .int j from h5, show z = .int (-1) from h6], RgC.neg a1 a2 a3 a4, k _ rJ_rngC⟩
      · cases q
    · cases q
/-- enumerate of a list -/
def prI (xs : List MV) : List MV := (List.range xs.length).zipWith (fun i x => .tup [.int (i : Nat), x]) xs
def enmO (S : Sto) : List MV → Option Itm
  | [.ref k] => match S.g k with
    | .lst xs => some ⟨prI xs, [(k, xs)]⟩
    | .con xs => some ⟨prI xs, [(k, xs)]⟩
    | _ => none
  | _ => none
def enmM (ml : EMt (List MV)) : EMt Itm := bindM ml fun xs => fun _ S => itmV (enmO S xs) S
theorem prI_get {xs : List MV} {i : Nat} {z : MV} (h : (prI xs)[i]? = some z) : ∃ x, xs[i]? = some x ∧ z = .tup [.int (i : Nat), x] := by
  unfold prI at h
  rw [List.getElem?_zipWith] at h
  cases q : (List.range xs.length)[i]? with
  | none => rw [q] at h; simp at h
  | some j =>
    obtain ⟨_, rfl⟩ := range_get q
    cases q2 : xs[j]? with
    | none => rw [q, q2] at h; simp at h
    | some x => rw [q, q2] at h; simp at h; exact ⟨x, rfl, h.symm⟩
theorem prI_len (xs : List MV) : (prI xs).length = xs.length := by unfold prI; rw [List.length_zipWith, List.length_range, Nat.min_self]
/-- a new pair -/
theorem pair_new {rho : Nat → Addr} {S : Sto} {H : Hp} (s : Sim K rho S H) {T : Addr} {x y : MV} {v w : V} (hT : H T = none) (rx : Rep K rho S.n H x v) (ry : Rep K rho S.n H y w) :
    Sim K rho S (upd H T (.tup [v, w])) ∧ Le K rho S H rho S (upd H T (.tup [v, w])) ∧ Rep K rho S.n (upd H T (.tup [v, w])) (.tup [x, y]) (.ref T) :=
  ⟨s.ofNew hT, Le.ofNew hT, T, [v, w], rfl, SqT.of upd_same, v, [w], rfl, rx.upd (isMut_none hT), RepL.one (ry.upd (isMut_none hT))⟩
theorem rJ_enum {rho : Nat → Addr} {n k : Nat} {H : Hp} {xs : List MV} (hk : k < n) : rJ K rho n H ⟨prI xs, [(k, xs)]⟩ (Ite K (rho k)) := by
  intro rho' S' H' hn hr ht s hc
  obtain ⟨vs, h', r'⟩ := ck_at hk hn hr s hc
  refine ⟨⟨vs, h', by rw [r'.len]; exact Nat.le_of_eq (prI_len xs).symm⟩, fun i z hz => ?_⟩
  obtain ⟨x, hx, rfl⟩ := prI_get hz
  obtain ⟨v, h1, h2⟩ := r'.get hx
  refine ⟨⟨vs, v, h', h1⟩, fun v2 H2 ⟨T, y, e1, e2, e3, e4⟩ => ?_⟩
  subst e1 e3
  exact pair_new s e2 rfl (sq_inj r' hx h' e4)
theorem mi_enum {a : Expr} {ml : EMt (List MV)} {p tpos : Pos} {elts : List Expr} {kk : Nat} (hg : Gl X "enumerate") (hm : X.mg "enumerate" = none) (ha : PA X [a] (tA X.K W ml)) (hs : starEach [a] X.env = [(false, eval a X.env)] := by rfl) :
    PI X (.Tuple elts kk tpos) (.Call (.Name "enumerate" p) [a] [] pos) (tI X.K W (enmM ml)) :=
  PI.to (pi_enum hg hm ha hs) fun sg H R h => (tG_bind (rel := rL) h).imp fun vs H1 ⟨rho, en, S, xs, s, re, r, f⟩ => by
    obtain ⟨itm, q, k⟩ := fin_itm (al := Unit) f s
    unfold enmO at q
    split at q
    · obtain ⟨v, h1, hk, h2⟩ := rep1 r
      split at q
      · rename_i ys qk
        cases q
        obtain ⟨ws, g1, g2⟩ := lst_at s hk qk
        exact ⟨_, ws, by rw [h1, h2], SqL.of g1, k _ (rJ_enum hk)⟩
      · rename_i ys qk
        cases q
        obtain ⟨ws, g1, g2⟩ := seqO_at s hk (xs := ys) (by rw [qk]; rfl)
        exact ⟨_, ws, by rw [h1, h2], g1, k _ (rJ_enum hk)⟩
      · cases q
    · cases q
/-- zip of two lists, of two tuples -/
def prZ (xs ys : List MV) : List MV := xs.zipWith (fun x y => .tup [x, y]) ys
def zipO (S : Sto) : List MV → Option Itm
  | [.tup xs, .tup ys] => some ⟨prZ xs ys, []⟩
  | [.ref k, .ref j] => match seqO (S.g k), seqO (S.g j) with
    | some xs, some ys => some ⟨prZ xs ys, [(k, xs), (j, ys)]⟩
    | _, _ => none
  | _ => none
def zipM (ml : EMt (List MV)) : EMt Itm := bindM ml fun xs => fun _ S => itmV (zipO S xs) S
theorem prZ_get {xs ys : List MV} {i : Nat} {z : MV} (h : (prZ xs ys)[i]? = some z) : ∃ x y, xs[i]? = some x ∧ ys[i]? = some y ∧ z = .tup [x, y] := by
  unfold prZ at h
  rw [List.getElem?_zipWith] at h
  cases q : xs[i]? with
  | none => rw [q] at h; simp at h
  | some j =>
    cases q2 : ys[i]? with
    | none => rw [q, q2] at h; simp at h
    | some x => rw [q, q2] at h; simp at h; exact ⟨j, x, rfl, rfl, h.symm⟩
theorem prZ_len (xs ys : List MV) : (prZ xs ys).length = min xs.length ys.length := by unfold prZ; rw [List.length_zipWith]
theorem rJ_zipT {rho : Nat → Addr} {n : Nat} {H : Hp} {a b : Addr} {vs ws : List V} {xs ys : List MV} (h : SqT K H a vs) (r : RepL K rho n H xs vs) (g : SqT K H b ws) (t : RepL K rho n H ys ws) : rJ K rho n H ⟨prZ xs ys, []⟩ (RZ.ItzT K a b) := by
  intro rho' S' H' hn hr ht s hc
  have h' := ht a vs h
  have r' := RepL.mono hn hr ht r
  have g' := ht b ws g
  have t' := RepL.mono hn hr ht t
  refine ⟨⟨vs, ws, h', g', by rw [r'.len, t'.len, prZ_len]; omega⟩, fun i z hz => ?_⟩
  obtain ⟨x, y, hx, hy, rfl⟩ := prZ_get hz
  obtain ⟨v, h1, h2⟩ := r'.get hx
  obtain ⟨w, h3, h4⟩ := t'.get hy
  refine ⟨⟨vs, ws, v, w, h', g', h1, h3⟩, fun v2 H2 ⟨T, v1, w1, e1, e2, e3, e4, e5⟩ => ?_⟩
  subst e1 e3
  have q1 := e4 vs h'
  have q2 := e5 ws g'
  rw [h1] at q1; cases q1
  rw [h3] at q2; cases q2
  exact pair_new s e2 h2 h4
theorem rJ_zipL {rho : Nat → Addr} {n k j : Nat} {H : Hp} {xs ys : List MV} (hk : k < n) (hj : j < n) : rJ K rho n H ⟨prZ xs ys, [(k, xs), (j, ys)]⟩ (Itz K (rho k) (rho j)) := by
  intro rho' S' H' hn hr ht s hc
  simp at hc
  obtain ⟨vs, h', r'⟩ := ck_at hk hn hr s (by simpa using hc.1)
  obtain ⟨ws, g', t'⟩ := ck_at hj hn hr s (by simpa using hc.2)
  refine ⟨⟨vs, ws, h', g', by rw [r'.len, t'.len, prZ_len]; omega⟩, fun i z hz => ?_⟩
  obtain ⟨x, y, hx, hy, rfl⟩ := prZ_get hz
  obtain ⟨v, h1, h2⟩ := r'.get hx
  obtain ⟨w, h3, h4⟩ := t'.get hy
  refine ⟨⟨vs, ws, v, w, h', g', h1, h3⟩, fun v2 H2 ⟨T, v1, w1, e1, e2, e3, e4, e5⟩ => ?_⟩
  subst e1 e3
  exact pair_new s e2 (sq_inj r' hx h' e4) (sq_inj t' hy g' e5)
theorem mi_zip {a b : Expr} {ml : EMt (List MV)} {p tpos : Pos} {elts : List Expr} {kk : Nat} (hg : Gl X "zip") (hm : X.mg "zip" = none) (ha : PA X [a, b] (tA X.K W ml))
    (hs : starEach [a, b] X.env = (false, eval a X.env) :: starEach [b] X.env := by rfl) (hpl : (backTo pos (starEach [b] X.env)).any (·.1) = false := by rfl) :
    PI X (.Tuple elts kk tpos) (.Call (.Name "zip" p) [a, b] [] pos) (tI X.K W (zipM ml)) :=
  PI.to (RZ.pi_zipA hg hm ha hs hpl) fun sg H R h => (tG_bind (rel := rL) h).imp fun vs H1 ⟨rho, en, S, xs, s, re, r, f⟩ => by
    obtain ⟨itm, q, k⟩ := fin_itm (al := Unit) f s
    unfold zipO at q
    split at q
    · cases q
      obtain ⟨v, w, h1, ⟨a, us, h2, h3, h4⟩, b, us2, h5, h6, h7⟩ := rep2 r
      exact ⟨a, b, us, us2, by rw [h1, h2, h5], .inr ⟨h3, h6, k _ (rJ_zipT h3 h4 h6 h7)⟩⟩
    · obtain ⟨v, w, h1, ⟨hk, h2⟩, hj, h3⟩ := rep2 r
      split at q
      · rename_i ys zs q1 q2
        cases q
        obtain ⟨us, g1, g2⟩ := seqO_at s hk q1
        obtain ⟨us2, g3, g4⟩ := seqO_at s hj q2
        exact ⟨_, _, us, us2, by rw [h1, h2, h3], .inl ⟨g1, g3, k _ (rJ_zipL hk hj)⟩⟩
      · cases q
    · cases q
/-- reversed -/
def revO (S : Sto) : MV → Option Itm
  | .tup xs => some ⟨xs.reverse, []⟩
  | .ref k => match seqO (S.g k) with
    | some xs => some ⟨xs.reverse, [(k, xs)]⟩
    | none => none
  | _ => none
def revM (m : EM) : EMt Itm := bindM m fun x => fun _ S => itmV (revO S x) S
theorem rev_get {al : Type} {xs : List al} {i : Nat} {x : al} (h : xs.reverse[i]? = some x) : i < xs.length ∧ xs[xs.length - 1 - i]? = some x := by
  have hl : i < xs.length := by have := (List.getElem?_eq_some_iff.mp h).1; simpa using this
  rw [List.getElem?_reverse hl] at h
  exact ⟨hl, h⟩
theorem mi_rev {a : Expr} {p : Pos} (hg : Gl X "reversed") (hm : X.mg "reversed" = none) (ha : PE X a (tM X.K W m)) (hs : starEach [a] X.env = (false, eval a X.env) :: starEach [] X.env := by rfl) : PI X tg (.Call (.Name "reversed" p) [a] [] pos) (tI X.K W (revM m)) :=
  PI.to (RT.pi_revA hg hm ha hs) fun sg H R h => (tG_bind (rel := rV) h).imp fun v H1 ⟨rho, en, S, x, s, re, r, f⟩ => by
    obtain ⟨itm, q, k⟩ := fin_itm (al := Unit) f s
    unfold revO at q
    split at q
    · rename_i xs
      cases q
      obtain ⟨a, vs, h1, h2, h3⟩ := r
      refine ⟨a, vs, h1, .inr ⟨h2, k _ ?_⟩⟩
      intro rho' S' H' hn hr ht s' hc
      have h' := ht a vs h2
      have r' := RepL.mono hn hr ht h3
      refine ⟨?_, fun i z hz => ?_⟩
      · show (vs.length ≤ xs.reverse.length)
        rw [h3.len, List.length_reverse]
        exact Nat.le_refl _
      · obtain ⟨hl, hz'⟩ := rev_get hz
        obtain ⟨w, g1, g2⟩ := r'.get hz'
        rw [← h3.len] at g1
        refine ⟨⟨by rw [h3.len]; exact hl, vs, w, h', g1⟩, fun v2 H2 ⟨e1, e2⟩ => ?_⟩
        subst e1
        have := e2 vs h'
        rw [g1] at this; cases this
        exact ⟨s', Le.refl, g2⟩
    · rename_i kk
      obtain ⟨hk, h1⟩ := r
      split at q
      · rename_i xs qk
        cases q
        obtain ⟨vs, g1, g2⟩ := seqO_at s hk qk
        refine ⟨_, vs, h1, .inl ⟨g1, k _ ?_⟩⟩
        intro rho' S' H' hn hr ht s' hc
        obtain ⟨ws, h', r'⟩ := ck_at hk hn hr s' hc
        refine ⟨?_, fun i z hz => ?_⟩
        · show (vs.length ≤ xs.reverse.length)
          rw [g2.len, List.length_reverse]
          exact Nat.le_refl _
        · obtain ⟨hl, hz'⟩ := rev_get hz
          obtain ⟨w, g3, g4⟩ := r'.get hz'
          rw [← g2.len] at g3
          refine ⟨⟨by rw [g2.len]; exact hl, ws, w, h', g3⟩, fun v2 H2 ⟨e1, e2⟩ => ?_⟩
          subst e1
          have := e2 ws h'
          rw [g3] at this; cases this
          exact ⟨s', Le.refl, g4⟩
      · cases q
    · cases q

/-! ### while -/
def whileF (t : EMt Bool) (b : SM) : Nat → SM
  | 0 => fun _ _ => .bad
  | n + 1 => fun e S => match t e S with
    | .ok true S' => (match b e S' with
      | .nx e' S2 => whileF t b n e' S2
      | .ct e' S2 => whileF t b n e' S2
      | .brk e' S2 => .nx e' S2
      | .ret y S2 => .ret y S2
      | .exc ex e' S2 => .exc ex e' S2
      | .bad => .bad)
    | .ok false S' => .nx e S'
    | .exc ex S' => .exc ex e S'
    | .bad => .bad
open Classical in
noncomputable def whileM (t : EMt Bool) (b : SM) : SM := fun e S => if h : ∃ n, whileF t b n e S ≠ .bad then whileF t b (choose h) e S else .bad
theorem whileF_more {t : EMt Bool} {b : SM} : ∀ (n k : Nat) (e : Sl) (S : Sto), whileF t b n e S ≠ .bad → whileF t b (n + k) e S = whileF t b n e S
  | 0, _, _, _, h => absurd rfl h
  | n + 1, k, e, S, h => by
    have e1 : n + 1 + k = (n + k) + 1 := by omega
    rw [e1]
    simp only [whileF] at h ⊢
    cases q : t e S with
    | bad => rfl
    | exc ex S' => rfl
    | ok c S' =>
      rw [q] at h
      cases c with
      | false => rfl
      | true =>
        simp only at h ⊢
        cases q2 : b e S' with
        | nx e' S2 => rw [q2] at h; exact whileF_more n k e' S2 h
        | ct e' S2 => rw [q2] at h; exact whileF_more n k e' S2 h
        | brk e' S2 => rfl
        | ret y S2 => rfl
        | exc ex e' S2 => rfl
        | bad => rfl
theorem whileM_eq {t : EMt Bool} {b : SM} {n : Nat} {e : Sl} {S : Sto} (h : whileF t b n e S ≠ .bad) : whileM t b e S = whileF t b n e S := by
  have hx : ∃ n, whileF t b n e S ≠ .bad := ⟨n, h⟩
  unfold whileM
  rw [dif_pos hx]
  have h2 := Classical.choose_spec hx
  have a1 := whileF_more n (Classical.choose hx) e S h
  have a2 := whileF_more (Classical.choose hx) n e S h2
  rw [Nat.add_comm] at a2
  rw [← a2, a1]
theorem ms_while {c : Expr} {body : List Stmt} {t : EMt Bool} {b : SM} (hp : PassesOwn (model X.prog X.w) X.A X.env X.xe) (hc : PT X c (tB X.K W t)) (hb : PSs X body (tS X.K W b)) : PS X (.While c body [] pos) (tS X.K W (whileM t b)) :=
  PS.to (ps_while hp hc hb) fun D sg H ⟨rho, e, S, s, re, f⟩ => by
    have hn : ∃ n, whileM t b e S = whileF t b n e S := by
      by_cases h : ∃ n, whileF t b n e S ≠ .bad
      · obtain ⟨n, h⟩ := h
        exact ⟨n, whileM_eq h⟩
      · exact ⟨0, by unfold whileM; rw [dif_neg h]; rfl⟩
    obtain ⟨n, hn⟩ := hn
    rw [hn] at f
    refine ⟨fun m sg H => ∃ rho e S, Sim X.K rho S H ∧ RepE X.K rho S.n H sg e ∧ FinS X.K rho S H D W (whileF t b m e S), ⟨n, rho, e, S, s, re, f⟩, ?_⟩
    rintro m sg H ⟨rho, e, S, s, re, f⟩
    cases m with
    | zero => exact f.elim
    | succ m =>
      refine ⟨rho, e, S, s, re, ?_⟩
      simp only [whileF] at f
      cases q : t e S with
      | bad => rw [q] at f; exact f.elim
      | exc ex S' => rw [q] at f; exact fun rho' H' d s' l' r' => f rho' H' sg d s' l' (re.le l') r'
      | ok k S' =>
        rw [q] at f
        intro rho' H' k' s' l' rk
        have rk' : k = k' := rk
        subst rk'
        cases k with
        | false => rw [if_neg (by decide)]; exact f rho' H' sg s' l' (re.le l')
        | true =>
          rw [if_pos rfl]
          refine ⟨fun sg H => ∃ rho e S, Sim X.K rho S H ∧ RepE X.K rho S.n H sg e ∧ FinS X.K rho S H D W (whileF t b m e S), fun sg' H' h => ⟨m, Nat.lt_succ_self _, h⟩, rho', e, S', s', re.le l', ?_⟩
          have f' := f.step l'
          simp only at f'
          cases q2 : b e S' with
          | nx e' S2 => rw [q2] at f'; exact fun rho2 H2 sg2 s2 l2 re2 => ⟨rho2, e', S2, s2, re2, f'.step l2⟩
          | ct e' S2 => rw [q2] at f'; exact fun rho2 H2 sg2 s2 l2 re2 => ⟨rho2, e', S2, s2, re2, f'.step l2⟩
          | brk e' S2 => rw [q2] at f'; exact f'
          | ret y S2 => rw [q2] at f'; exact f'
          | exc ex e' S2 => rw [q2] at f'; exact f'
          | bad => rw [q2] at f'; exact f'
end

/-! ### defs -/
/-- a def of np parameters and N slots, by its body -/
def defM (np N : Nat) (body : SM) (xs : List MV) (S : Sto) : Res MV := if xs.length = np then (match body (xs.map some ++ List.replicate (N - np) none) S with
  | .nx _ S' => .ok .non S'
  | .ret x S' => .ok x S'
  | .exc ex _ S' => .exc ex S'
  | _ => .bad) else .bad
/-- THE PROMISE of an M-function -/
def spM (K : PySem.W.Frag) (m : List MV → Sto → Res MV) : Sp := fun vs H Q E => ∃ rho xs S, Sim K rho S H ∧ RepL K rho S.n H xs vs ∧ Fin K rV rho S H Q E (m xs S)
abbrev WE' (E : XK) : WX := fun c d _ H => E c d H
section
variable {P : Program} {w : World} {K : PySem.W.Frag} {mg : Str → Option Value} {base : Heap}
theorem repE_start {K : PySem.W.Frag} {rho : Nat → Addr} {n : Nat} {H : Hp} {xs : List MV} {vs : List V} (r : RepL K rho n H xs vs) (N : Nat) : RepE K rho n H (vs.map some ++ List.replicate (N - vs.length) none) (xs.map some ++ List.replicate (N - xs.length) none) := by
  refine ⟨by simp [r.len], fun i x h => ?_⟩
  by_cases hi : i < xs.length
  · rw [List.getElem?_append_left (by simpa using hi)] at h
    have hx : xs[i]? = some x := by
      rw [List.getElem?_map] at h
      cases q : xs[i]? with
      | none => rw [q] at h; cases h
      | some y => rw [q] at h; simp at h; rw [h]
    obtain ⟨v, h1, h2⟩ := r.get hx
    exact ⟨v, by rw [List.getElem?_append_left (by rw [List.length_map, r.len]; exact hi), List.getElem?_map, h1]; rfl, h2⟩
  · rw [List.getElem?_append_right (by simpa using hi)] at h
    simp only [List.getElem?_replicate] at h
    split at h <;> cases h
theorem okM {x qual : Str} {st : Stmt} {f : Addr} {fd : FuncData} {N ps : List Str} {k : Nat} {body : SM} (F : Fun K x qual st f fd) (S : FnScope N ps (defScope st))
    (hbody : ∀ (cdv : Value) (A : Around) (outer : List PySem.Env) (s : Shared) (H : Hp) (E : XK), Room k (A.deeper (envOfC qual (defScope st) s.heap.objs.size f cdv)) →
      Takes (cxOf (L2.CX P w) P w K mg base N qual (defScope st) f cdv A outer s H E) (WE' E) → PassesOwn (model P w) (cxOf (L2.CX P w) P w K mg base N qual (defScope st) f cdv A outer s H E).A (cxOf (L2.CX P w) P w K mg base N qual (defScope st) f cdv A outer s H E).env (cxOf (L2.CX P w) P w K mg base N qual (defScope st) f cdv A outer s H E).xe →
      PSs (cxOf (L2.CX P w) P w K mg base N qual (defScope st) f cdv A outer s H E) (defBody st) (tS K (WE' E) body)) : FnOk P w K mg base (L2.CX P w) (k + 1) f fd ps (spM K (defM ps.length N.length body)) := by
  have key : ∀ {vs : List V} {H : Hp} {Q : VK} {E : XK}, spM K (defM ps.length N.length body) vs H Q E → ∃ rho xs S, Sim K rho S H ∧ RepL K rho S.n H xs vs ∧ xs.length = ps.length ∧ Fin K rV rho S H Q E (defM ps.length N.length body xs S) := by
    intro vs H Q E ⟨rho, xs, S, s, r, f⟩
    refine ⟨rho, xs, S, s, r, ?_, f⟩
    unfold defM at f
    split at f
    · assumption
    · exact f.elim
  refine F.okX S (fun vs H Q E h => ?_) (fun cdv A outer s H vs Q E hr h => ?_)
  · obtain ⟨rho, xs, S, s, r, hl, f⟩ := key h
    rw [r.len, hl]
  · obtain ⟨rho, xs, S', s', r, hl, f⟩ := key h
    refine ⟨_, hbody cdv A outer s H E hr (takes_of rfl rfl rfl rfl) (passes_of rfl), rho, xs.map some ++ List.replicate (N.length - ps.length) none, S', s', ?_, ?_⟩
    · have := repE_start (H := H) r N.length
      rw [hl] at this
      exact this
    · unfold defM at f
      rw [if_pos hl] at f
      cases q : body (xs.map some ++ List.replicate (N.length - ps.length) none) S' with
      | nx e' S2 => rw [q] at f; exact fun rho' H' sg' s2 l2 re2 => f rho' H' .non s2 l2 rfl
      | ret y S2 => rw [q] at f; exact f
      | brk e' S2 => rw [q] at f; exact f.elim
      | ct e' S2 => rw [q] at f; exact f.elim
      | exc ex e' S2 => rw [q] at f; exact fun rho' H' sg' d s2 l2 re2 r2 => f rho' H' d s2 l2 r2
      | bad => rw [q] at f; exact f.elim
/-- the call of a def -/
theorem mp_call {X : Cx} {W : WX} {k : Nat} {f : Addr} {fd : FuncData} {ps : List Str} {m : List MV → Sto → Res MV} {x : Str} {p pos : Pos} {e : Expr} {es : List Expr} {ml : EMt (List MV)} (F : FnOk X.prog X.w X.K X.mg X.base (L2.CX X.prog X.w) k f fd ps (spM X.K m)) (hr : Room k X.A) (hm : X.mg x = some (.ref f)) (hk : PySem.W.keepIn X.K (.ref f) = true) (hb : Binds X.K fd ps []) (tk : Takes X W)
    (ha : PA X (e :: es) (tA X.K W ml)) (hg : Gl X x := by rfl) (hdb : (x == ("__debug__" : Str)) = false := by decide) (he : starEach (e :: es) X.env = (false, eval e X.env) :: starEach es X.env := by rfl) (hpl : (backTo pos (starEach es X.env)).any (·.1) = false := by rfl) :
    PE X (.Call (.Name x p) (e :: es) [] pos) (tM X.K W (opL m ml)) :=
  PE.to (pe_callSD F hr hg hm hk hb .nil (fun sg => passAt tk sg) ha hdb he hpl) fun sg H Q h => (tG_bind (rel := rL) h).imp fun vs H1 ⟨rho, en, S, xs, s, re, r, fn⟩ => ⟨rho, xs, S, s, by rw [List.append_nil]; exact r, fn⟩
end
end Mm
end

section
/-! ## M, part 8: name = [..], calls by record, the law's end -/
namespace Mm
open PySem L2 PyProof.Rows
section
variable {X : Cx} {W : WX} {tg iter : Expr}
theorem ms_setLc {i : Nat} {y : Str} {py : Pos} {elt : Expr} {ifs : List Expr} {scope : Scope} {own : List (Str × Nat)} {pos spos : Pos} {mi : EMt Itm} {p : Pt} {tt : EMt Bool} {te : EM} (hc : X.calm = true) (hN : X.N.Nodup)
    (hi : PI X tg iter (tI X.K W mi)) (ok : BlkOk X.N X.env.scope scope own) (hp : ∀ j ∈ p.ns, j ∈ own.map (·.2))
    (hg : ∀ (s : Shared) (H : Hp) (C : Addr) (cl : List (Str × Addr)) (fp : List Addr), PG (X.blk s H scope (compEnvC scope cl C X.env) fp) tg (tT X.K p))
    (ht : ∀ (s : Shared) (H : Hp) (C : Addr) (cl : List (Str × Addr)) (fp : List Addr), PTs (X.blk s H scope (compEnvC scope cl C X.env) fp) ifs (tB X.K (fun _ _ _ _ => False) tt))
    (he : ∀ (s : Shared) (H : Hp) (C : Addr) (cl : List (Str × Addr)) (fp : List Addr), PE (X.blk s H scope (compEnvC scope cl C X.env) fp) elt (tM X.K (fun _ _ _ _ => False) te))
    (hsw : swapsWith (.ListComp elt [⟨tg, iter, ifs, 0⟩] scope pos) (some (.Name y py)) spos.line X.env = pure true) (hy : X.N[i]? = some y := by rfl) (hyl : X.env.scope.names.lookup y = some .local := by rfl)
    (hs : ∀ x, foldedSetIterable iter X.env x = pure x := by intro _; rfl) :
    PS X (.Assign [.Name y py] (.ListComp elt [⟨tg, iter, ifs, 0⟩] scope pos) spos) (tS X.K W (asgM (.nm i) (lcM mi p tt te (own.map (·.2))))) :=
  PS.to (ps_setLc hc hN hy hyl hsw hi ok hg ht he hs) fun D sg H h => by
    have h1 := tS_use (rel := rV) h
    -- the list comprehension, then the store
    have h2 : tG X.K rJ W mi sg H fun J H1 => ∃ rho e S itm, Sim X.K rho S H1 ∧ RepE X.K rho S.n H1 sg e ∧ rJ X.K rho S.n H1 itm J ∧ Fin X.K rV rho S H1 (fun v H1 => D.nx (sg.set i (some v)) H1) (fun c d H' => W c d sg H') (match lcLoop itm.ck p tt te (wipeE e (own.map (·.2))) itm.xs [] S with
        | .ok acc S' => .ok (.ref S'.n) (S'.add (.lst acc))
        | _ => .bad) := by
      refine tG_bind (rel := rJ) (h1.imp fun v H1 ⟨rho, e, S, x, s, re, r, f⟩ => ?_)
      exact f rho H1 _ s Le.refl (re.set r)
    exact h2.imp fun J H1 ⟨rho, e, S, itm, s, re, r, f⟩ => lc_ok hp s re r f
/-- a test of a comprehension -/
theorem mts_nil {X : Cx} {W : WX} : PTs X [] (tB X.K W yesM) := ⟨fun pins s sg H Q I h => pts_nil.run pins s sg H Q I (by
  obtain ⟨rho, e, S, s, re, f⟩ := h
  exact f rho H true s Le.refl rfl)⟩
theorem mts_one {X : Cx} {W : WX} {c : Expr} {t : EMt Bool} (h : PT X c (tB X.K W t)) : PTs X [c] (tB X.K W t) := pts_one h
end
/-- a def that may be called by its name -/
structure Cal (P : Program) (w : World) (K : PySem.W.Frag) (mg : Str → Option Value) (base : Heap) (k : Nat) (x : Str) (m : List MV → Sto → Res MV) : Prop where
  ex : ∃ (f : Addr) (fd : FuncData) (ps : List Str), FnOk P w K mg base (L2.CX P w) k f fd ps (spM K m) ∧ mg x = some (.ref f) ∧ PySem.W.keepIn K (.ref f) = true ∧ Binds K fd ps []
theorem mc {X : Cx} {W : WX} {k j : Nat} {m : List MV → Sto → Res MV} {x : Str} {p pos : Pos} {e : Expr} {es : List Expr} {ml : EMt (List MV)} (C : Cal X.prog X.w X.K X.mg X.base k x m) (tk : Takes X W) (hr : Room j X.A)
    (ha : PA X (e :: es) (tA X.K W ml)) (hkj : k ≤ j := by decide) (hg : Gl X x := by rfl) (hdb : (x == ("__debug__" : Str)) = false := by decide) (he : starEach (e :: es) X.env = (false, eval e X.env) :: starEach es X.env := by rfl) (hpl : (backTo pos (starEach es X.env)).any (·.1) = false := by rfl) :
    PE X (.Call (.Name x p) (e :: es) [] pos) (tM X.K W (opL m ml)) := by
  obtain ⟨f, fd, ps, F, h1, h2, h3⟩ := C.ex
  exact mp_call F (hr.mono hkj) h1 h2 h3 tk ha hg hdb he hpl
/-- one def's facts behind the top -/
structure DefAt (K : PySem.W.Frag) (mg : Str → Option Value) (x : Str) (st : Stmt) (f : Addr) (fd : FuncData) (ps : List Str) : Prop where
  fn : Fun K x x st f fd
  mgf : mg x = some (.ref f)
  kp : PySem.W.keepIn K (.ref f) = true
  bd : Binds K fd ps []
theorem DefAt.cal {P : Program} {w : World} {K : PySem.W.Frag} {mg : Str → Option Value} {base : Heap} {k : Nat} {x : Str} {st : Stmt} {f : Addr} {fd : FuncData} {ps : List Str} {m : List MV → Sto → Res MV} (D : DefAt K mg x st f fd ps) (h : FnOk P w K mg base (L2.CX P w) k f fd ps (spM K m)) : Cal P w K mg base k x m :=
  ⟨f, fd, ps, h, D.mgf, D.kp, D.bd⟩
/-- the script -/
def S0 (ns : List Int) : Sto := ⟨1, fun _ => .con (ns.map .int)⟩
theorem repL_ints {K : PySem.W.Frag} {rho : Nat → Addr} {n : Nat} {H : Hp} : ∀ ns : List Int, RepL K rho n H (ns.map .int) (ns.map V.int)
  | [] => rfl
  | i :: ns => ⟨_, _, rfl, rfl, repL_ints ns⟩
/-- the law: at every script it comes back with True -/
def LawOk (m : List MV → Sto → Res MV) : Prop := ∀ ns : List Int, ns.length ≤ 63 → (∀ z ∈ ns, Builtin.Int.intBits z ≤ 1048576) → ∃ S', m [.ref 0] (S0 ns) = .ok (.bl true) S'
theorem law_sp {K : PySem.W.Frag} {m : List MV → Sto → Res MV} (L : LawOk m) {H : Hp} {a : Addr} {ns : List Int} (hl : ns.length ≤ 63) (hb : ∀ z ∈ ns, Builtin.Int.intBits z ≤ 1048576) (ho : Only H) (h : SqL K H a (ns.map V.int)) :
    spM K m [.ref a] H (fun v _ => v = .bl true) (fun _ _ _ => False) := by
  obtain ⟨S', e⟩ := L ns hl hb
  refine ⟨fun _ => a, [.ref 0], S0 ns, ⟨fun i j hi hj mi => (by cases mi), fun i hi => ?_⟩, ⟨_, _, rfl, ⟨Nat.lt_succ_self 0, rfl⟩, rfl⟩, ?_⟩
  · refine ⟨ns.map V.int, ?_, repL_ints ns⟩
    rcases h with (h | ⟨o, h⟩) | h
    · rcases ho a with q | ⟨o, xs, q⟩
      · rw [q] at h; cases h
      · rw [q] at h; cases h
    · exact .inl ⟨o, h⟩
    · exact .inr h
  · rw [e]
    exact fun rho' H' v s l r => r
/-- the walk of a law row whose law keeps its promise -/
theorem walkM {l : PySem.W.OpenLaw} {k : Nat} {q : Program} {loose : List Str} {XP : (Str → Option Value) → Heap → Prop} {YP : World → Heap → Prop} {d : DefRec} {K : Params → PySem.W.Frag} {m : List MV → Sto → Res MV} (hn : l.most = some 63) (hdf : d.params.defaults = []) (hr : Room k callerA)
    (hY : ∀ (w : World) (h : Heap), YP w h → (K w.params).In h) (L : LawOk m)
    (F : ∀ (w : World) (mg : Str → Option Value) (fa : Addr) (h : Heap), (K w.params).In h → h.Ns mainGlobals mg → mg d.name = some (.ref fa) →
      ∃ fd : FuncData, (∀ (s : Shared) (u : Value), BindsTo s fd ⟨[u], []⟩ [("script", u)]) ∧ ∀ base : Heap, (K w.params).In base → base.Ns mainGlobals mg → FnOk l.prog w (K w.params) mg base (L2.CX l.prog w) k fa fd ["script"] (spM (K w.params) m)) :
    PySem.W.WalkO q loose XP YP l.row.toRowW d [] (fun f vs => PySem.call f vs) :=
  L2.walk_ofB (n := 63) (k := k) (x := "script") (CX := fun w => L2.CX l.prog w) (sp := fun w => spM (K w.params) m) hn (by decide) hdf hr hY F (fun w H a ns hl hb ho hS => law_sp L hl hb ho hS) fun w H s e s' z => by
    obtain ⟨_, _, _, _, _, _, _, _, _, _, _, _, z⟩ := z
    exact z
end Mm
end

section
/-! ## M, part 9: isinstance, chains, tuple keys -/
namespace Mm
open PySem L2 PyProof.Rows
section
variable {X : Cx} {W : WX} {K : PySem.W.Frag} {a b c e : Expr} {pos : Pos} {ma mb mc m : EM}
/-- a built-in class as a value -/
theorem mp_ty {x : Str} {t : String} (hg : Gl X x) (hm : X.mg x = none) (hv : bootBuiltins x = some (.type t)) (hn : x ≠ "__name__" := by decide) (hd : (x == ("__debug__" : Str)) = false := by decide) : PE X (.Name x pos) (tM X.K W (conM (.ty t))) :=
  PE.to (pe_bltn hg hm hv (show RelV (.ty t) (.type t) from rfl) hn hd) fun _ _ _ => tM_con fun _ _ _ => rfl
def tyN (x : MV) (S : Sto) : Option String := match x with
  | .non => some "NoneType"
  | .bl _ => some "bool"
  | .int _ => some "int"
  | .str _ => some "str"
  | .tup _ => some "tuple"
  | .ref k => match S.g k with
    | .lst _ => some "list"
    | .con _ => some "list"
    | .dK _ => some "dict"
    | .dT _ => some "dict"
    | _ => none
  | _ => none
theorem tyN_ok {rho : Nat → Addr} {S : Sto} {H : Hp} {x : MV} {v : V} {t : String} (s : Sim K rho S H) (r : Rep K rho S.n H x v) (e : tyN x S = some t) : TyX K H v (.type t) := by
  unfold tyN at e
  split at e
  · cases e; rw [show v = .non from r]; exact .base .non
  · cases e; rw [show v = .bl _ from r]; exact .base (.bl _)
  · cases e; rw [show v = .int _ from r]; exact .base (.int _)
  · cases e; rw [show v = .str _ from r]; exact .base (.str _)
  · cases e
    obtain ⟨a, vs, h1, h2, h3⟩ := r
    rw [h1]
    rcases h2 with (h2 | ⟨o, h2⟩) | ⟨o, its, m, h2, h4, _⟩
    · exact .base (.tup h2)
    · exact .fTuple h2
    · exact .kTuple h2 h4
  · rename_i k
    obtain ⟨hk, h1⟩ := r
    rw [h1]
    split at e
    · rename_i xs q; cases e
      obtain ⟨vs, g1, _⟩ := lst_at s hk q
      exact .base (.lst g1)
    · rename_i xs q; cases e
      have ho := s.obj k hk
      rw [q] at ho
      obtain ⟨vs, g1, _⟩ := ho
      rcases g1 with ⟨o, g1⟩ | ⟨o, its, m, g1, g2, _⟩
      · exact .base (.frz g1)
      · exact .kList g1 g2
    · rename_i xs q; cases e
      obtain ⟨vs, g1, _⟩ := dK_at s hk q
      exact .base (.dK g1)
    · rename_i xs q; cases e
      obtain ⟨vs, g1, _⟩ := dT_at s hk q
      exact .base (.dT g1)
    · cases e
  · cases e
def isiV : List MV → Sto → Res MV
  | [x, .ty t], S => match tyN x S with
    | some n => (match kitB n t with
      | some b => .ok (.bl b) S
      | none => .bad)
    | none => .bad
  | _, _ => .bad
theorem isiV_ok : SndL K (rIsi K) isiV := by
  intro rho S H xs vs Q E s rx f
  unfold isiV at f
  split at f
  · rename_i x t
    obtain ⟨v, w, h1, h2, h3⟩ := rep2 rx
    split at f
    · rename_i n hn
      split at f
      · rename_i k hk
        exact ⟨v, w, _, _, k, h1, by rw [show w = .ty t from h3]; exact .ty t, tyN_ok s h2 hn, kit_ty hk, f.val s rfl⟩
      · exact f.elim
    · exact f.elim
  · exact f.elim

/-! ### chains -/
theorem tM_chain {r r' : R2} {g g' : MV → MV → Sto → Res MV} (hs : Snd2 K r g) (hs' : Snd2 K r' g') (hn : ∀ x y S ex S', g x y S ≠ .exc ex S') {sg : L2.St} {H : Hp} {Q : VK} (h : tM K W (chM g g' ma mb mc) sg H Q) : tChain r r' (tM K W ma) (tM K W mb) (tM K W mc) sg H Q := by
  refine (tG_bind (rel := rV) h).imp fun vx H1 ⟨rho, e, S, x, s, re, rx, f⟩ => ?_
  refine ⟨rho, e, S, s, re, ?_⟩
  unfold bindM at f
  cases q : mb e S with
  | exc ex S' => rw [q] at f; exact f
  | bad => rw [q] at f; exact f
  | ok y S1 =>
    rw [q] at f
    intro rho1 H2 vy s1 l1 ry
    have f1 := f.step l1
    simp only at f1
    refine hs rho1 S1 H2 x y _ _ _ (fun _ _ _ => True) s1 (rx.le l1) ry ?_
    cases q2 : g x y S1 with
    | exc ex S' => exact absurd q2 (hn _ _ _ _ _)
    | bad => rw [q2] at f1; exact f1
    | ok z S2 =>
      rw [q2] at f1
      intro rho2 H3 vz s2 l2 rz
      have f2 := f1.step l2
      simp only at f2
      cases z with
      | bl k =>
        refine ⟨k, rz, ?_⟩
        cases k with
        | false => rw [if_neg (by decide)]; exact f2 rho2 H3 _ s2 Le.refl rfl
        | true =>
          rw [if_pos rfl]
          refine ⟨rho2, e, S2, s2, (re.le l1).le l2, ?_⟩
          simp only [blV, if_pos] at f2
          cases q3 : mc e S2 with
          | exc ex S' => simp only [bindM, q3] at f2; exact f2
          | bad => simp only [bindM, q3] at f2; exact f2
          | ok w S3 =>
            simp only [bindM, q3] at f2
            exact fun rho3 H4 vw s3 l3 rw' => hs' rho3 S3 H4 y w _ _ _ _ s3 ((ry.le l2).le l3) rw' (f2.step l3)
      | _ => exact f2.elim
theorem mp_chain {op op' : CmpOp} {r r' : R2} {g g' : MV → MV → Sto → Res MV} (ho : OpR X (compareOp op) r) (hs : Snd2 X.K r g) (ho' : OpR X (compareOp op') r') (hs' : Snd2 X.K r' g') (ha : PE X a (tM X.K W ma)) (hb : PE X b (tM X.K W mb)) (hc : PE X c (tM X.K W mc))
    (hn : ∀ x y S ex S', g x y S ≠ .exc ex S') (hm : lastMarks [op, op'] [b, c] = false := by with_unfolding_all rfl) : PE X (.Compare a [op, op'] [b, c] pos) (tM X.K W (chM g g' ma mb mc)) :=
  PE.to (pe_chain ho ho' ha hb hc hm) fun _ _ _ => tM_chain hs hs' hn
theorem mt_chain {op op' : CmpOp} {r r' : R2} {g g' : MV → MV → Sto → Res MV} (ho : OpR X (compareOp op) r) (hs : Snd2 X.K r g) (ho' : OpR X (compareOp op') r') (hs' : Snd2 X.K r' g') (ha : PE X a (tM X.K W ma)) (hb : PE X b (tM X.K W mb)) (hc : PE X c (tM X.K W mc))
    (hn : ∀ x y S ex S', g x y S ≠ .exc ex S') (hm : lastMarks [op, op'] [b, c] = false := by with_unfolding_all rfl) : PT X (.Compare a [op, op'] [b, c] pos) (tB X.K W (blM (chM g g' ma mb mc))) :=
  PT.to (pt_chain ho ho' ha hb hc hm) fun sg H Q h => tM_chain hs hs' hn ((tG_bind (rel := rV) h).imp fun _ _ ⟨_, _, _, _, s, _, rx, f⟩ => blV_ok s rx f)
theorem leV_nx (x y S ex S') : leV x y S ≠ .exc ex S' := by unfold leV; split <;> simp
theorem ltV_nx (x y S ex S') : ltV x y S ≠ .exc ex S' := by unfold ltV; split <;> simp
theorem geV_nx (x y S ex S') : geV x y S ≠ .exc ex S' := by unfold geV; split <;> simp
theorem gtV_nx (x y S ex S') : gtV x y S ≠ .exc ex S' := by unfold gtV; split <;> simp
theorem eqV_nx (x y S ex S') : eqV x y S ≠ .exc ex S' := by unfold eqV; split <;> (try split) <;> simp

/-! ### in place: numbers, texts -/
def iaddV : MV → MV → Sto → Res MV
  | .int i, .int j, S => .ok (.int (i + j)) S
  | .str i, .str j, S => if i.length + j.length ≤ sizeLine then .ok (.str (i ++ j)) S else .bad
  | _, _, _ => .bad
def rIaddV : R2 := fun x y H Q => (rI0 fun i j => .int (i + j)) x y H Q ∨ (∃ i j, x = .str i ∧ y = .str j ∧ i.length + j.length ≤ sizeLine ∧ Q (.str (i ++ j)) H)
theorem iop_addV : OpR X (inplaceOp .Add) rIaddV := OpR.or iop_add iop_add_str
theorem iaddV_ok : Snd2 K rIaddV iaddV := by
  intro rho S H x y vx vy Q E s rx ry f
  unfold iaddV at f
  split at f
  · exact .inl ⟨_, _, rx, ry, f.val s rfl⟩
  · split at f
    · rename_i h; exact .inr ⟨_, _, rx, ry, h, f.val s rfl⟩
    · exact f.elim
  · exact f.elim

/-! ### dicts with tuple keys, the key a display -/
def toKs : List MV → Option (List Key)
  | [] => some []
  | x :: xs => match toK x, toKs xs with
    | some k, some ks => some (k :: ks)
    | _, _ => none
theorem toKs_rep {rho : Nat → Addr} {n : Nat} {H : Hp} : ∀ {xs : List MV} {vs : List V} {ks : List Key}, RepL K rho n H xs vs → toKs xs = some ks → vs = ks.map kV
  | [], vs, ks, r, e => by cases e; exact r
  | x :: xs, vs, ks, r, e => by
    obtain ⟨w, r', h1, h2, h3⟩ := r
    subst h1
    simp only [toKs] at e
    split at e
    · rename_i k ks' q1 q2
      cases e
      rw [List.map_cons, toK_rep h2 q1, toKs_rep h3 q2]
    · cases e
end
end Mm
end

section
/-! ## M, part 10: calls under which no repr runs (guards known), repr -/
namespace Mm
open PySem L2 PyProof.Rows
section
variable {P : Program} {w : World} {K : PySem.W.Frag} {mg : Str → Option Value} {base : Heap}
/-- as FnOk, where no guard stands -/
structure FnG (P : Program) (w : World) (K : PySem.W.Frag) (mg : Str → Option Value) (base : Heap) (k : Nat) (f : Addr) (fd : FuncData) (ps : List Str) (sp : Sp) : Prop where
  ln : ∀ vs H Q E, sp vs H Q E → vs.length = ps.length
  go : ∀ {A : Around} {out : List PySem.Env} {s : Shared} {H : Hp} {ar : Args} {us : List Value} {vs : List V} {Q : VK} {E : XK}, A.guards = some [] → Room k A → Env0 P w K mg base A out s H → BindsTo s fd ar (ps.zip us) → Vals vs us → sp vs H Q E →
    codeAny (model P w) A (.call (.ref f) ar) (CR (L2.CX P w) out P w H s Q E) s
theorem FnG.mono {j k : Nat} {f : Addr} {fd : FuncData} {ps : List Str} {sp : Sp} (F : FnG P w K mg base j f fd ps sp) (h : j ≤ k) : FnG P w K mg base k f fd ps sp :=
  ⟨F.ln, fun g r => F.go g (r.mono h)⟩
theorem fnG_of {x qual : Str} {st : Stmt} {f : Addr} {fd : FuncData} {N ps : List Str} {k : Nat} {sp : Sp} (F : Fun K x qual st f fd) (S : FnScope N ps (defScope st)) (len : ∀ vs H Q E, sp vs H Q E → vs.length = ps.length)
    (body : ∀ (cdv : Value) (A : Around) (outer : List PySem.Env) (s : Shared) (H : Hp) (vs : List V) (Q : VK) (E : XK), A.guards = some [] → Room k (A.deeper (envOfC qual (defScope st) s.heap.objs.size f cdv)) → sp vs H Q E →
      ∃ t, PSs (cxOf (L2.CX P w) P w K mg base N qual (defScope st) f cdv A outer s H E) (defBody st) t ∧ t { nx := fun _ H' => Q .non H', rt := Q } (start N vs) H) : FnG P w K mg base (k + 1) f fd ps sp := by
  obtain ⟨oc, od, kV, doc, pm, an, cdv, ct, osl, rfl, lk, hcd⟩ := F.ex
  constructor
  · exact len
  · intro A out s H ar us vs Q E hg hr env hb hv hs
    have old : ∀ {b : Addr} {o : Obj}, base.get? b = some o → s.heap.get? b = some o := fun z => (env.bs _ _ z).1
    have inK : K.In s.heap := env.mod.kin.keeps fun _ _ z => old z
    refine codeAny_call_function hr.depth (inK _ _ lk) rfl S.co S.gen rfl (PySem.W.codeRec_of inK hcd) (hb _ _ _ _ ?main)
    have places : ∀ y ∈ ps.zip us, (defScope st).names.lookup y.1 = some .local ∨ ((defScope st).names.lookup y.1 = some .cell ∧ ((cellsFrom (s.heap.objs.size + 1) (defScope st).names []).lookup y.1).isSome = true) := by
      rintro ⟨n, v⟩ hy
      cases S.par n (List.of_mem_zip hy).1 with
      | inl q => exact Or.inl q
      | inr q => exact Or.inr ⟨q, PySem.W.cellsFrom_some _ _ _ (Or.inl q)⟩
    refine wpAny_newFunctionEnv_cells S.kind places fun e he s1 inC => ?_
    cases he
    refine ⟨(env.mod.nolimit.keeps fun _ _ z => old z).keeps inC.toInCall.keep, ?_⟩
    apply codeAny_func
    obtain ⟨t, T, q⟩ := body cdv A out s H vs Q E hg (Room.deeper hr _) hs
    have I0 := inv_start (CX := L2.CX P w) (E := E) (N := N) (qual := qual) (cd := cdv) S hr.hd env (len _ _ _ _ hs) hv inC
    refine wpAny_mono (T.run _ _ _ _ _ I0 q) ?ret (fun _ _ z => z)
    have back : ∀ {sg : L2.St} {H' : Hp} {s' : Shared} {v : V} {u : Value}, Inv (cxOf (L2.CX P w) P w K mg base N qual (defScope st) f cdv A out s H E) [] sg H' s' → RelV v u → Q v H' → CE out P w H s Q u s' :=
      fun J rv z => ⟨_, _, J.os, J.bare, J.base, J.hok, rv, z⟩
    intro fl s' z
    match fl, z with
    | .ret u, ⟨v, sg, H', J, rv, z⟩ => exact back J rv z
    | .next, ⟨sg, H', J, z⟩ => exact back (v := .non) (u := .none) J rfl z
    | .brk, ⟨_, _, _, z⟩ => exact z.elim
    | .cont, ⟨_, _, _, z⟩ => exact z.elim
/-- a def by its M-function -/
theorem okG {x qual : Str} {st : Stmt} {f : Addr} {fd : FuncData} {N ps : List Str} {k : Nat} {body : SM} (F : Fun K x qual st f fd) (S : FnScope N ps (defScope st))
    (hbody : ∀ (cdv : Value) (A : Around) (outer : List PySem.Env) (s : Shared) (H : Hp) (E : XK), Room k (A.deeper (envOfC qual (defScope st) s.heap.objs.size f cdv)) → (cxOf (L2.CX P w) P w K mg base N qual (defScope st) f cdv A outer s H E).A.guards = some [] →
      Takes (cxOf (L2.CX P w) P w K mg base N qual (defScope st) f cdv A outer s H E) (WE' E) → PassesOwn (model P w) (cxOf (L2.CX P w) P w K mg base N qual (defScope st) f cdv A outer s H E).A (cxOf (L2.CX P w) P w K mg base N qual (defScope st) f cdv A outer s H E).env (cxOf (L2.CX P w) P w K mg base N qual (defScope st) f cdv A outer s H E).xe →
      PSs (cxOf (L2.CX P w) P w K mg base N qual (defScope st) f cdv A outer s H E) (defBody st) (tS K (WE' E) body)) : FnG P w K mg base (k + 1) f fd ps (spM K (defM ps.length N.length body)) := by
  have key : ∀ {vs : List V} {H : Hp} {Q : VK} {E : XK}, spM K (defM ps.length N.length body) vs H Q E → ∃ rho xs S, Sim K rho S H ∧ RepL K rho S.n H xs vs ∧ xs.length = ps.length ∧ Fin K rV rho S H Q E (defM ps.length N.length body xs S) := by
    intro vs H Q E ⟨rho, xs, S, s, r, f⟩
    refine ⟨rho, xs, S, s, r, ?_, f⟩
    unfold defM at f
    split at f
    · assumption
    · exact f.elim
  refine fnG_of F S (fun vs H Q E h => ?_) (fun cdv A outer s H vs Q E hg hr h => ?_)
  · obtain ⟨rho, xs, S, s, r, hl, f⟩ := key h
    rw [r.len, hl]
  · obtain ⟨rho, xs, S', s', r, hl, f⟩ := key h
    refine ⟨_, hbody cdv A outer s H E hr hg (takes_of rfl rfl rfl rfl) (passes_of rfl), rho, xs.map some ++ List.replicate (N.length - ps.length) none, S', s', ?_, ?_⟩
    · have := repE_start (H := H) r N.length
      rw [hl] at this
      exact this
    · unfold defM at f
      rw [if_pos hl] at f
      cases q : body (xs.map some ++ List.replicate (N.length - ps.length) none) S' with
      | nx e' S2 => rw [q] at f; exact fun rho' H' sg' s2 l2 re2 => f rho' H' .non s2 l2 rfl
      | ret y S2 => rw [q] at f; exact f
      | brk e' S2 => rw [q] at f; exact f.elim
      | ct e' S2 => rw [q] at f; exact f.elim
      | exc ex e' S2 => rw [q] at f; exact fun rho' H' sg' d s2 l2 re2 r2 => f rho' H' d s2 l2 r2
      | bad => rw [q] at f; exact f.elim
/-- a def that may be called by its name -/
structure CalG (P : Program) (w : World) (K : PySem.W.Frag) (mg : Str → Option Value) (base : Heap) (k : Nat) (x : Str) (m : List MV → Sto → Res MV) : Prop where
  ex : ∃ (f : Addr) (fd : FuncData) (ps : List Str), FnG P w K mg base k f fd ps (spM K m) ∧ mg x = some (.ref f) ∧ PySem.W.keepIn K (.ref f) = true ∧ Binds K fd ps []
theorem DefAt.calG {k : Nat} {x : Str} {st : Stmt} {f : Addr} {fd : FuncData} {ps : List Str} {m : List MV → Sto → Res MV} (D : DefAt K mg x st f fd ps) (h : FnG P w K mg base k f fd ps (spM K m)) : CalG P w K mg base k x m :=
  ⟨f, fd, ps, h, D.mgf, D.kp, D.bd⟩
end
section
variable {X : Cx}
theorem run_fnG {pins : List (Addr × Obj)} {sg : L2.St} {H : Hp} {s : Shared} {Q : VK} {us : List Value} {vs : List V} {k : Nat} {f : Addr} {fd : FuncData} {ps : List Str} {sp : Sp} {E : XK} (F : FnG X.prog X.w X.K X.mg X.base k f fd ps sp) (gd : X.A.guards = some []) (hr : Room k X.A) (hb : Binds X.K fd ps [])
    (hx : PassesAt (L2.CX X.prog X.w) X sg E) (I : Inv X pins sg H s) (r : Vals vs us) (h : sp vs H Q E) : wpAny (model X.prog X.w) X.A (call (.ref f) us) (EP X pins sg Q) X.xe s := by
  have hl : us.length = ps.length := by rw [← r.length]; exact F.ln _ _ _ _ h
  have b := hb s us I.kIn (by simpa using hl)
  rw [List.append_nil] at b
  apply wpAny_call
  refine codeAny_mono (F.go gd hr I.env0 b r h) fun res s' z => ?_
  match res, z with
  | .error e, z => exact hx pins H s e s' I z
  | .ok (.ret u), z => exact I.after z
  | .ok .next, z => exact z.elim
  | .ok .brk, z => exact z.elim
  | .ok .cont, z => exact z.elim
theorem mcG {W : WX} {k j : Nat} {m : List MV → Sto → Res MV} {x : Str} {p pos : Pos} {e : Expr} {es : List Expr} {ml : EMt (List MV)} (C : CalG X.prog X.w X.K X.mg X.base k x m) (tk : Takes X W) (gd : X.A.guards = some []) (hr : Room j X.A)
    (ha : PA X (e :: es) (tA X.K W ml)) (hkj : k ≤ j := by decide) (hg : Gl X x := by rfl) (hdb : (x == ("__debug__" : Str)) = false := by decide) (he : starEach (e :: es) X.env = (false, eval e X.env) :: starEach es X.env := by rfl) (hpl : (backTo pos (starEach es X.env)).any (·.1) = false := by rfl) :
    PE X (.Call (.Name x p) (e :: es) [] pos) (tM X.K W (opL m ml)) := by
  obtain ⟨f, fd, ps, F, hm, hk, hb⟩ := C.ex
  constructor
  intro pins s sg H Q I h
  have h2 := (tG_bind (rel := rL) h)
  apply wpAny_Call_Name_kw
  apply ld_glob I hg hm _ hdb
  refine PySem.W.callWith_K (h₀ := X.base) I.ok.mod.kin hk (thn (ha.run pos pins s sg H _ I h2) fun us s1 z => ?_) he hpl
  obtain ⟨vs, H1, I1, r, rho, en, S, xs, sm, re, rl, fn⟩ := z
  exact ⟨I1.kIn, run_fnG F gd (hr.mono hkj) hb (passAt tk sg) I1 r ⟨rho, xs, S, sm, rl, fn⟩⟩
end
section
theorem law_callG {P : Program} {w : World} {K : PySem.W.Frag} {mg mb : Str → Option Value} {k : Nat} {fa a : Addr} {fd : FuncData} {x : Str} {sp : Sp} {s1 : Shared} {vs : List Value} {ns : List Int}
    (KX : K.In s1.heap) (hns : s1.heap.Ns mainGlobals mg) (hb : s1.heap.Ns builtinsNs mb) (hbb : ∀ x : Str, x ≠ "__name__" → mb x = bootBuiltins x) (hlim : s1.heap.NoLimit) (hg : s1.gens = #[])
    (ha : s1.heap.get? a = some { cls := .type "list", data := .seq vs.toArray }) (hi : IntsAre vs ns) (hl : ns.length ≤ sizeLine) (hr : Room k callerA)
    (F : ∀ base : Heap, K.In base → base.Ns mainGlobals mg → FnG P w K mg base k fa fd [x] sp) (hbind : ∀ (s : Shared) (u : Value), BindsTo s fd ⟨[u], []⟩ [(x, u)])
    (hsp : ∀ H : Hp, Only H → SqL K H a (ns.map V.int) → sp [.ref a] H (fun v _ => v = .bl true) fun _ _ _ => False) :
    codeAny (model P w) callerA (.call (.ref fa) ⟨[.ref a], []⟩) (fun r s' => r = .ok (.ret (.bool true)) ∧ OldK s1.heap s'.heap ∧ s'.os = s1.os ∧ AllBare s'.gens) s1 := by
  have rv := vals_ints hi
  have core : ∀ H : Hp, Only H → SqL K H a (ns.map V.int) → HOk P w H s1.heap → (∀ b, H b ≠ none → b = a ∧ K.lookup a = none) →
      codeAny (model P w) callerA (.call (.ref fa) ⟨[.ref a], []⟩) (fun r s' => r = .ok (.ret (.bool true)) ∧ OldK s1.heap s'.heap ∧ s'.os = s1.os ∧ AllBare s'.gens) s1 := by
    intro H hO hS hok hA
    have look : ∀ b, H b = none ∨ (b = a ∧ K.lookup a = none) := fun b => by
      by_cases q : H b = none
      · exact .inl q
      · exact .inr (hA b q)
    have nsK : ∀ {b : Addr} {m : Str → Option Value}, s1.heap.Ns b m → (hidT s1.heap H).Ns b m := by
      rintro b m ⟨o, es, ep, e, d, r⟩
      refine ⟨o, es, ep, hidT_get e ?_, d, r⟩
      rcases look b with q | ⟨rfl, _⟩
      · exact q
      · rw [ha] at e
        cases e
        exact absurd (show Data.seq vs.toArray _ = Data.dict es ep from d) (fun z => by cases z)
    have hKb : K.In (hidT s1.heap H) := by
      intro b o e
      refine hidT_get (KX b o e) ?_
      rcases look b with q | ⟨rfl, q⟩
      · exact q
      · rw [q] at e; cases e
    have hM : Mod K mg (hidT s1.heap H) := ⟨hKb, nsK hns, ⟨mb, nsK hb, hbb⟩, hlim.imp fun mc z => ⟨nsK z.1, z.2⟩⟩
    have e0 : Env0 P w K mg (hidT s1.heap H) callerA [] s1 H := ⟨rfl, hM, fun _ _ e => of_hidT e, Nat.le_of_eq (hidT_size _ _), trivial, fun _ z => (List.not_mem_nil z).elim, hok, .of_eq hg⟩
    have run := (F _ hKb (nsK hns)).go (A := callerA) (us := [.ref a]) (vs := [.ref a]) rfl hr e0 (hbind s1 (.ref a)) (.cons rfl .nil) (hsp H hO hS)
    refine codeAny_mono run fun r s' h => ?_
    match r, h with
    | .error e, h =>
      obtain ⟨_, _, _, _, _, _, _, _, _, _, _, _, z⟩ := h
      exact z.elim
    | .ok .next, h => exact h.elim
    | .ok .brk, h => exact h.elim
    | .ok .cont, h => exact h.elim
    | .ok (.ret u), ⟨v, H', os, bare, un, hok', r', q⟩ =>
      have q : v = .bl true := q
      subst q
      cases (show u = Value.bool true from r')
      refine ⟨rfl, OldK.of_keep fun b o e => ?_, os, bare⟩
      cases z : H b with
      | none => exact un.keep b o e z (fun y => (List.not_mem_nil y).elim) (by simp)
      | some u =>
        rcases hO b with y | ⟨ob, xs, y⟩
        · rw [z] at y; cases y
        · have e1 := (hok b _ y).1
          have e2 := (hok' b _ (un.frzs b ob _ y)).1
          rw [e] at e1; cases e1
          exact e2
  cases hk : K.lookup a with
  | some o =>
    have e := KX a o hk
    rw [ha] at e
    cases e
    exact core (fun _ => none) (fun _ => .inl rfl) (.inr ⟨_, vs.toArray, _, hk, rfl, rfl, rfl, by rw [List.size_toArray, hi.length]; exact hl, by simpa using rv⟩) (fun b u z => nomatch (show (none : Option HO) = some u from z)) fun b z => absurd rfl z
  | none =>
    let H : Hp := fun b => if b = a then some (.frz { cls := .type "list", data := .seq vs.toArray } (.lst (ns.map V.int))) else none
    have H1 : H a = some (.frz { cls := .type "list", data := .seq vs.toArray } (.lst (ns.map V.int))) := if_pos rfl
    have H2 : ∀ b, b ≠ a → H b = none := fun b hb => if_neg hb
    have two : ∀ b, (b = a) ∨ H b = none := fun b => by
      by_cases hb : b = a
      · exact .inl hb
      · exact .inr (H2 b hb)
    refine core H (fun b => ?_) (.inl (.inr ⟨_, H1⟩)) (fun b u z => ?_) (fun b z => ?_)
    · rcases two b with rfl | q
      · exact .inr ⟨_, _, H1⟩
      · exact .inl q
    · rcases two b with rfl | q
      · rw [H1] at z; cases z
        exact ⟨ha, by rw [List.length_map]; exact hl, vs, _, rv, ha⟩
      · rw [q] at z; cases z
    · rcases two b with rfl | q
      · exact ⟨rfl, hk⟩
      · exact absurd q z
theorem walkG {l : PySem.W.OpenLaw} {k : Nat} {q : Program} {loose : List Str} {XP : (Str → Option Value) → Heap → Prop} {YP : World → Heap → Prop} {d : DefRec} {K : Params → PySem.W.Frag} {m : List MV → Sto → Res MV} (hn : l.most = some 63) (hdf : d.params.defaults = []) (hr : Room k callerA)
    (hY : ∀ (w : World) (h : Heap), YP w h → (K w.params).In h) (L : LawOk m)
    (F : ∀ (w : World) (mg : Str → Option Value) (fa : Addr) (h : Heap), (K w.params).In h → h.Ns mainGlobals mg → mg d.name = some (.ref fa) →
      ∃ fd : FuncData, (∀ (s : Shared) (u : Value), BindsTo s fd ⟨[u], []⟩ [("script", u)]) ∧ ∀ base : Heap, (K w.params).In base → base.Ns mainGlobals mg → FnG l.prog w (K w.params) mg base k fa fd ["script"] (spM (K w.params) m)) :
    PySem.W.WalkO q loose XP YP l.row.toRowW d [] (fun f vs => PySem.call f vs) := by
  refine Att.attach_callB hn hdf fun w s0 s1 mg mb fa o pm cd doc a vs ns G Y ho hd hcd hmg hobj hints hlen hbits hg => ?_
  obtain ⟨fd, hb, hF⟩ := F w mg fa _ (hY w _ Y) G.T.g hmg
  exact law_callG (hY w _ Y) G.T.g G.T.b G.T.builtins G.T.nolimit hg hobj hints (Nat.le_trans hlen (by decide)) hr hF hb fun H hO hS => law_sp L hlen hbits hO hS
end
end Mm
end

section
/-! ## M, part 11: repr -/
namespace Mm
open PySem L2 PyProof.Rows
/-! ### data without a list or a dict lie at no address of note -/
mutual
def noL : PyData → Bool
  | .none | .bool _ | .int _ | .str _ => true
  | .tuple xs => noLs xs
  | .list _ | .dict _ => false
def noLs : List PyData → Bool
  | [] => true
  | x :: xs => noL x && noLs xs
end
mutual
theorem noL_as {h : Heap} : ∀ (d : PyData) (v : Value) (as : List Addr), noL d = true → Reads h v d as → as = []
  | .none, _, _, _, r => by cases r; rfl
  | .bool _, _, _, _, r => by cases r; rfl
  | .int _, _, _, _, r => by cases r; rfl
  | .str _, _, _, _, r => by cases r; rfl
  | .tuple xs, _, _, n, r => by
    cases r with
    | tuple h1 h2 h3 h4 => exact noLs_as xs _ _ (by simpa [noL] using n) h4
  | .list _, _, _, n, _ => nomatch n
  | .dict _, _, _, n, _ => nomatch n
theorem noLs_as {h : Heap} : ∀ (ds : List PyData) (vs : List Value) (as : List Addr), noLs ds = true → ReadsAll h vs ds as → as = []
  | [], _, _, _, r => by cases r; rfl
  | d :: ds, _, _, n, r => by
    have n' : noL d = true ∧ noLs ds = true := by simpa [noLs] using n
    cases r with
    | cons h1 h2 => rw [noL_as d _ _ n'.1 h1, noLs_as ds _ _ n'.2 h2]; rfl
end
def kD : Key → PyData
  | .inl i => .int i
  | .inr x => .str x
theorem noLs_kD : ∀ ks : List Key, noLs (ks.map kD) = true
  | [] => rfl
  | .inl _ :: ks => by simp only [List.map_cons, noLs, kD, noL, noLs_kD ks, Bool.and_self]
  | .inr _ :: ks => by simp only [List.map_cons, noLs, kD, noL, noLs_kD ks, Bool.and_self]
theorem pairs_reads {prog : Program} {w : World} {h : Heap} : ∀ {es : List DictEntry} {kvs : List (Key × Value)}, Pairs (mixKind prog w) es kvs → ReadsAll h (es.map (·.key)) (kvs.map fun p => kD p.1) [] ∧ es.map (·.val) = kvs.map (·.2)
  | _, _, .nil => ⟨.nil, rfl⟩
  | _, _, .cons (e := e) (kv := kv) hk hv r => by
    obtain ⟨h1, h2⟩ := pairs_reads (h := h) r
    refine ⟨?_, by simp [hv, h2]⟩
    have one : Reads h e.key (kD kv.1) [] := by
      rcases keyIs_shape (show keyIs kv.1 e.key = true from hk) with ⟨i, t, a, b⟩ | ⟨x, t, a, b⟩
      · rw [a, b]; exact .int i t
      · rw [a, b]; exact .str x t
    exact .cons (as := []) (bs := []) one h1
theorem kv_vals : ∀ {ws : List (Key × V)} {vs : List (Key × Value)}, KV ws vs → Vals (ws.map (·.2)) (vs.map (·.2)) ∧ ws.map (·.1) = vs.map (·.1)
  | _, _, .nil => ⟨.nil, rfl⟩
  | _, _, .cons h r => by
    obtain ⟨h1, h2⟩ := kv_vals r
    exact ⟨.cons h.2 h1, by simp [h.1, h2]⟩
/-- what repr reads -/
def RdD (K : PySem.W.Frag) (H : Hp) (x : V) (d : PyData) : Prop := Dp K H x d ∨ ∃ (a : Addr) (ws : List (Key × V)) (ds : List PyData), x = .ref a ∧ H a = some (.dK ws) ∧ DpAll K H (ws.map (·.2)) ds ∧ noLs ds = true ∧ d = .dict ((ws.map fun p => kD p.1).zip ds)
def rRepr (K : PySem.W.Frag) : List V → Hp → VK → Prop := fun xs H Q => ∃ x d, xs = [x] ∧ RdD K H x d ∧ d.showable = true ∧ d.depth ≤ 60 ∧ d.shown.length ≤ sizeLine ∧ ((∃ a, x = .ref a) ∨ ∃ i, x = .int i) ∧ Q (.str d.shown) H
mutual
theorem dp_noDict {K : PySem.W.Frag} {H : Hp} : ∀ {v : V} {d : PyData}, Dp K H v d → d.hasDict = false
  | _, _, .non => rfl
  | _, _, .bl _ => rfl
  | _, _, .int _ => rfl
  | _, _, .str _ => rfl
  | _, _, .lst _ h => by simp only [PyData.hasDict]; exact dpAll_noDict h
  | _, _, .tup _ h => by simp only [PyData.hasDict]; exact dpAll_noDict h
theorem dpAll_noDict {K : PySem.W.Frag} {H : Hp} : ∀ {vs : List V} {ds : List PyData}, DpAll K H vs ds → PyData.hasDictAll ds = false
  | _, _, .nil => rfl
  | _, _, .cons h1 h2 => by simp only [PyData.hasDictAll, dp_noDict h1, dpAll_noDict h2, Bool.or_self]
end
theorem dpAll_len {K : PySem.W.Frag} {H : Hp} : ∀ {vs : List V} {ds : List PyData}, DpAll K H vs ds → ds.length = vs.length
  | _, _, .nil => rfl
  | _, _, .cons _ h => by rw [List.length_cons, List.length_cons, dpAll_len h]
section
variable {X : Cx}
theorem call_reprD {k : Nat} (gd : X.A.guards = some []) (hr : Room k X.A) : CallR X (.builtin "repr") (rRepr X.K) := by
  intro pins s sg H xs us Q I r h
  obtain ⟨x, d, rfl, rd, sh, dp, sz, form, q⟩ := h
  obtain ⟨u, rfl, ru⟩ := vals1 r
  rcases form with ⟨a, rfl⟩ | ⟨i, rfl⟩
  · cases ru
    have un : X.A.units + (d.depth + 1) < cLine := by have := hr.un; omega
    have main : ∀ {as : List Addr}, Reads s.heap (.ref a) d as → (d.hasDict = true → sysModules ∉ as) → wpAny (model X.prog X.w) X.A (call (.builtin "repr") [.ref a]) (EP X pins sg Q) X.xe s := fun rr hs =>
      repr_of_reads' rr sh hs gd un (fun _ _ e => e) (fun h' u tk hk => ⟨.str _, H, I.kept hk, ⟨u, rfl⟩, q⟩) sz
    rcases rd with dd | ⟨b, ws, ds, e1, e2, e3, e4, e5⟩
    · obtain ⟨as, rr⟩ := Dp.reads I d _ _ dd rfl
      exact main rr fun hd => absurd hd (by rw [dp_noDict dd]; simp)
    · cases e1
      subst e5
      obtain ⟨_, hsys, vs, kv, o, es, ep, ho, hx, hdt, _, pr, _⟩ := I.hok a _ e2
      obtain ⟨g1, g2⟩ := kv_vals kv
      obtain ⟨h1, h2⟩ := pairs_reads (h := s.heap) pr
      obtain ⟨bs, rb⟩ := Dp.readsAll I ds _ _ e3 g1
      have hb := noLs_as ds _ _ e4 rb
      subst hb
      have hl : (ws.map fun p => kD p.1).length = ds.length := by rw [dpAll_len e3, List.length_map, List.length_map]
      have k1 : ((ws.map fun p => kD p.1).zip ds).map (·.1) = vs.map fun p => kD p.1 := by
        rw [List.map_fst_zip (by omega)]
        have := congrArg (List.map kD) g2
        simpa [Function.comp_def] using this
      have k2 : ((ws.map fun p => kD p.1).zip ds).map (·.2) = ds := List.map_snd_zip (by omega)
      refine main (.dict ho hx.1 hdt (by rw [k1]; exact h1) (by rw [k2, h2]; exact rb)) fun _ hm => ?_
      simp only [List.append_nil, List.mem_singleton] at hm
      rw [← hm] at hsys
      simp at hsys
  · have hd : d = .int i := by
      rcases rd with dd | ⟨_, _, _, e1, _⟩
      · cases dd; rfl
      · cases e1
    subst hd
    obtain ⟨t, rfl⟩ := ru
    exact PySem.P.repr_of_int (by simpa [PyData.showable] using sh) ⟨.str _, H, I.tok _, ⟨_, rfl⟩, q⟩
end
/-! ### the M-function -/
def rD (S : Sto) (x : MV) : Option PyData := match x with
  | .ref k => (match S.g k with
    | .dK kvs => (toDwL (fun _ => none) (kvs.map (·.2))).map fun ds => .dict ((kvs.map fun p => kD p.1).zip ds)
    | _ => toD S x)
  | _ => toD S x
def shOk (d : PyData) : Prop := d.showable = true ∧ d.depth ≤ 60 ∧ d.shown.length ≤ sizeLine
instance (d : PyData) : Decidable (shOk d) := inferInstanceAs (Decidable (_ ∧ _ ∧ _))
def isRI : MV → Bool
  | .ref _ => true
  | .tup _ => true
  | .int _ => true
  | _ => false
def reprV : List MV → Sto → Res MV
  | [x], S => if isRI x = true then (match rD S x with
    | some d => if shOk d then .ok (.str d.shown) S else .bad
    | none => .bad) else .bad
  | _, _ => .bad
mutual
theorem toDw_noL : ∀ {x : MV} {d : PyData}, toDw (fun _ => none) x = some d → noL d = true
  | .non, d, e => by cases e; rfl
  | .bl b, d, e => by cases e; rfl
  | .int b, d, e => by cases e; rfl
  | .str b, d, e => by cases e; rfl
  | .ty _, _, e => by cases e
  | .obj _, _, e => by cases e
  | .ref k, _, e => by cases e
  | .tup xs, d, e => by
    cases q : toDwL (fun _ => none) xs with
    | none => simp only [toDw, q] at e; cases e
    | some ds =>
      simp only [toDw, q, Option.map_some, Option.some.injEq] at e
      subst e
      simp only [noL]; exact toDwL_noL q
theorem toDwL_noL : ∀ {xs : List MV} {ds : List PyData}, toDwL (fun _ => none) xs = some ds → noLs ds = true
  | [], ds, e => by cases e; rfl
  | x :: xs, ds, e => by
    simp only [toDwL] at e
    split at e
    · rename_i d ds' q1 q2
      cases e
      simp only [noLs, toDw_noL q1, toDwL_noL q2, Bool.and_self]
    · cases e
end
theorem RepP.parts {K : PySem.W.Frag} {rho : Nat → Addr} {n : Nat} {H : Hp} {ka : Type} : ∀ {ps : List (ka × MV)} {ws : List (ka × V)}, RepP K rho n H ps ws → ws.map (·.1) = ps.map (·.1) ∧ RepL K rho n H (ps.map (·.2)) (ws.map (·.2))
  | [], ws, h => by rw [show ws = [] from h]; exact ⟨rfl, rfl⟩
  | p :: ps, ws, h => by
    obtain ⟨v, r, h1, h2, h3⟩ := h
    obtain ⟨h4, h5⟩ := RepP.parts h3
    subst h1
    exact ⟨by simp [h4], _, _, rfl, h2, h5⟩
theorem reprV_ok {K : PySem.W.Frag} : SndL K (rRepr K) reprV := by
  intro rho S H xs vs Q E s rx f
  unfold reprV at f
  split at f
  · rename_i x
    obtain ⟨v, h1, h2⟩ := rep1 rx
    subst h1
    split at f
    · rename_i hx
      split at f
      · rename_i d e
        split at f
        · rename_i hs
          obtain ⟨sh, dp, sz⟩ := hs
          have q : Q (.str d.shown) H := f.val s rfl
          have form : (∃ a, v = .ref a) ∨ ∃ i, v = .int i := by
            cases x with
            | ref k => exact .inl ⟨_, h2.2⟩
            | tup xs => obtain ⟨a, vs, h3, _⟩ := h2; exact .inl ⟨_, h3⟩
            | int i => exact .inr ⟨_, h2⟩
            | _ => cases hx
          refine ⟨v, d, rfl, ?_, sh, dp, sz, form, q⟩
          have both : toD S x = some d → RdD K H v d := fun e => .inl (toD_ok s h2 e)
          unfold rD at e
          split at e
          · rename_i k
            split at e
            · rename_i kvs qk
              obtain ⟨hk, ek⟩ := h2
              obtain ⟨ws, g1, g2⟩ := dK_at s hk qk
              obtain ⟨p1, p2⟩ := g2.parts
              cases z : toDwL (fun _ => none) (kvs.map (·.2)) with
              | none => rw [z] at e; cases e
              | some ds =>
                rw [z] at e
                cases e
                refine .inr ⟨_, ws, ds, ek, g1, toDwL_ok (fun _ _ _ h => by cases h) p2 z, toDwL_noL z, ?_⟩
                have := congrArg (List.map kD) p1
                simp only [List.map_map] at this
                rw [show (ws.map fun p => kD p.1) = kvs.map fun p => kD p.1 by simpa [Function.comp_def] using this]
            · exact both e
          · exact both e
        · exact f.elim
      · exact f.elim
    · exact f.elim
  · exact f.elim
end Mm
end

section
/-! ## M, part 12: enumerate of a tuple -/
namespace Mm
open PySem L2 PyProof.Rows
open PySem.AutoSeq1 (wpAny_loadPart')
theorem enum_newT (l : Addr) (items : Array Value) (ob : Obj) (hc : ob.cls = .type "tuple") (n : Nat) (hd : ob.data = .seq items n) :
    Meets (Builtin.«enumerate.__new__» ⟨[.type "enumerate", .ref l], []⟩) (fun _ R s => s.heap.get? l = some ob ∧
      R (.ok (.ret (.ref (s.heap.push { cls := .type "tuple_iterator", data := .fields #[.ref l, .int 0 0] }).objs.size)))
        { s with heap := (s.heap.push { cls := .type "tuple_iterator", data := .fields #[.ref l, .int 0 0] }).push { cls := .type "enumerate", data := .fields #[.none, .bool false, .ref s.heap.objs.size, rawInt 0, .none, .none] } }) :=
  .of_wp fun prog w A R s h => by
    obtain ⟨c, dct, dt, sl⟩ := ob
    replace hc : c = .type "tuple" := hc
    replace hd : dt = .seq items n := hd
    subst hc hd
    obtain ⟨hp, g, d, tk, os⟩ := s; obtain ⟨hl, h⟩ := h
    have hsub := sub_enumerate
    have hL : Heap.IsTuple (Shared.heap ⟨hp, g, d, tk, os⟩) l items := ⟨_, hl, rfl, n, rfl⟩
    wp_walk using wpAny_loadPart' hl
    refine wpAny_stack_any fun st => wpAny_pure ?_
    split
    · rename_i c _ _ _ _ _
      cases (c == Value.type "enumerate")
      · wp_walk using wpAny_loadPart' hl, wpAny_pyIter_tuple hL
        exact ⟨_, rfl, h⟩
      · wp_walk using wpAny_loadPart' hl, wpAny_pyIter_tuple hL
        exact ⟨_, rfl, h⟩
    · wp_walk using wpAny_loadPart' hl, wpAny_pyIter_tuple hL
      exact ⟨_, rfl, h⟩
section
variable {prog : Program} {w : World} {A : Around} {E : Value → Shared → Prop} {s : Shared}
theorem call_enumT {l : Addr} {items : Array Value} {Q : Value → Shared → Prop} (hL : s.heap.IsTuple l items)
    (h : ∀ h', IsEnum h' (s.heap.objs.size + 1) s.heap.objs.size 0 .none → h'.IsTupleIter s.heap.objs.size l 0 → (∀ b o, s.heap.get? b = some o → h'.get? b = some o) → Q (.ref (s.heap.objs.size + 1)) { s with heap := h' }) :
    wpAny (model prog w) A (call (.type "enumerate") [.ref l]) Q E s := by
  obtain ⟨ob, hl, hc, n, hd⟩ := hL
  refine callType_new F.called_enumerate (by decide) (F.typeCall_enumerate_1 _) (F.newCall_enumerate_1 _) (fun obj => F.args_object_init_2 obj _) F.entry_enumerate_new (enum_newT l items ob hc n hd) ⟨hl, ?_⟩
  generalize hi : ({ cls := .type "tuple_iterator", data := .fields #[.ref l, .int 0 0] } : Obj) = oi
  have hz : (s.heap.push oi).objs.size = s.heap.objs.size + 1 := Heap.size_push ..
  show _ ∧ _
  rw [hz]
  have he : IsEnum ((s.heap.push oi).push { cls := .type "enumerate", data := .fields #[.none, .bool false, .ref s.heap.objs.size, rawInt 0, .none, .none] }) (s.heap.objs.size + 1) s.heap.objs.size 0 .none := by
    have q := Heap.get?_push_size (s.heap.push oi) (o := { cls := .type "enumerate", data := .fields #[.none, .bool false, .ref s.heap.objs.size, rawInt 0, .none, .none] }) rfl
    rw [hz] at q; exact q
  refine ⟨⟨_, he, rfl⟩, h _ he ⟨oi, Heap.get?_push_of_some _ (Heap.get?_push_size _ (by rw [← hi]; rfl)), by rw [← hi], by rw [← hi]; rfl⟩ fun b o x => Heap.get?_push_of_some _ (Heap.get?_push_of_some _ x)⟩
end
/-- the tuple at a, its items in new pairs -/
def ItT (K : PySem.W.Frag) (a : Addr) : It :=
  ⟨fun i H => ∃ (xs : List V) (x : V), SqT K H a xs ∧ xs[i]? = some x, fun i H v H' => ∃ T x, v = .ref T ∧ H T = none ∧ H' = upd H T (.tup [.int (i : Nat), x]) ∧ ∀ xs, SqT K H a xs → xs[i]? = some x, fun i H => ∃ xs : List V, SqT K H a xs ∧ xs.length = i⟩
theorem turn_enumT {P : Program} {w : World} {K : PySem.W.Frag} {elts : List Expr} {kk : Nat} {tpos : Pos} (a e it : Addr) (nn : Nat) :
    Turn P w K (.Tuple elts kk tpos) (ItT K a) [e, it] e (fun i h => (∃ old, IsEnum h e it ((i : Nat) : Int) old) ∧ h.IsTupleIter it a i ∧ e ≠ it ∧ a ≠ it) where
  mem := by simp
  obj := fun i h st b hb => by
    obtain ⟨⟨old, he⟩, ⟨o, ho, hc, hd⟩, _⟩ := st
    rcases (show b = e ∨ b = it by simpa using hb) with z | z
    · subst z; exact ⟨_, he, fun v q => nomatch q⟩
    · subst z; exact ⟨o, ho, fun v q => by rw [hd] at q; cases q⟩
  keep := fun i h h' st k => ⟨st.1.imp fun old he => k e (by simp) _ he, st.2.1.at fun o q => k it (by simp) o q, st.2.2⟩
  item := by
    intro X hP hw hK hc i pins s σ H E I hf st hg
    subst hP hw hK
    obtain ⟨⟨old, he⟩, hit, hne, hat⟩ := st
    obtain ⟨xs, x, hq, hx⟩ := hg
    obtain ⟨its, rv, ⟨o, ho, hcl, n, hd⟩, hz⟩ := I.tuple hq
    have hT : s.heap.IsTuple a its.toArray := ⟨o, ho, hcl, n, hd⟩
    obtain ⟨u, hu, ru⟩ := rv.get hx
    have hel : e < s.heap.objs.size := Heap.lt_size he
    have hil : it < s.heap.objs.size := by obtain ⟨_, q, _⟩ := hit; exact Heap.lt_size q
    have hlt : i < its.toArray.size := by
      rw [List.size_toArray]
      exact (List.getElem?_eq_some_iff.1 hu).1
    have hea : e ≠ a := by
      rintro rfl
      have he' : s.heap.get? e = some _ := he
      rw [he'] at ho; cases ho
      injection hcl with hcl
      exact absurd hcl (by decide)
    have D := Draws.tuple (prog := X.prog) (w := X.w) (A := X.A.in1) (I.ok.hd hc) it a hat its.toArray
    refine wpAny_pyNext_enum_itemD D he ⟨hit, hT⟩ hlt hne (by simp [hne, hea]) fun x1 h' tk p ho' st' hT' hsz hk => ?_
    have hux : x1 = u := by
      have : its.toArray[i]? = some x1 := p
      rw [List.getElem?_toArray, hu] at this
      exact (Option.some.inj this).symm
    subst hux
    refine ⟨_, rfl, wpAny_letOwnedTupleGo_enum (s := { s with heap := h', toks := tk + 1 }) ho' fun h'' he' sb => ?_⟩
    have hT2 : h''.get? s.heap.objs.size = some { cls := .type "tuple", data := .seq #[.int i tk, x1] } := (sb.2 _ (Nat.ne_of_gt hel)).trans hT'
    have new : ObjOk X.prog X.w (upd H s.heap.objs.size (.tup [.int (i : Nat), x])) h'' s.heap.objs.size (.tup [.int (i : Nat), x]) :=
      ⟨by show 2 ≤ sizeLine; decide, [.int i tk, x1], .cons ⟨_, rfl⟩ (.cons ru .nil), ⟨_, hT2, rfl, _, rfl⟩⟩
    have I1 : Inv X pins σ (upd H s.heap.objs.size (.tup [.int (i : Nat), x])) { s with heap := h'', toks := tk + 1 } :=
      I.turnedNew (ch := [e, it]) (fun b ob hb q => (sb.2 b (fun z => hb (by simp [z]))).trans (hk b ob (fun z => hb (by simp [z])) (fun z => hb (by simp [z])) q)) hf (Nat.le_refl _) new
    refine ⟨.ref s.heap.objs.size, _, I1, rfl, ⟨_, x, rfl, I.hok.fresh (Nat.le_refl _), rfl, fun ys hy => by rw [I.tuple_inj hy hq]; exact hx⟩, ⟨⟨x1, ?_⟩, st'.1.at fun o q => (sb.2 it (Ne.symm hne)).trans q, hne, hat⟩, fun b hb => ?_⟩
    · rw [show ((i + 1 : Nat) : Int) = (i : Int) + 1 by omega]; exact he'
    · have hb' : b < s.heap.objs.size := by
        rcases (show b = e ∨ b = it by simpa using hb) with z | z <;> (subst z; assumption)
      rw [upd_ne (Nat.ne_of_lt hb')]
      exact (hf b hb).1
  done := by
    intro X hP hw hK hc i pins s σ H E I hf st hg
    subst hP hw hK
    obtain ⟨⟨old, he⟩, hit, hne, hat⟩ := st
    obtain ⟨xs, hq, hx⟩ := hg
    obtain ⟨its, rv, ⟨o, ho, hcl, n, hd⟩, hz⟩ := I.tuple hq
    have hT : s.heap.IsTuple a its.toArray := ⟨o, ho, hcl, n, hd⟩
    obtain ⟨f0, f1, f2, f3, f4, f5⟩ := hf it (by simp)
    have hsz : its.toArray.size = i := by rw [List.size_toArray, ← rv.length, hx]
    have D := Draws.tuple (prog := X.prog) (w := X.w) (A := X.A.in1) (I.ok.hd hc) it a hat its.toArray
    exact wpAny_pyNext_enum_endD D he (by rw [hsz]; exact ⟨hit, hT⟩) fun h' eb => ⟨rfl, I.turned (t' := s.toks) (fun b o hb q => eb b o hb q) f0 f1 f3 f4 f5⟩
  self := fun A i s Q E st h => let ⟨⟨_, he⟩, _⟩ := st; wpAny_pyIter_enum he h
def iEnumT (K : PySem.W.Frag) (ta : TA) : TI := fun σ H R => ta σ H fun vs H1 => ∃ a xs, vs = [.ref a] ∧ ((SqL K H1 a xs ∧ R (Ite K a) H1) ∨ (SqT K H1 a xs ∧ R (ItT K a) H1))
theorem pi_enumT {X : Cx} {e : Expr} {ta : TA} {p pos tpos : Pos} {elts : List Expr} {kk : Nat} (hg : Gl X "enumerate") (hm : X.mg "enumerate" = none) (ha : PA X [e] ta) (hs : starEach [e] X.env = [(false, eval e X.env)] := by rfl) :
    PI X (.Tuple elts kk tpos) (.Call (.Name "enumerate" p) [e] [] pos) (iEnumT X.K ta) := by
  constructor
  intro pins s σ H R I h
  refine Call_ (ld_blt I hg hm boot_enumerate (PyProof.Rows.callWith_type1 (thn (ha.run pos pins s σ H _ I h) fun us s1 ⟨vs, H1, I1, r1, a, xs, ex, q⟩ => ?_) hs rfl))
  subst ex
  obtain ⟨u, rfl, r⟩ := vals1 r1
  cases r
  have fp : ∀ b ∈ [s1.heap.objs.size + 1, s1.heap.objs.size], FpOk X pins H1 b := fun b hb => by
    have hle : s1.heap.objs.size ≤ b := by
      rcases (show b = s1.heap.objs.size + 1 ∨ b = s1.heap.objs.size by simpa using hb) with z | z <;> omega
    exact I1.fpOk hle (I1.hok.fresh hle)
  rcases q with ⟨hq, q⟩ | ⟨hq, q⟩
  · obtain ⟨its, rv, p', hz⟩ := I1.list hq
    exact call_enumerate_list p'.isList fun h' he hit hsz hk => wpAny_pyIter_enum he
      ⟨s1.heap.objs.size + 1, [s1.heap.objs.size + 1, s1.heap.objs.size], _, _, H1, rfl, I1.kept (t' := s1.toks) hk, turn_enum a (s1.heap.objs.size + 1) s1.heap.objs.size, ⟨⟨.none, he⟩, hit, Nat.succ_ne_self _⟩, fp, q⟩
  · obtain ⟨its, rv, ⟨o, ho, hcl, n, hd⟩, hz⟩ := I1.tuple hq
    exact call_enumT ⟨o, ho, hcl, n, hd⟩ fun h' he hit hk => wpAny_pyIter_enum he
      ⟨s1.heap.objs.size + 1, [s1.heap.objs.size + 1, s1.heap.objs.size], _, _, H1, rfl, I1.kept (t' := s1.toks) hk, turn_enumT a (s1.heap.objs.size + 1) s1.heap.objs.size 0, ⟨⟨.none, he⟩, hit, Nat.succ_ne_self _, Nat.ne_of_lt (Heap.lt_size ho)⟩, fp, q⟩
/-! ### the M-function: enumerate of a list or of a tuple -/
theorem rJ_enumT {K : PySem.W.Frag} {rho : Nat → Addr} {n : Nat} {H : Hp} {xs : List MV} {vs : List V} {a : Addr} (hq : SqT K H a vs) (r : RepL K rho n H xs vs) : rJ K rho n H ⟨prI xs, []⟩ (ItT K a) := by
  intro rho' S' H' hn hr ht s hc
  have h' := ht _ _ hq
  have r' := r.mono hn hr ht
  refine ⟨⟨vs, h', by rw [r.len]; exact (prI_len xs).symm⟩, fun i z hz => ?_⟩
  obtain ⟨x, hx, rfl⟩ := prI_get hz
  obtain ⟨v, h1, h2⟩ := r'.get hx
  refine ⟨⟨vs, v, h', h1⟩, fun v2 H2 ⟨T, y, e1, e2, e3, e4⟩ => ?_⟩
  subst e1 e3
  refine pair_new s e2 rfl ?_
  have q := e4 vs h'
  rw [h1] at q
  cases q
  exact h2
def enmO2 (S : Sto) : List MV → Option Itm
  | [.ref k] => (seqO (S.g k)).map fun xs => ⟨prI xs, [(k, xs)]⟩
  | [.tup xs] => some ⟨prI xs, []⟩
  | _ => none
def enmM2 (ml : EMt (List MV)) : EMt Itm := bindM ml fun xs => fun _ S => itmV (enmO2 S xs) S
theorem mi_enum2 {X : Cx} {W : WX} {a : Expr} {ml : EMt (List MV)} {p pos tpos : Pos} {elts : List Expr} {kk : Nat} (hg : Gl X "enumerate") (hm : X.mg "enumerate" = none) (ha : PA X [a] (tA X.K W ml)) (hs : starEach [a] X.env = [(false, eval a X.env)] := by rfl) :
    PI X (.Tuple elts kk tpos) (.Call (.Name "enumerate" p) [a] [] pos) (tI X.K W (enmM2 ml)) :=
  PI.to (pi_enumT hg hm ha hs) fun sg H R h => (tG_bind (rel := rL) h).imp fun vs H1 ⟨rho, en, S, xs, s, re, r, f⟩ => by
    obtain ⟨itm, q, k⟩ := fin_itm (al := Unit) f s
    unfold enmO2 at q
    split at q
    · obtain ⟨v, h1, hk, h2⟩ := rep1 r
      rename_i j
      cases qk : seqO (S.g j) with
      | none => rw [qk] at q; cases q
      | some ys =>
        rw [qk] at q
        cases q
        obtain ⟨ws, g1, g2⟩ := seqO_at s hk qk
        exact ⟨_, ws, by rw [h1, h2], .inl ⟨g1, k _ (rJ_enum hk)⟩⟩
    · cases q
      obtain ⟨v, h1, h2⟩ := rep1 r
      obtain ⟨a, ws, g1, g2, g3⟩ := h2
      exact ⟨a, ws, by rw [h1, g1], .inr ⟨g2, k _ (rJ_enumT g2 g3)⟩⟩
    · cases q
end Mm
end

section
/-! ## M, part 13: sorted(d.keys()) of int keys -/
namespace Mm
open PySem L2 PyProof.Rows
section
variable {X : Cx}
/-- sorted of a view of the keys at p, under 64 ints -/
theorem sorted_keys {pins : List (Addr × Obj)} {s : Shared} {sg : L2.St} {H : Hp} {Q : VK} {v d : Addr} {ws : List (Key × V)} {ks : List Int} (hcalm : X.calm = true) (I : Inv X pins sg H s) (hv : PySem.W.KdlKeysView s.heap v d) (hd : H d = some (.dK ws)) (hks : ws.map (·.1) = ks.map Sum.inl) (h64 : ks.length < 64)
    (q : ∀ (ys : List Int) (p : Addr), ys.Perm ks → ys.Pairwise (· ≤ ·) → H p = none → Q (.ref p) (upd H p (.lst (ys.map V.int)))) :
    wpAny (model X.prog X.w) X.A (call (.builtin "sorted") [.ref v]) (EP X pins sg Q) X.xe s := by
  obtain ⟨_, lo, vs, rel, dd⟩ := I.hok d _ hd
  obtain ⟨ep, at_⟩ := dd.dictAt
  obtain ⟨_, rk⟩ := kv_vals rel
  have keys : vs.map (·.1) = ks.map Sum.inl := rk.symm.trans hks
  have len : vs.length = ks.length := by simpa using congrArg List.length keys
  have fits : vs.length ≤ sizeLine := by rw [len, sizeLine_eq]; omega
  apply Calls.call_function_entry PyProof.Rows.kind_sorted PyProof.Rows.plain_sorted PyProof.Rows.entry_sorted (PyProof.Rows.args_sorted1 _)
  unfold Builtin.«sorted»
  apply wpAny_bind (m := checkCount "sorted" 1 1 _)
  apply wpAny_pure
  apply wpAny_bind
  refine PySem.W.kdu_collect (A := X.A.in1) (PySem.W.kdl_keys (r := v) (d := d) (knd := mixKind X.prog X.w) (kvs := vs) (ep := ep)) (I.ok.hd hcalm) ⟨hv, at_⟩ fits fun h2 tk2 got keep had => ?_
  have glen : got.toList.length = ks.length := by rw [Array.length_toList, had.1, len]
  have allInt : IntsAre got.toList ks := ints_each glen fun j u e => by
    obtain ⟨key, x, e1, e2⟩ := had.2 j u (by rw [← Array.getElem?_toList]; exact e)
    have e3 : (ks.map (Sum.inl (β := Str)))[j]? = some key := by rw [← keys, List.getElem?_map, e1]; rfl
    rw [List.getElem?_map] at e3
    obtain ⟨y, e4, e5⟩ := Option.map_eq_some_iff.1 e3
    cases e5
    rcases keyIs_shape (show keyIs (Sum.inl y) u = true from e2) with ⟨i, t, ek, ev⟩ | ⟨_, _, ek, _⟩
    · cases ek; exact ⟨y, t, e4, ev⟩
    · cases ek
  have I2 : Inv X pins sg H { s with heap := h2, toks := tk2 } := I.kept keep
  apply wpAny_bind
  refine wpAny_newList ?_ (by rw [glen, sizeLine_eq]; omega)
  have at2 : (h2.push (seqObj "list" got.toList.toArray 0)).get? h2.objs.size = some (seqObj "list" got.toList.toArray 0) := Heap.get?_push_size _ rfl
  show wpAny _ _ _ _ _ { s with toks := tk2, heap := h2.push (seqObj "list" got.toList.toArray 0) }
  apply wpAny_bind
  apply wpAny_holding
  refine wpAny_call_entry PyProof.Rows.slot_list_sort ⟨_, at2, rfl⟩ PyProof.Rows.entry_list_sort (PyProof.Rows.list_sort_tree (s := { s with heap := h2.push (seqObj "list" got.toList.toArray 0), toks := tk2 }) at2 allInt (by rw [glen]; exact h64) fun out ys g1 g2 g3 => ⟨_, rfl, ?_⟩) (PyProof.Rows.args_list_sort _)
  obtain ⟨n2, at3⟩ := PyProof.Rows.sortedHeap_at (vs := got.toList) (out := out) at2
  have small : (ys.map V.int).length ≤ sizeLine := by
    rw [List.length_map, g2.length_eq, sizeLine_eq]; omega
  have new : ObjOk X.prog X.w (upd H h2.objs.size (.lst (ys.map V.int))) _ h2.objs.size (.lst (ys.map V.int)) := ⟨small, out.toList, n2, vals_of_ints g1, by rw [Array.toArray_toList]; exact at3⟩
  refine wpAny_pure ⟨_, rfl, .ref h2.objs.size, _, I2.laid (t' := tk2) (fun b u e => ?_) (Nat.le_refl _) new, rfl, q ys _ g2 g3 (I2.hok.fresh (Nat.le_refl _))⟩
  have lt := Heap.lt_size e
  rw [PyProof.Rows.sortedHeap_old (Nat.ne_of_lt lt) (by rw [size_push']; exact Nat.lt_succ_of_lt lt)]
  exact Heap.get?_push_of_some _ e
def tSortK (td : TE) : TE := fun sg H Q => td sg H fun x H1 => ∃ (d : Addr) (ws : List (Key × V)) (ks : List Int), x = .ref d ∧ H1 d = some (.dK ws) ∧ ws.map (·.1) = ks.map Sum.inl ∧ ks.length < 64 ∧ ∀ (ys : List Int) (p : Addr), ys.Perm ks → ys.Pairwise (· ≤ ·) → H1 p = none → Q (.ref p) (upd H1 p (.lst (ys.map V.int)))
theorem pe_sortK {e : Expr} {td : TE} {apos cpos p pos : Pos} (hc : X.calm = true) (hg : Gl X "sorted") (hm : X.mg "sorted" = none) (hv : bootBuiltins "sorted" = some (.builtin "sorted")) (he : PE X e td) (hbase : attributeBase e "keys" X.env (eval e X.env) = eval e X.env := by rfl) (hline : (apos.endLine == cpos.line) = true := by rfl)
    (hst : starEach [.Call (.Attribute e "keys" apos) [] [] cpos] X.env = (false, eval (.Call (.Attribute e "keys" apos) [] [] cpos) X.env) :: starEach [] X.env := by rfl) (hpl : (backTo pos (starEach [] X.env)).any (·.1) = false := by rfl) :
    PE X (.Call (.Name "sorted" p) [.Call (.Attribute e "keys" apos) [] [] cpos] [] pos) (tSortK td) := by
  constructor
  intro pins s sg H Q I h
  apply wpAny_Call_Name_kw
  apply ld_blt I hg hm hv _ (by decide) (by decide)
  refine PyProof.Rows.callWith_builtin1 ?_ hst hpl
  rw [hst]
  show wpAny _ _ (spliced ((false, eval (.Call (.Attribute e "keys" apos) [] [] cpos) X.env) :: backTo pos (starEach [] X.env))) _ _ s
  apply Calls.spliced_cons
  apply wpAny_Call_method (T := "dict") (id := "dict.keys") hbase rfl hline F.plainAttrs_dict F.slot_dict_keys F.type_dict_keys
  refine thn (he.run pins s sg H _ I h) ?_
  rintro u s1 ⟨x, H1, I1, rx, d, ws, ks, rfl, hd, hk, h64, q⟩
  cases (show u = Value.ref d from rx)
  obtain ⟨_, lo, vs, rel, dd⟩ := I1.hok d _ hd
  refine ⟨dd.typeIs, dd.mapOf.noDict, ?_⟩
  have view := I1.kept (h' := s1.heap.push { cls := .type "dict_keys", data := .fields #[.ref d] }) (t' := s1.toks) fun b ob z => Heap.get?_push_of_some _ z
  have fin : wpAny (model X.prog X.w) X.A (spliced (backTo pos (starEach [] X.env))) (fun vs s2 => wpAny (model X.prog X.w) X.A (call (.builtin "sorted") (.ref s1.heap.objs.size :: vs)) (EP X pins sg Q) X.xe s2) X.xe { s1 with heap := s1.heap.push { cls := .type "dict_keys", data := .fields #[.ref d] } } := by
    apply Calls.spliced_nil
    exact sorted_keys hc view ⟨_, Heap.get?_push_size _ rfl, rfl, rfl⟩ hd hk h64 q
  show wpAny _ _ (callWith cpos (.builtin "dict.keys") [.ref d] [] []) _ X.xe s1
  exact method_meetsIn F.slot_dict_keys F.entry_dict_keys rfl (PySem.evalArgs_none ⟨rfl, dd.typeIs, F.args_dict_keys_1 _, _, PySem.W.kdl_meets_keys (mixKind X.prog X.w) d lo, ⟨vs, dd⟩, fin⟩)
end
end Mm
namespace Mm
open PySem L2 PyProof.Rows
def sortI (l : List Int) : List Int := l.mergeSort
theorem sortI_eq {l ys : List Int} (h : ys.Perm l) (s : ys.Pairwise (· ≤ ·)) : ys = sortI l := by
  have h2 : (sortI l).Pairwise (· ≤ ·) := (List.pairwise_mergeSort (le := fun a b => decide (a ≤ b)) (fun a b c h1 h2 => by simp only [decide_eq_true_eq] at *; omega) (fun a b => by simp only [Bool.or_eq_true, decide_eq_true_eq]; omega) l).imp fun h => of_decide_eq_true h
  exact List.Perm.eq_of_pairwise (le := fun a b => a ≤ b) (fun a b _ _ h1 h2 => Int.le_antisymm h1 h2) s h2 (h.trans (List.mergeSort_perm l _).symm)
theorem sortI_perm (l : List Int) : (sortI l).Perm l := List.mergeSort_perm l _
def keysI : List (Key × MV) → Option (List Int)
  | [] => some []
  | (.inl i, _) :: r => (keysI r).map (i :: ·)
  | (.inr _, _) :: _ => none
theorem keysI_eq : ∀ {kvs : List (Key × MV)} {ks : List Int}, keysI kvs = some ks → kvs.map (·.1) = ks.map Sum.inl
  | [], ks, e => by cases e; rfl
  | (.inl i, x) :: r, ks, e => by
    simp only [keysI, Option.map_eq_some_iff] at e
    obtain ⟨ks', e1, rfl⟩ := e
    simp [keysI_eq e1]
  | (.inr _, _) :: _, _, e => by cases e
def sortKV (x : MV) (S : Sto) : Res MV := match x with
  | .ref k => (match S.g k with
    | .dK kvs => (match keysI kvs with
      | some ks => if ks.length < 64 then .ok (.ref S.n) (S.add (.lst ((sortI ks).map .int))) else .bad
      | none => .bad)
    | _ => .bad)
  | _ => .bad
theorem mp_sortK {X : Cx} {W : WX} {m : EM} {e : Expr} {apos cpos p pos : Pos} (hc : X.calm = true) (hg : Gl X "sorted") (hm : X.mg "sorted" = none) (hv : bootBuiltins "sorted" = some (.builtin "sorted")) (he : PE X e (tM X.K W m)) (hbase : attributeBase e "keys" X.env (eval e X.env) = eval e X.env := by rfl) (hline : (apos.endLine == cpos.line) = true := by rfl)
    (hst : starEach [.Call (.Attribute e "keys" apos) [] [] cpos] X.env = (false, eval (.Call (.Attribute e "keys" apos) [] [] cpos) X.env) :: starEach [] X.env := by rfl) (hpl : (backTo pos (starEach [] X.env)).any (·.1) = false := by rfl) :
    PE X (.Call (.Name "sorted" p) [.Call (.Attribute e "keys" apos) [] [] cpos] [] pos) (tM X.K W (op1 sortKV m)) :=
  PE.to (pe_sortK hc hg hm hv he hbase hline hst hpl) fun sg H Q h => (tG_bind (rel := rV) h).imp fun v H1 ⟨rho, en, S, x, s, re, r, f⟩ => by
    unfold sortKV at f
    split at f
    · rename_i k
      obtain ⟨hk, ek⟩ := r
      split at f
      · rename_i kvs qk
        split at f
        · rename_i ks e1
          split at f
          · rename_i h64
            obtain ⟨ws, g1, g2⟩ := dK_at s hk qk
            refine ⟨_, ws, ks, ek, g1, g2.parts.1.trans (keysI_eq e1), h64, fun ys p hp1 hp2 hp => ?_⟩
            have := sortI_eq hp1 hp2
            subst this
            exact f.lst s (repL_ints _) hp
          · exact f.elim
        · exact f.elim
      · exact f.elim
    · exact f.elim
/-! max of a list -/
def maxI : List Int → Option Int
  | [] => none
  | [a] => some a
  | a :: r => (maxI r).map fun m => if m > a then m else a
theorem maxI_uniq : ∀ {l : List Int} {m M : Int}, maxI l = some M → m ∈ l → (∀ y ∈ l, y ≤ m) → m = M
  | [], _, _, e, _, _ => by cases e
  | [a], m, M, e, h, _ => by cases e; exact List.mem_singleton.1 h
  | a :: b :: r, m, M, e, h, hm => by
    simp only [maxI, Option.map_eq_some_iff] at e
    obtain ⟨x, e1, rfl⟩ := e
    have key : x ∈ b :: r ∧ ∀ y ∈ b :: r, y ≤ x := by
      clear h hm
      have : ∀ {l : List Int} {M : Int}, maxI l = some M → M ∈ l ∧ ∀ y ∈ l, y ≤ M := by
        intro l
        induction l with
        | nil => intro M e; cases e
        | cons a l ih =>
          intro M e
          cases l with
          | nil => cases e; exact ⟨List.mem_singleton.2 rfl, fun y hy => by rw [List.mem_singleton.1 hy]; exact Int.le_refl _⟩
          | cons b r =>
            simp only [maxI, Option.map_eq_some_iff] at e
            obtain ⟨x, e1, rfl⟩ := e
            obtain ⟨h1, h2⟩ := ih e1
            split
            · exact ⟨List.mem_cons_of_mem _ h1, fun y hy => by
                rcases List.mem_cons.1 hy with rfl | hy
                · omega
                · exact h2 y hy⟩
            · exact ⟨List.mem_cons_self, fun y hy => by
                rcases List.mem_cons.1 hy with rfl | hy
                · omega
                · have := h2 y hy; omega⟩
      exact this e1
    obtain ⟨k1, k2⟩ := key
    have m1 := hm a List.mem_cons_self
    have m2 := hm x (List.mem_cons_of_mem _ k1)
    rcases List.mem_cons.1 h with rfl | h
    · split <;> omega
    · have := k2 m h
      split <;> omega
def intsOf : List MV → Option (List Int)
  | [] => some []
  | .int i :: r => (intsOf r).map (i :: ·)
  | _ :: _ => none
theorem intsOf_eq : ∀ {xs : List MV} {ks : List Int}, intsOf xs = some ks → xs = ks.map .int
  | [], ks, e => by cases e; rfl
  | x :: r, ks, e => by
    cases x with
    | int i =>
      simp only [intsOf, Option.map_eq_some_iff] at e
      obtain ⟨ks', e1, rfl⟩ := e
      rw [intsOf_eq e1]; rfl
    | _ => cases e
theorem repL_ints_eq {K : PySem.W.Frag} {rho : Nat → Addr} {n : Nat} {H : Hp} : ∀ {ns : List Int} {vs : List V}, RepL K rho n H (ns.map .int) vs → vs = ns.map V.int
  | [], vs, h => h
  | i :: ns, vs, h => by
    obtain ⟨v, r, h1, h2, h3⟩ := h
    rw [h1, show v = .int i from h2, repL_ints_eq h3]; rfl
def maxLV : List MV → Sto → Res MV
  | [.ref k], S => (match seqO (S.g k) with
    | some xs => (match intsOf xs with
      | some ns => (match maxI ns with
        | some m => .ok (.int m) S
        | none => .bad)
      | none => .bad)
    | none => .bad)
  | _, _ => .bad
theorem maxLV_ok {K : PySem.W.Frag} : SndL K (rMax K) maxLV := by
  intro rho S H xs vs Q E s rx f
  unfold maxLV at f
  split at f
  · obtain ⟨v, h1, hk, ek⟩ := rep1 rx
    split at f
    · rename_i ys qk
      split at f
      · rename_i ns e1
        split at f
        · rename_i m e2
          obtain ⟨ws, g1, g2⟩ := seqO_at s hk qk
          rw [intsOf_eq e1] at g2
          rw [repL_ints_eq g2] at g1
          refine ⟨_, ns, by rw [h1, ek], g1, ?_, fun m' hm hy => ?_⟩
          · cases ns with
            | nil => cases e2
            | cons a l => exact Nat.succ_pos _
          · rw [maxI_uniq e2 hm hy]; exact f.val s rfl
        · exact f.elim
      · exact f.elim
    · exact f.elim
  · exact f.elim
end Mm
end

section
/-! ## P, part 1: reasoning about M-functions: weakest preconditions -/
namespace Mm
open PySem L2
def Ret {al : Type} (r : Res al) (Q : al → Sto → Prop) : Prop := match r with
  | .ok x S => Q x S
  | _ => False
structure Kt where
  rt : MV → Sto → Prop
  bk : Sl → Sto → Prop := fun _ _ => False
  ct : Sl → Sto → Prop := fun _ _ => False
def RetS (r : SR) (nx : Sl → Sto → Prop) (k : Kt) : Prop := match r with
  | .nx e S => nx e S
  | .ret x S => k.rt x S
  | .brk e S => k.bk e S
  | .ct e S => k.ct e S
  | _ => False
section
variable {al be : Type} {e : Sl} {S : Sto} {x y z : MV} {m ma mb mc : EM} {ml : EMt (List MV)} {nx : Sl → Sto → Prop} {k : Kt}
theorem Ret.imp {r : Res al} {Q Q' : al → Sto → Prop} (h : Ret r Q) (i : ∀ x S, Q x S → Q' x S) : Ret r Q' := by
  cases r with
  | ok x S => exact i x S h
  | exc => exact h
  | bad => exact h
theorem Ret.eq {r : Res al} {Q : al → Sto → Prop} (h : Ret r Q) : ∃ x S, r = .ok x S ∧ Q x S := by
  cases r with
  | ok x S => exact ⟨x, S, rfl, h⟩
  | exc => exact h.elim
  | bad => exact h.elim
theorem RetS.imp {r : SR} {k k' : Kt} {nx nx' : Sl → Sto → Prop} (h : RetS r nx k) (i1 : ∀ e S, nx e S → nx' e S) (i2 : ∀ x S, k.rt x S → k'.rt x S) (i3 : ∀ e S, k.bk e S → k'.bk e S) (i4 : ∀ e S, k.ct e S → k'.ct e S) : RetS r nx' k' := by
  cases r with
  | nx e S => exact i1 _ _ h
  | ret x S => exact i2 _ _ h
  | brk e S => exact i3 _ _ h
  | ct e S => exact i4 _ _ h
  | exc => exact h
  | bad => exact h
theorem w_ok {Q : al → Sto → Prop} {x : al} (h : Q x S) : Ret (.ok x S) Q := h
theorem w_bind {m : EMt al} {f : al → EMt be} {Q : be → Sto → Prop} (h : Ret (m e S) fun x S' => Ret (f x e S') Q) : Ret (bindM m f e S) Q := by
  unfold bindM
  cases q : m e S with
  | ok x S' => rw [q] at h; exact h
  | exc => rw [q] at h; exact h
  | bad => rw [q] at h; exact h
theorem w_var {i : Nat} {Q : MV → Sto → Prop} (h : e[i]? = some (some x)) (q : Q x S) : Ret (varM i e S) Q := by unfold varM; rw [h]; exact q
theorem w_con {Q : MV → Sto → Prop} (q : Q x S) : Ret (conM x e S) Q := q
theorem w_op2 {g : MV → MV → Sto → Res MV} {Q : MV → Sto → Prop} (h : Ret (ma e S) fun x S1 => Ret (mb e S1) fun y S2 => Ret (g x y S2) Q) : Ret (op2 g ma mb e S) Q := w_bind (h.imp fun _ _ h => w_bind h)
theorem w_op1 {g : MV → Sto → Res MV} {Q : MV → Sto → Prop} (h : Ret (ma e S) fun x S1 => Ret (g x S1) Q) : Ret (op1 g ma e S) Q := w_bind h
theorem w_opL {g : List MV → Sto → Res MV} {Q : MV → Sto → Prop} (h : Ret (ml e S) fun x S1 => Ret (g x S1) Q) : Ret (opL g ml e S) Q := w_bind h
theorem w_nil {Q : List MV → Sto → Prop} (q : Q [] S) : Ret (nilM e S) Q := q
theorem w_cons {Q : List MV → Sto → Prop} (h : Ret (ma e S) fun x S1 => Ret (ml e S1) fun xs S2 => Q (x :: xs) S2) : Ret (consM ma ml e S) Q := w_bind (h.imp fun _ _ h => w_bind h)
theorem w_tupV {xs : List MV} {Q : MV → Sto → Prop} (h : xs.length ≤ sizeLine) (q : Q (.tup xs) S) : Ret (tupV xs S) Q := by unfold tupV; rw [if_pos h]; exact q
theorem w_lstV {xs : List MV} {Q : MV → Sto → Prop} (h : xs.length ≤ sizeLine) (q : Q (.ref S.n) (S.add (.lst xs))) : Ret (lstV xs S) Q := by unfold lstV; rw [if_pos h]; exact q
theorem w_dNewK {Q : MV → Sto → Prop} (q : Q (.ref S.n) (S.add (.dK []))) : Ret (dNewK e S) Q := q
theorem w_dNewT {Q : MV → Sto → Prop} (q : Q (.ref S.n) (S.add (.dT []))) : Ret (dNewT e S) Q := q
/-! operations on numbers -/
variable {i j : Int} {Q : MV → Sto → Prop}
theorem w_add (q : Q (.int (i + j)) S) : Ret (addV (.int i) (.int j) S) Q := q
theorem w_adds {a b : Str} (h : a.length + b.length ≤ sizeLine) (q : Q (.str (a ++ b)) S) : Ret (addV (.str a) (.str b) S) Q := by
  show Ret (if a.length + b.length ≤ sizeLine then _ else _) Q
  rw [if_pos h]; exact q
theorem w_addt {a b : List MV} (h : a.length + b.length ≤ sizeLine) (q : Q (.tup (a ++ b)) S) : Ret (addV (.tup a) (.tup b) S) Q := by
  show Ret (if a.length + b.length ≤ sizeLine then _ else _) Q
  rw [if_pos h]; exact q
theorem w_addl {a b : Nat} {xs ys : List MV} (ha : S.g a = .lst xs) (hb : S.g b = .lst ys) (h : xs.length + ys.length ≤ sizeLine) (q : Q (.ref S.n) (S.add (.lst (xs ++ ys)))) : Ret (addV (.ref a) (.ref b) S) Q := by
  show Ret (match S.g a, S.g b with | .lst xs, .lst ys => _ | _, _ => _) Q
  rw [ha, hb]
  show Ret (if xs.length + ys.length ≤ sizeLine then _ else _) Q
  rw [if_pos h]; exact q
theorem w_sub (q : Q (.int (i - j)) S) : Ret (subV (.int i) (.int j) S) Q := q
theorem mulOk_l (h : -(2 ^ 64) < i ∧ i < 2 ^ 64) : MulOk i j := .inl (.inl h)
theorem mulOk_r (h : -(2 ^ 64) < j ∧ j < 2 ^ 64) : MulOk i j := .inl (.inr h)
theorem w_mul (h : MulOk i j) (q : Q (.int (i * j)) S) : Ret (mulV (.int i) (.int j) S) Q := by
  unfold mulV
  simp only
  rw [if_pos h]; exact q
theorem w_div (h : 0 < j) (h2 : j.natAbs.log2 < 9000) (q : Q (.int (i / j)) S) : Ret (divV (.int i) (.int j) S) Q := by
  show Ret (if 0 < j ∧ j.natAbs.log2 < 9000 then _ else _) Q
  rw [if_pos ⟨h, h2⟩]; exact q
theorem w_mod (h : 0 < j) (q : Q (.int (i % j)) S) : Ret (modV (.int i) (.int j) S) Q := by
  show Ret (if 0 < j then _ else _) Q
  rw [if_pos h]; exact q
theorem w_pow (h : 0 ≤ j ∧ j ≤ 1000000 ∧ i.natAbs < 2 ^ 64) (q : Q (.int (i ^ j.toNat)) S) : Ret (powV (.int i) (.int j) S) Q := by
  show Ret (if 0 ≤ j ∧ j ≤ 1000000 ∧ i.natAbs < 2 ^ 64 then _ else _) Q
  rw [if_pos h]; exact q
theorem w_neg (q : Q (.int (-i)) S) : Ret (negV (.int i) S) Q := q
theorem w_lt (q : Q (.bl (decide (i < j))) S) : Ret (ltV (.int i) (.int j) S) Q := q
theorem w_le (q : Q (.bl (decide (i ≤ j))) S) : Ret (leV (.int i) (.int j) S) Q := q
theorem w_gt (q : Q (.bl (decide (j < i))) S) : Ret (gtV (.int i) (.int j) S) Q := q
theorem w_ge (q : Q (.bl (decide (j ≤ i))) S) : Ret (geV (.int i) (.int j) S) Q := q
theorem w_isN (q : Q (.bl (isNon x)) S) : Ret (isNV x .non S) Q := by cases x <;> exact q
theorem w_notN (q : Q (.bl (!isNon x)) S) : Ret (notNV x .non S) Q := by cases x <;> exact q
theorem sh_int (i : Int) : SeqAt.shaped (.int i) = true := rfl
theorem sh_str {s : Str} (h : PyData.strOk s = true) : SeqAt.shaped (.str s) = true := by simp [SeqAt.shaped, PyData.canLay0, PyData.depth, h]
theorem sh_bool (b : Bool) : SeqAt.shaped (.bool b) = true := rfl
theorem w_eqi (q : Q (.bl (decide (i = j))) S) : Ret (eqV (.int i) (.int j) S) Q := by
  have e0 : eqV (.int i) (.int j) S = .ok (.bl (PyData.eqv (.int i) (.int j))) S := by
    simp only [eqV, neV, toD, toDw]
    rw [if_pos (Or.inl ⟨sh_int i, sh_int j⟩)]
  rw [e0]
  show Q (.bl (i == j)) S
  rw [Bool.beq_eq_decide_eq]; exact q
theorem w_nei (q : Q (.bl (decide (i ≠ j))) S) : Ret (neV (.int i) (.int j) S) Q := by
  have e0 : neV (.int i) (.int j) S = .ok (.bl (!PyData.eqv (.int i) (.int j))) S := by
    simp only [eqV, neV, toD, toDw]
    rw [if_pos (Or.inl ⟨sh_int i, sh_int j⟩)]
  rw [e0]
  show Q (.bl (!(i == j))) S
  have : (!(i == j)) = decide (i ≠ j) := by by_cases h : i = j <;> simp [h]
  rw [this]; exact q
theorem w_eqs {a b : Str} (q : Q (.bl (decide (a = b))) S) : Ret (eqV (.str a) (.str b) S) Q := by
  have e0 : eqV (.str a) (.str b) S = .ok (.bl (PyData.eqv (.str a) (.str b))) S := if_pos (.inr rfl)
  rw [e0]
  show Q (.bl (a == b)) S
  have : (a == b) = decide (a = b) := by by_cases h : a = b <;> simp [h]
  rw [this]; exact q
theorem w_nes {a b : Str} (q : Q (.bl (decide (a ≠ b))) S) : Ret (neV (.str a) (.str b) S) Q := by
  have e0 : neV (.str a) (.str b) S = .ok (.bl (!PyData.eqv (.str a) (.str b))) S := if_pos (.inr rfl)
  rw [e0]
  show Q (.bl (!(a == b))) S
  have : (!(a == b)) = decide (a ≠ b) := by by_cases h : a = b <;> simp [h]
  rw [this]; exact q
/-! items -/
theorem w_idxT {xs : List MV} (h : atI xs i = some x) (q : Q x S) : Ret (idxV (.tup xs) (.int i) S) Q := by
  show Ret (optV (atI xs i) S) Q
  rw [h]; exact q
theorem w_idxL {a : Nat} {xs : List MV} (hS : S.g a = .lst xs) (h : atI xs i = some x) (q : Q x S) : Ret (idxV (.ref a) (.int i) S) Q := by
  simp only [idxV, hS, h]; exact q
theorem w_idxC {a : Nat} {xs : List MV} (hS : S.g a = .con xs) (h : atI xs i = some x) (q : Q x S) : Ret (idxV (.ref a) (.int i) S) Q := by
  simp only [idxV, hS, h]; exact q
theorem w_idxK {a : Nat} {kvs : List (Key × MV)} {key : Key} (hS : S.g a = .dK kvs) (hk : toK y = some key) (h : valM kvs key = some x) (q : Q x S) : Ret (idxV (.ref a) y S) Q := by
  simp only [idxV, hS, hk, h]; exact q
theorem atI_nn {al : Type} {xs : List al} {i : Int} {x : al} (h : 0 ≤ i) (hx : xs[i.toNat]? = some x) : atI xs i = some x := by
  obtain ⟨n, rfl⟩ := Int.eq_ofNat_of_zero_le h
  exact atI_nat (by simpa using hx)
theorem atI0 {al : Type} {x : al} {xs : List al} : atI (x :: xs) 0 = some x := atI_nn (by decide) rfl
theorem atI1 {al : Type} {x y : al} {xs : List al} : atI (x :: y :: xs) 1 = some y := atI_nn (by decide) rfl
theorem atI2 {al : Type} {x y z : al} {xs : List al} : atI (x :: y :: z :: xs) 2 = some z := atI_nn (by decide) rfl
theorem atIl {al : Type} {x : al} {xs : List al} : atI (xs ++ [x]) (-1) = some x := by
  unfold atI ixN
  rw [if_neg (by decide), if_pos (by simp; omega)]
  simp only [Option.bind_some, List.length_append, List.length_singleton]
  rw [show (-1 + ((xs.length + 1 : Nat) : Int)).toNat = xs.length by omega]
  simp
/-! len, tuple(..), list(..), int(..) .. -/
theorem w_lenT {xs : List MV} (q : Q (.int xs.length) S) : Ret (lenV [.tup xs] S) Q := q
theorem w_lenL {a : Nat} {xs : List MV} (hS : S.g a = .lst xs) (q : Q (.int xs.length) S) : Ret (lenV [.ref a] S) Q := by
  simp only [lenV, lenO, hS]; exact q
theorem w_lenC {a : Nat} {xs : List MV} (hS : S.g a = .con xs) (q : Q (.int xs.length) S) : Ret (lenV [.ref a] S) Q := by
  simp only [lenV, lenO, hS]; exact q
theorem w_lenK {a : Nat} {xs : List (Key × MV)} (hS : S.g a = .dK xs) (q : Q (.int xs.length) S) : Ret (lenV [.ref a] S) Q := by
  simp only [lenV, lenO, hS]; exact q
theorem w_lenS {a : Str} (h : a.length ≤ sizeLine) (q : Q (.int a.length) S) : Ret (lenV [.str a] S) Q := by
  simp only [lenV, lenO, if_pos h]; exact q
theorem w_int (q : Q (.int i) S) : Ret (intV [.int i] S) Q := q
theorem w_abs (q : Q (.int (if i < 0 then -i else i)) S) : Ret (absVl [.int i] S) Q := q
theorem w_min (q : Q (.int (if j < i then j else i)) S) : Ret (minVl [.int i, .int j] S) Q := q
theorem w_max (q : Q (.int (if j > i then j else i)) S) : Ret (maxVl [.int i, .int j] S) Q := q
theorem w_tupT {xs : List MV} (q : Q (.tup xs) S) : Ret (tupOf [.tup xs] S) Q := q
theorem w_tupL {a : Nat} {xs : List MV} (hS : S.g a = .lst xs) (q : Q (.tup xs) S) : Ret (tupOf [.ref a] S) Q := by
  simp only [tupOf, seqO, hS]; exact q
theorem w_lstT {xs : List MV} (q : Q (.ref S.n) (S.add (.lst xs))) : Ret (lstOf [.tup xs] S) Q := q
theorem w_lstL {a : Nat} {xs : List MV} (hS : S.g a = .lst xs) (q : Q (.ref S.n) (S.add (.lst xs))) : Ret (lstOf [.ref a] S) Q := by
  simp only [lstOf, seqO, hS]; exact q
/-! slices -/
theorem w_slc {mo : EM} {ml' mh : Option EM} (h : Ret (mo e S) fun x S1 => Ret (prtM ml' e S1) fun l S2 => Ret (prtM mh e S2) fun u S3 => Ret (cutSV x l u S3) Q) : Ret (slcM mo ml' mh e S) Q :=
  w_bind (h.imp fun _ _ h => w_bind (h.imp fun _ _ h => w_bind h))
theorem w_pno {Q : Option Int → Sto → Prop} (q : Q none S) : Ret (prtM none e S) Q := q
theorem w_pso {Q : Option Int → Sto → Prop} (h : Ret (m e S) fun x S1 => ∃ i, x = .int i ∧ Q (some i) S1) : Ret (prtM (some m) e S) Q := by
  unfold prtM
  refine w_bind (h.imp fun x S1 ⟨i, h1, h2⟩ => ?_)
  subst h1; exact h2
theorem w_cutT {xs : List MV} {l u : Option Int} (q : Q (.tup (cutM xs l u)) S) : Ret (cutSV (.tup xs) l u S) Q := q
theorem w_cutL {a : Nat} {xs : List MV} {l u : Option Int} (hS : S.g a = .lst xs) (q : Q (.ref S.n) (S.add (.lst (cutM xs l u)))) : Ret (cutSV (.ref a) l u S) Q := by
  simp only [cutSV, seqO, hS]; exact q
theorem w_revL {a : Nat} {xs : List MV} (hS : S.g a = .lst xs) (q : Q (.ref S.n) (S.add (.lst xs.reverse))) : Ret (revLV (.ref a) S) Q := by
  simp only [revLV, seqO, hS]; exact q
/-! in -/
theorem w_in {b : Bool} (h : inO x y S = some b) (q : Q (.bl b) S) : Ret (inVv x y S) Q := by unfold inVv; rw [h]; exact q
theorem w_nin {b : Bool} (h : inO x y S = some b) (q : Q (.bl (!b)) S) : Ret (notInV x y S) Q := by unfold notInV; rw [h]; exact q
theorem w_isi {n t : String} {b : Bool} (h1 : tyN x S = some n) (h2 : kitB n t = some b) (q : Q (.bl b) S) : Ret (isiV [x, .ty t] S) Q := by
  simp only [isiV, h1, h2]; exact q
/-! methods -/
theorem w_bm {T : String} {g : MV → List MV → Sto → Res MV} (h : Ret (ma e S) fun x S1 => tyOk T x S1 = true ∧ Ret (ml e S1) fun xs S2 => Ret (g x xs S2) Q) : Ret (bmM T g ma ml e S) Q :=
  w_bind (h.imp fun x S1 ⟨h1, h2⟩ => by
    show Ret (if tyOk T x S1 = true then _ else _) Q
    rw [if_pos h1]; exact w_bind h2)
theorem ty_lst {a : Nat} {xs : List MV} (hS : S.g a = .lst xs) : tyOk "list" (.ref a) S = true := by simp only [tyOk, hS]; rfl
theorem w_append {a : Nat} {xs : List MV} (hS : S.g a = .lst xs) (h : xs.length < sizeLine) (q : Q .non (S.put a (.lst (xs ++ [y])))) : Ret (appendV (.ref a) [y] S) Q := by
  simp only [appendV, hS, if_pos h]; exact q
theorem w_extend {a b : Nat} {xs ys : List MV} (hS : S.g a = .lst xs) (hb : S.g b = .lst ys) (h : xs.length + ys.length ≤ sizeLine) (q : Q .non (S.put a (.lst (xs ++ ys)))) : Ret (extendV (.ref a) [.ref b] S) Q := by
  simp only [extendV, hS, hb, if_pos h]; exact q
theorem w_pop {a : Nat} {xs : List MV} (hS : S.g a = .lst xs) (h : xs[xs.length - 1]? = some y) (q : Q y (S.put a (.lst xs.dropLast))) : Ret (popV (.ref a) [] S) Q := by
  simp only [popV, hS, h]; exact q
/-! tests -/
variable {QB : Bool → Sto → Prop} {ta tb : EMt Bool}
theorem w_tru (h : Ret (m e S) fun x S1 => Ret (truV x S1) QB) : Ret (truM m e S) QB := w_bind h
theorem w_blM (h : Ret (m e S) fun x S1 => ∃ b, x = .bl b ∧ QB b S1) : Ret (blM m e S) QB := w_bind (h.imp fun x S1 ⟨b, h1, h2⟩ => by subst h1; exact h2)
theorem w_truB {b : Bool} (q : QB b S) : Ret (truV (.bl b) S) QB := q
theorem w_truI (q : QB (i != 0) S) : Ret (truV (.int i) S) QB := q
theorem w_truN (q : QB false S) : Ret (truV .non S) QB := q
theorem w_truT {xs : List MV} (q : QB (!xs.isEmpty) S) : Ret (truV (.tup xs) S) QB := q
theorem w_truL {a : Nat} {xs : List MV} (hS : S.g a = .lst xs) (q : QB (!xs.isEmpty) S) : Ret (truV (.ref a) S) QB := by
  simp only [truV, truO, hS]; exact q
theorem w_andB (h : Ret (ta e S) fun b S1 => (b = true → Ret (tb e S1) QB) ∧ (b = false → QB false S1)) : Ret (andB ta tb e S) QB := w_bind (h.imp fun b S1 ⟨h1, h2⟩ => by
  cases b with
  | true => exact h1 rfl
  | false => exact h2 rfl)
theorem w_orB (h : Ret (ta e S) fun b S1 => (b = true → QB true S1) ∧ (b = false → Ret (tb e S1) QB)) : Ret (orB ta tb e S) QB := w_bind (h.imp fun b S1 ⟨h1, h2⟩ => by
  cases b with
  | true => exact h1 rfl
  | false => exact h2 rfl)
theorem w_notB (h : Ret (ta e S) fun b S1 => QB (!b) S1) : Ret (notB ta e S) QB := w_bind h
theorem w_ifV (h : Ret (ta e S) fun b S1 => (b = true → Ret (ma e S1) Q) ∧ (b = false → Ret (mb e S1) Q)) : Ret (ifV ta ma mb e S) Q := w_bind (h.imp fun b S1 ⟨h1, h2⟩ => by
  cases b with
  | true => exact h1 rfl
  | false => exact h2 rfl)
theorem w_andV (h : Ret (ma e S) fun x S1 => Ret (truV x S1) fun b S2 => (b = true → Ret (mb e S2) Q) ∧ (b = false → Q x S2)) : Ret (andV ma mb e S) Q := w_bind (h.imp fun x S1 h => w_bind (h.imp fun b S2 ⟨h1, h2⟩ => by
  cases b with
  | true => exact h1 rfl
  | false => exact h2 rfl))
theorem w_orV (h : Ret (ma e S) fun x S1 => Ret (truV x S1) fun b S2 => (b = true → Q x S2) ∧ (b = false → Ret (mb e S2) Q)) : Ret (orV ma mb e S) Q := w_bind (h.imp fun x S1 h => w_bind (h.imp fun b S2 ⟨h1, h2⟩ => by
  cases b with
  | true => exact h1 rfl
  | false => exact h2 rfl))
theorem w_notV (h : Ret (ma e S) fun x S1 => Ret (truV x S1) fun b S2 => Q (.bl (!b)) S2) : Ret (notV ma e S) Q := w_bind (h.imp fun x S1 h => w_bind h)
/-! ### statements -/
theorem v_use {m : EMt al} {f : al → SM} (h : Ret (m e S) fun x S1 => RetS (f x e S1) nx k) : RetS (useM m f e S) nx k := by
  unfold useM
  cases q : m e S with
  | ok x S' => rw [q] at h; exact h
  | exc => rw [q] at h; exact h.elim
  | bad => rw [q] at h; exact h
theorem v_seq {a b : SM} (h : RetS (a e S) (fun e S => RetS (b e S) nx k) k) : RetS (seqM a b e S) nx k := by
  unfold seqM
  cases q : a e S with
  | nx e' S' => rw [q] at h; exact h
  | ret => rw [q] at h; exact h
  | brk => rw [q] at h; exact h
  | ct => rw [q] at h; exact h
  | exc => rw [q] at h; exact h
  | bad => rw [q] at h; exact h
theorem v_nx (h : nx e S) : RetS (nextM e S) nx k := h
theorem v_brk (h : k.bk e S) : RetS (brkM e S) nx k := h
theorem v_ct (h : k.ct e S) : RetS (ctM e S) nx k := h
theorem v_asg {i : Nat} (h : Ret (m e S) fun x S1 => nx (e.set i (some x)) S1) : RetS (asgM (.nm i) m e S) nx k := v_use (h.imp fun _ _ h => h)
theorem v_asgP {p : Pt} (h : Ret (m e S) fun x S1 => ∃ e', asg p x e = some e' ∧ nx e' S1) : RetS (asgM p m e S) nx k := v_use (h.imp fun _ _ ⟨e', h1, h2⟩ => by
  simp only [h1]; exact h2)
theorem v_drop (h : Ret (m e S) fun _ S1 => nx e S1) : RetS (dropM' m e S) nx k := v_use (h.imp fun _ _ h => h)
theorem v_ret (h : Ret (m e S) k.rt) : RetS (retM m e S) nx k := v_use (h.imp fun _ _ h => h)
theorem v_retN (h : k.rt .non S) : RetS (retNM e S) nx k := h
theorem v_if {a b : SM} (h : Ret (ta e S) fun c S1 => (c = true → RetS (a e S1) nx k) ∧ (c = false → RetS (b e S1) nx k)) : RetS (ifM ta a b e S) nx k := v_use (h.imp fun c S1 ⟨h1, h2⟩ => by
  cases c with
  | true => exact h1 rfl
  | false => exact h2 rfl)
theorem v_aug {i : Nat} {g : MV → MV → Sto → Res MV} (h : Ret (varM i e S) fun x S0 => Ret (m e S0) fun y S1 => Ret (g x y S1) fun z S2 => nx (e.set i (some z)) S2) : RetS (augM i g m e S) nx k :=
  v_use (h.imp fun _ _ h => v_use (h.imp fun _ _ h => v_use h))
theorem v_set {g : MV → MV → MV → Sto → Option Sto} {mo mi mv : EM} (h : Ret (mv e S) fun v S1 => Ret (mo e S1) fun o S2 => Ret (mi e S2) fun i S3 => ∃ S4, g o i v S3 = some S4 ∧ nx e S4) : RetS (setM g mo mi mv e S) nx k :=
  v_use (h.imp fun _ _ h => v_use (h.imp fun _ _ h => v_use (h.imp fun _ _ ⟨S4, h1, h2⟩ => by
    simp only [h1]; exact h2)))
theorem set_lst {a : Nat} {xs : List MV} {j : Nat} {v : MV} (hS : S.g a = .lst xs) (h : ixN xs.length i = some j) : setV (.ref a) (.int i) v S = some (S.put a (.lst (xs.set j v))) := by
  simp only [setV, hS, h]; rfl
theorem set_dK {a : Nat} {kvs : List (Key × MV)} {key : Key} {v : MV} (hS : S.g a = .dK kvs) (hk : toK x = some key) (h : kvs.length < sizeLine) : setV (.ref a) x v S = some (S.put a (.dK (putM kvs key v))) := by
  simp only [setV, hS, hk, if_pos h]
/-- a loop, by what holds between its turns -/
theorem v_loop {ck : List (Nat × List MV)} {p : Pt} {b : SM} (I : Nat → Sl → Sto → Prop) : ∀ (xs : List MV) (n : Nat) (e : Sl) (S : Sto), I n e S → (∀ (i : Nat) x e S, xs[i]? = some x → I (n + i) e S → ckOk ck S ∧ ∃ e1, asg p x e = some e1 ∧ RetS (b e1 S) (I (n + i + 1)) { ct := I (n + i + 1), bk := nx, rt := k.rt }) →
    (∀ e S, I (n + xs.length) e S → ckOk ck S ∧ nx e S) → RetS (loopM ck p b xs e S) nx k
  | [], n, e, S, h0, hs, hd => by
    obtain ⟨h1, h2⟩ := hd e S (by simpa using h0)
    simp only [loopM, if_pos h1]; exact h2
  | x :: xs, n, e, S, h0, hs, hd => by
    obtain ⟨h1, e1, h2, h3⟩ := hs 0 x e S rfl (by simpa using h0)
    simp only [loopM, if_pos h1, h2]
    have go : ∀ e S, I (n + 0 + 1) e S → RetS (loopM ck p b xs e S) nx k := fun e S h => v_loop I xs (n + 1) e S (by simpa using h) (fun i x e S hx hI => by
      have := hs (i + 1) x e S (by simpa using hx) (by rw [show n + (i + 1) = n + 1 + i by omega]; exact hI)
      rw [show n + 1 + i + 1 = n + (i + 1) + 1 by omega]; exact this) fun e S h => hd e S (by rw [List.length_cons, show n + (xs.length + 1) = n + 1 + xs.length by omega]; exact h)
    cases q : b e1 S with
    | nx e' S' => rw [q] at h3; exact go e' S' h3
    | ct e' S' => rw [q] at h3; exact go e' S' h3
    | brk e' S' => rw [q] at h3; exact h3
    | ret y S' => rw [q] at h3; exact h3
    | exc ex e' S' => rw [q] at h3; exact h3.elim
    | bad => rw [q] at h3; exact h3.elim
theorem v_for {mi : EMt Itm} {p : Pt} {b : SM} (h : Ret (mi e S) fun itm S1 => RetS (loopM itm.ck p b itm.xs e S1) nx k) : RetS (forM mi p b e S) nx k := v_use h
theorem w_itm {Q : Itm → Sto → Prop} {o : Option Itm} {itm : Itm} (h : o = some itm) (q : Q itm S) : Ret (itmV o S) Q := by rw [h]; exact q
theorem w_iter {Q : Itm → Sto → Prop} (h : Ret (m e S) fun x S1 => ∃ itm, itmOf x S1 = some itm ∧ Q itm S1) : Ret (iterM m e S) Q := w_bind (h.imp fun x S1 ⟨itm, h1, h2⟩ => w_itm h1 h2)
theorem w_itmM {Q : Itm → Sto → Prop} {g : List MV → Option Itm} (h : Ret (ml e S) fun xs S1 => ∃ itm, g xs = some itm ∧ Q itm S1) : Ret (itmM g ml e S) Q := w_bind (h.imp fun x S1 ⟨itm, h1, h2⟩ => w_itm h1 h2)
theorem w_enm {Q : Itm → Sto → Prop} (h : Ret (ml e S) fun xs S1 => ∃ itm, enmO S1 xs = some itm ∧ Q itm S1) : Ret (enmM ml e S) Q := w_bind (h.imp fun x S1 ⟨itm, h1, h2⟩ => w_itm h1 h2)
theorem w_enm2 {Q : Itm → Sto → Prop} (h : Ret (ml e S) fun xs S1 => ∃ itm, enmO2 S1 xs = some itm ∧ Q itm S1) : Ret (enmM2 ml e S) Q := w_bind (h.imp fun x S1 ⟨itm, h1, h2⟩ => w_itm h1 h2)
theorem it_en2L {a : Nat} {xs : List MV} (hS : S.g a = .lst xs) : enmO2 S [.ref a] = some ⟨prI xs, [(a, xs)]⟩ := by simp only [enmO2, hS, seqO, Option.map_some]
theorem it_en2C {a : Nat} {xs : List MV} (hS : S.g a = .con xs) : enmO2 S [.ref a] = some ⟨prI xs, [(a, xs)]⟩ := by simp only [enmO2, hS, seqO, Option.map_some]
theorem w_repr {d : PyData} (h1 : rD S x = some d) (h2 : shOk d) (h3 : isRI x = true) (q : Q (.str d.shown) S) : Ret (reprV [x] S) Q := by
  simp only [reprV, h3, if_true, h1, if_pos h2]; exact q
theorem w_maxL {a : Nat} {xs : List MV} {ns : List Int} {m : Int} (hS : seqO (S.g a) = some xs) (h1 : intsOf xs = some ns) (h2 : maxI ns = some m) (q : Q (.int m) S) : Ret (maxLV [.ref a] S) Q := by
  simp only [maxLV, hS, h1, h2]; exact q
theorem w_sortK {a : Nat} {kvs : List (Key × MV)} {ks : List Int} (hS : S.g a = .dK kvs) (h1 : keysI kvs = some ks) (h2 : ks.length < 64) (q : Q (.ref S.n) (S.add (.lst ((sortI ks).map .int)))) : Ret (sortKV (.ref a) S) Q := by
  simp only [sortKV, hS, h1, if_pos h2]; exact q
theorem w_zip {Q : Itm → Sto → Prop} (h : Ret (ml e S) fun xs S1 => ∃ itm, zipO S1 xs = some itm ∧ Q itm S1) : Ret (zipM ml e S) Q := w_bind (h.imp fun x S1 ⟨itm, h1, h2⟩ => w_itm h1 h2)
theorem w_rev {Q : Itm → Sto → Prop} (h : Ret (m e S) fun x S1 => ∃ itm, revO S1 x = some itm ∧ Q itm S1) : Ret (revM m e S) Q := w_bind (h.imp fun x S1 ⟨itm, h1, h2⟩ => w_itm h1 h2)
theorem it_tup {xs : List MV} : itmOf (.tup xs) S = some ⟨xs, []⟩ := rfl
theorem it_lst {a : Nat} {xs : List MV} (hS : S.g a = .lst xs) : itmOf (.ref a) S = some ⟨xs, [(a, xs)]⟩ := by simp only [itmOf, hS]
theorem it_con {a : Nat} {xs : List MV} (hS : S.g a = .con xs) : itmOf (.ref a) S = some ⟨xs, [(a, xs)]⟩ := by simp only [itmOf, hS]
theorem it_enL {a : Nat} {xs : List MV} (hS : S.g a = .lst xs) : enmO S [.ref a] = some ⟨prI xs, [(a, xs)]⟩ := by simp only [enmO, hS]
theorem it_enC {a : Nat} {xs : List MV} (hS : S.g a = .con xs) : enmO S [.ref a] = some ⟨prI xs, [(a, xs)]⟩ := by simp only [enmO, hS]
theorem rng1 {j : Int} (h : -(2 ^ 62) ≤ j ∧ j < 2 ^ 62) : rngO1 [.int j] = some ⟨rngL 0 j.toNat, []⟩ := by simp only [rngO1]; rw [if_pos h]
theorem rng2 {i j : Int} (h : -(2 ^ 62) ≤ i ∧ i < 2 ^ 62 ∧ -(2 ^ 62) ≤ j ∧ j < 2 ^ 62) : rngO2 [.int i, .int j] = some ⟨rngL i (j - i).toNat, []⟩ := by simp only [rngO2]; rw [if_pos h]
theorem rngL_get {lo : Int} {n i : Nat} {x : MV} (h : (rngL lo n)[i]? = some x) : i < n ∧ x = .int (lo + i) := by
  simp only [rngL, List.getElem?_map, Option.map_eq_some_iff] at h
  obtain ⟨c, h1, h2⟩ := h
  obtain ⟨h3, rfl⟩ := range_get h1
  exact ⟨h3, h2.symm⟩
theorem rngL_len (lo : Int) (n : Nat) : (rngL lo n).length = n := by simp [rngL]
/-- a comprehension, by what holds between its turns -/
theorem w_lcLoop {ck : List (Nat × List MV)} {p : Pt} {tt : EMt Bool} {te : EM} {e : Sl} (I : Nat → List MV → Sto → Prop) {Q : List MV → Sto → Prop} : ∀ (xs : List MV) (n : Nat) (acc : List MV) (S : Sto), I n acc S → (∀ (i : Nat) x acc S, xs[i]? = some x → I (n + i) acc S → ckOk ck S ∧ ∃ e1, asg p x e = some e1 ∧ Ret (tt e1 S) fun b S1 => (b = true → Ret (te e1 S1) fun y S2 => acc.length < sizeLine ∧ I (n + i + 1) (acc ++ [y]) S2) ∧ (b = false → I (n + i + 1) acc S1)) →
    (∀ acc S, I (n + xs.length) acc S → ckOk ck S ∧ Q acc S) → Ret (lcLoop ck p tt te e xs acc S) Q
  | [], n, acc, S, h0, hs, hd => by
    obtain ⟨h1, h2⟩ := hd acc S (by simpa using h0)
    simp only [lcLoop, if_pos h1]; exact h2
  | x :: xs, n, acc, S, h0, hs, hd => by
    obtain ⟨h1, e1, h2, h3⟩ := hs 0 x acc S rfl (by simpa using h0)
    simp only [lcLoop, if_pos h1, h2]
    have go : ∀ acc S, I (n + 0 + 1) acc S → Ret (lcLoop ck p tt te e xs acc S) Q := fun acc S h => w_lcLoop I xs (n + 1) acc S (by simpa using h) (fun i x acc S hx hI => by
      have := hs (i + 1) x acc S (by simpa using hx) (by rw [show n + (i + 1) = n + 1 + i by omega]; exact hI)
      rw [show n + 1 + i + 1 = n + (i + 1) + 1 by omega]; exact this) fun acc S h => hd acc S (by rw [List.length_cons, show n + (xs.length + 1) = n + 1 + xs.length by omega]; exact h)
    obtain ⟨b, S1, q, h4, h5⟩ := h3.eq
    rw [q]
    cases b with
    | false => exact go acc S1 (h5 rfl)
    | true =>
      obtain ⟨y, S2, q2, h6, h7⟩ := (h4 rfl).eq
      simp only [q2, if_pos h6]
      exact go _ S2 h7
theorem v_loop0 {ck : List (Nat × List MV)} {p : Pt} {b : SM} {xs : List MV} (I : Nat → Sl → Sto → Prop) (h0 : I 0 e S) (hs : ∀ (i : Nat) x e S, xs[i]? = some x → I i e S → ckOk ck S ∧ ∃ e1, asg p x e = some e1 ∧ RetS (b e1 S) (I (i + 1)) { ct := I (i + 1), bk := nx, rt := k.rt }) (hd : ∀ e S, I xs.length e S → ckOk ck S ∧ nx e S) : RetS (loopM ck p b xs e S) nx k :=
  v_loop I xs 0 e S h0 (fun i x e S hx h => by rw [Nat.zero_add] at h ⊢; exact hs i x e S hx h) fun e S h => hd e S (by rw [Nat.zero_add] at h; exact h)
theorem w_lc0 {ck : List (Nat × List MV)} {p : Pt} {tt : EMt Bool} {te : EM} {e : Sl} {xs : List MV} {Q : List MV → Sto → Prop} (I : Nat → List MV → Sto → Prop) (h0 : I 0 [] S) (hs : ∀ (i : Nat) x acc S, xs[i]? = some x → I i acc S → ckOk ck S ∧ ∃ e1, asg p x e = some e1 ∧ Ret (tt e1 S) fun b S1 => (b = true → Ret (te e1 S1) fun y S2 => acc.length < sizeLine ∧ I (i + 1) (acc ++ [y]) S2) ∧ (b = false → I (i + 1) acc S1)) (hd : ∀ acc S, I xs.length acc S → ckOk ck S ∧ Q acc S) : Ret (lcLoop ck p tt te e xs [] S) Q :=
  w_lcLoop I xs 0 [] S h0 (fun i x acc S hx h => by rw [Nat.zero_add] at h ⊢; exact hs i x acc S hx h) fun acc S h => hd acc S (by rw [Nat.zero_add] at h; exact h)
theorem w_lc {mi : EMt Itm} {p : Pt} {tt : EMt Bool} {te : EM} {vs : List Nat} (h : Ret (mi e S) fun itm S1 => Ret (lcLoop itm.ck p tt te (wipeE e vs) itm.xs [] S1) fun acc S2 => Q (.ref S2.n) (S2.add (.lst acc))) : Ret (lcM mi p tt te vs e S) Q :=
  w_bind (h.imp fun itm S1 h => by
    obtain ⟨acc, S2, q, h2⟩ := h.eq
    simp only [q]; exact h2)
theorem w_yes {QB : Bool → Sto → Prop} (q : QB true S) : Ret (yesM e S) QB := q
/-- a while, by what holds ahead of its test and a number that falls -/
theorem v_while {t : EMt Bool} {b : SM} (I : Nat → Sl → Sto → Prop) (hs : ∀ n e S, I n e S → Ret (t e S) fun c S1 => (c = true → RetS (b e S1) (fun e' S' => ∃ n', n' < n ∧ I n' e' S') { ct := fun e' S' => ∃ n', n' < n ∧ I n' e' S', bk := nx, rt := k.rt }) ∧ (c = false → nx e S1)) : ∀ n e S, I n e S → RetS (whileM t b e S) nx k := by
  have key : ∀ n e S, I n e S → ∃ f, RetS (whileF t b f e S) nx k := by
    intro n
    induction n using Nat.strongRecOn with
    | _ n ih =>
      intro e S h
      obtain ⟨c, S1, q, h1, h2⟩ := (hs n e S h).eq
      cases c with
      | false => exact ⟨1, by simp only [whileF, q]; exact h2 rfl⟩
      | true =>
        have h3 := h1 rfl
        cases q2 : b e S1 with
        | nx e' S' =>
          rw [q2] at h3
          obtain ⟨n', hn, hI⟩ := h3
          obtain ⟨f, hf⟩ := ih n' hn e' S' hI
          exact ⟨f + 1, by simp only [whileF, q, q2]; exact hf⟩
        | ct e' S' =>
          rw [q2] at h3
          obtain ⟨n', hn, hI⟩ := h3
          obtain ⟨f, hf⟩ := ih n' hn e' S' hI
          exact ⟨f + 1, by simp only [whileF, q, q2]; exact hf⟩
        | brk e' S' => rw [q2] at h3; exact ⟨1, by simp only [whileF, q, q2]; exact h3⟩
        | ret y S' => rw [q2] at h3; exact ⟨1, by simp only [whileF, q, q2]; exact h3⟩
        | exc ex e' S' => rw [q2] at h3; exact h3.elim
        | bad => rw [q2] at h3; exact h3.elim
  intro n e S h
  obtain ⟨f, hf⟩ := key n e S h
  have hb : whileF t b f e S ≠ .bad := fun q => by rw [q] at hf; exact hf
  rw [whileM_eq hb]
  exact hf
/-- a def -/
theorem w_def {np N : Nat} {b : SM} {xs : List MV} (hl : xs.length = np) (h : RetS (b (xs.map some ++ List.replicate (N - np) none) S) (fun _ S => Q .non S) { rt := Q }) : Ret (defM np N b xs S) Q := by
  unfold defM
  rw [if_pos hl]
  cases q : b (xs.map some ++ List.replicate (N - np) none) S with
  | nx e' S' => rw [q] at h; exact h
  | ret y S' => rw [q] at h; exact h
  | brk e' S' => rw [q] at h; exact h.elim
  | ct e' S' => rw [q] at h; exact h.elim
  | exc ex e' S' => rw [q] at h; exact h.elim
  | bad => rw [q] at h; exact h.elim
/-! ### two ways -/
theorem ex_mk {al : Type} {p q : al → Prop} {x : al} (h : p x) (h2 : q x) : ∃ x, p x ∧ q x := ⟨x, h, h2⟩
theorem br_dec {p : Prop} [Decidable p] {A B : Prop} (h1 : p → A) (h2 : ¬p → B) : (decide p = true → A) ∧ (decide p = false → B) := ⟨fun h => h1 (of_decide_eq_true h), fun h => h2 (of_decide_eq_false h)⟩
theorem br_nd {p : Prop} [Decidable p] {A B : Prop} (h1 : ¬p → A) (h2 : p → B) : ((!decide p) = true → A) ∧ ((!decide p) = false → B) := by
  by_cases h : p
  · exact ⟨fun q => (by simp [h] at q), fun _ => h2 h⟩
  · exact ⟨fun _ => h1 h, fun q => (by simp [h] at q)⟩
theorem br_b {b : Bool} {A B : Prop} (h1 : b = true → A) (h2 : b = false → B) : (b = true → A) ∧ (b = false → B) := ⟨h1, h2⟩
theorem br_true {b : Bool} {A B : Prop} (hb : b = true) (h : A) : (b = true → A) ∧ (b = false → B) := ⟨fun _ => h, fun q => by rw [hb] at q; cases q⟩
theorem br_false {b : Bool} {A B : Prop} (hb : b = false) (h : B) : (b = true → A) ∧ (b = false → B) := ⟨fun q => (by rw [hb] at q; cases q), fun _ => h⟩
theorem br_t {A B : Prop} (h : A) : (true = true → A) ∧ (true = false → B) := ⟨fun _ => h, fun q => (by cases q)⟩
theorem br_f {A B : Prop} (h : B) : (false = true → A) ∧ (false = false → B) := ⟨fun q => (by cases q), fun _ => h⟩
/-- what holds at the join of a statement and the rest -/
theorem v_cut {a b : SM} (J : Sl → Sto → Prop) (h : RetS (a e S) J k) (h2 : ∀ e S, J e S → RetS (b e S) nx k) : RetS (seqM a b e S) nx k := v_seq (h.imp h2 (fun _ _ h => h) (fun _ _ h => h) (fun _ _ h => h))
theorem v_mid {r : SR} (J : Sl → Sto → Prop) (h : RetS r J k) (h2 : ∀ e S, J e S → nx e S) : RetS r nx k := h.imp h2 (fun _ _ h => h) (fun _ _ h => h) (fun _ _ h => h)
theorem v_ift {a b : SM} {B : Bool} (ht : Ret (ta e S) fun b S1 => b = B ∧ S1 = S) (h1 : B = true → RetS (a e S) nx k) (h2 : B = false → RetS (b e S) nx k) : RetS (ifM ta a b e S) nx k := v_if (ht.imp fun c S1 ⟨e1, e2⟩ => by
  subst e1 e2; exact ⟨h1, h2⟩)
/-- a test without an effect -/
def Pur (t : EMt Bool) (e : Sl) (S : Sto) (B : Bool) : Prop := Ret (t e S) fun b S1 => b = B ∧ S1 = S
theorem pur_and {A B : Bool} (h1 : Pur ta e S A) (h2 : A = true → Pur tb e S B) : Pur (andB ta tb) e S (A && B) := w_andB (h1.imp fun b S1 ⟨e1, e2⟩ => by
  subst e1 e2
  refine ⟨fun h => ?_, fun h => ?_⟩
  · subst h; exact h2 rfl
  · subst h; exact ⟨rfl, rfl⟩)
theorem pur_or {A B : Bool} (h1 : Pur ta e S A) (h2 : A = false → Pur tb e S B) : Pur (orB ta tb) e S (A || B) := w_orB (h1.imp fun b S1 ⟨e1, e2⟩ => by
  subst e1 e2
  refine ⟨fun h => ?_, fun h => ?_⟩
  · subst h; exact ⟨rfl, rfl⟩
  · subst h; exact h2 rfl)
theorem pur_not {A : Bool} (h1 : Pur ta e S A) : Pur (notB ta) e S (!A) := w_notB (h1.imp fun b S1 ⟨e1, e2⟩ => by
  subst e1 e2; exact ⟨rfl, rfl⟩)
/-! ### the store -/
theorem put_same {a : Nat} {o : MO} : (S.put a o).g a = o := by rw [Sto.put_g, if_pos rfl]
theorem put_ne {a b : Nat} {o : MO} (h : b ≠ a) : (S.put a o).g b = S.g b := by rw [Sto.put_g, if_neg h]
theorem add_same {o : MO} : (S.add o).g S.n = o := by rw [Sto.add_g, if_pos rfl]
theorem add_ne {b : Nat} {o : MO} (h : b ≠ S.n) : (S.add o).g b = S.g b := by rw [Sto.add_g, if_neg h]
end
end Mm
end

section
/-! ## H, part 1: the parts that every law brings with it -/
namespace Law
open PySem L2 Mm
noncomputable def b__law_mix : SM := (seqM (asgM (.nm 2) (op2 modV (opL intV (consM (op2 addV (op2 addV (op2 mulV (varM 0) (conM (.int 48271))) (op2 mulV (varM 1) (conM (.int 16807)))) (conM (.int 11))) nilM)) (conM (.int 2147483647))))
 (seqM (asgM (.nm 3) (op2 modV (opL intV (consM (op2 addV (op2 addV (op2 mulV (varM 2) (varM 2)) (op2 mulV (op2 divV (varM 2) (conM (.int 127))) (conM (.int 40692)))) (op2 mulV (varM 1) (conM (.int 69621)))) nilM)) (conM (.int 2147483399))))
 (retM (op2 divV (op2 modV (opL intV (consM (op2 addV (op2 divV (op2 mulV (varM 3) (varM 3)) (conM (.int 1009))) (varM 2)) nilM)) (conM (.int 2147483563))) (conM (.int 16))))))
noncomputable def m__law_mix : List MV → Sto → Res MV := defM 2 4 b__law_mix
noncomputable def b__law_hand : SM := (seqM (asgM (.nm 1) (conM (.int 0)))
 (seqM (forM (enmM2 (consM (varM 0) nilM)) (.tp [(.nm 2), (.nm 3)])
 (asgM (.nm 1) (op2 modV (opL intV (consM (op2 addV (op2 mulV (varM 1) (conM (.int 31))) (op2 mulV (opL intV (consM (varM 3) nilM)) (op2 addV (varM 2) (conM (.int 7))))) nilM)) (conM (.int 2147483629)))))
 (retM (opL lstV (consM (lcM (iterM (varM 0)) (.nm 3) yesM (opL absVl (consM (opL intV (consM (varM 3) nilM)) nilM)) [3]) (consM (conM (.int 0)) (consM (conM (.int 0)) (consM (varM 1) nilM))))))))
noncomputable def m__law_hand : List MV → Sto → Res MV := defM 1 4 b__law_hand
noncomputable def b__law_draw : SM := (seqM (ifM (andB (blM (op2 eqV (op2 idxV (varM 0) (conM (.int 2))) (conM (.int 0)))) (blM (op2 ltV (op2 idxV (varM 0) (conM (.int 1))) (opL lenV (consM (op2 idxV (varM 0) (conM (.int 0))) nilM)))))
 (seqM (asgM (.nm 2) (op2 idxV (op2 idxV (varM 0) (conM (.int 0))) (op2 idxV (varM 0) (conM (.int 1)))))
 (seqM (setM setV (varM 0) (conM (.int 1)) (op2 addV (op2 idxV (varM 0) (conM (.int 1))) (conM (.int 1))))
 (seqM (ifM (blM (op2 ltV (varM 2) (op2 powV (conM (.int 10)) (conM (.int 18)))))
 (retM (op2 modV (opL intV (consM (opL m__law_mix (consM (op2 modV (opL intV (consM (varM 2) nilM)) (conM (.int 2147483647))) (consM (op2 idxV (varM 0) (conM (.int 1))) nilM))) nilM)) (varM 1)))
 nextM)
 (setM setV (varM 0) (conM (.int 2)) (varM 2)))))
 nextM)
 (seqM (ifM (blM (op2 gtV (op2 idxV (varM 0) (conM (.int 2))) (conM (.int 0))))
 (seqM (asgM (.nm 3) (op2 idxV (varM 0) (conM (.int 2))))
 (seqM (setM setV (varM 0) (conM (.int 2)) (op2 divV (varM 3) (varM 1)))
 (retM (op2 modV (opL intV (consM (varM 3) nilM)) (varM 1)))))
 nextM)
 (seqM (setM setV (varM 0) (conM (.int 3)) (op2 modV (opL intV (consM (op2 addV (op2 idxV (varM 0) (conM (.int 3))) (conM (.int 1))) nilM)) (conM (.int 2147483629))))
 (retM (op2 modV (opL intV (consM (opL m__law_mix (consM (op2 idxV (varM 0) (conM (.int 3))) (consM (op2 idxV (varM 0) (conM (.int 1))) nilM))) nilM)) (varM 1))))))
noncomputable def m__law_draw : List MV → Sto → Res MV := defM 2 4 b__law_draw
noncomputable def b__law_pick : SM := (retM (op2 idxV (varM 1) (opL m__law_draw (consM (varM 0) (consM (opL lenV (consM (varM 1) nilM)) nilM)))))
noncomputable def m__law_pick : List MV → Sto → Res MV := defM 2 2 b__law_pick
/-! the step of the pure proofs -/
local macro_rules
  | `(tactic| walk_at "wp side") => `(tactic| first | assumption | omega | decide)
local macro_rules
  | `(tactic| walk_at "wp1") => `(tactic| with_reducible first
    | refine Mm.v_seq ?_ | refine Mm.v_nx ?_ | refine Mm.v_asg ?_ | refine Mm.v_ret ?_ | refine Mm.v_retN ?_ | refine Mm.v_drop ?_ | refine Mm.v_set ?_ | refine Mm.v_aug ?_ | refine Mm.v_for ?_ | refine Mm.v_brk ?_ | refine Mm.v_ct ?_
    | refine Mm.w_con ?_ | refine Mm.w_op2 ?_ | refine Mm.w_op1 ?_ | refine Mm.w_opL ?_ | refine Mm.w_cons ?_ | refine Mm.w_nil ?_
    | refine Mm.w_add ?_ | refine Mm.w_sub ?_ | refine Mm.w_neg ?_ | refine Mm.w_lt ?_ | refine Mm.w_le ?_ | refine Mm.w_gt ?_ | refine Mm.w_ge ?_ | refine Mm.w_eqi ?_ | refine Mm.w_nei ?_ | refine Mm.w_eqs ?_ | refine Mm.w_nes ?_ | refine Mm.w_int ?_ | refine Mm.w_abs ?_ | refine Mm.w_isN ?_ | refine Mm.w_notN ?_ | refine Mm.w_min ?_ | refine Mm.w_max ?_
    | refine Mm.w_tru ?_ | refine Mm.w_blM ?_ | refine Mm.w_andB ?_ | refine Mm.w_orB ?_ | refine Mm.w_notB ?_ | refine Mm.w_ifV ?_ | refine Mm.w_andV ?_ | refine Mm.w_orV ?_ | refine Mm.w_notV ?_ | refine Mm.w_truB ?_ | refine Mm.w_truI ?_ | refine Mm.w_truN ?_ | refine Mm.w_truT ?_
    | refine Mm.w_dNewK ?_ | refine Mm.w_dNewT ?_ | refine Mm.w_iter ?_ | refine Mm.w_itmM ?_ | refine Mm.w_enm ?_ | refine Mm.w_enm2 ?_ | refine Mm.w_zip ?_ | refine Mm.w_rev ?_ | refine Mm.w_bm ?_ | refine Mm.w_lc ?_ | refine Mm.w_yes ?_ | refine Mm.br_t ?_ | refine Mm.br_f ?_ | refine Mm.w_slc ?_ | refine Mm.w_pno ?_ | refine Mm.w_pso ?_ | refine Mm.w_lenT ?_ | refine Mm.w_tupT ?_ | refine Mm.w_lstT ?_ | refine Mm.w_cutT ?_)
local macro_rules
  | `(tactic| walk_at "sto") => `(tactic| first
    | with_reducible assumption
    | with_reducible exact Mm.put_same
    | with_reducible exact Mm.add_same
    | (with_reducible refine (Mm.put_ne (by first | assumption | exact Ne.symm (by assumption) | ((try dsimp only [Mm.Sto.add, Mm.Sto.put]); omega))).trans ?_; walk_at "sto")
    | (with_reducible refine (Mm.add_ne (by first | assumption | exact Ne.symm (by assumption) | ((try dsimp only [Mm.Sto.add, Mm.Sto.put]); omega))).trans ?_; walk_at "sto")
    | fail)
local macro_rules
  | `(tactic| walk_at "wp2") => `(tactic| first
    | ((with_reducible apply Mm.w_var); · rfl)
    | ((with_reducible apply Mm.ex_mk); · with_reducible refine Mm.rng1 (by (try simp only [List.length_map]); omega))
    | ((with_reducible apply Mm.ex_mk); · with_reducible refine Mm.rng2 (by (try simp only [List.length_map]); omega))
    | ((with_reducible apply Mm.ex_mk); · rfl)
    | ((with_reducible refine Mm.br_true ?_ ?_); · rfl)
    | ((with_reducible refine Mm.br_false ?_ ?_); · rfl)
    | ((with_reducible refine Mm.w_mod ?_ ?_); · walk_at "wp side")
    | ((with_reducible refine Mm.w_div ?_ ?_ ?_); (· walk_at "wp side"); (· (first | decide | assumption)))
    | ((with_reducible refine Mm.w_mul ?_ ?_); · exact .inl (.inr (by decide)))
    | ((with_reducible refine Mm.w_mul ?_ ?_); · exact .inl (.inl (by decide)))
    | ((with_reducible refine Mm.w_mul ?_ ?_); · exact .inl (.inl (by omega)))
    | ((with_reducible refine Mm.w_mul ?_ ?_); · exact .inl (.inr (by omega)))
    | ((with_reducible refine Mm.w_pow ?_ ?_); · decide)
    | ((with_reducible refine Mm.w_lstV ?_ ?_); · (simp only [List.length_cons, List.length_nil]; decide))
    | ((with_reducible refine Mm.w_tupV ?_ ?_); · (simp only [List.length_cons, List.length_nil]; decide))
    | ((with_reducible apply Mm.w_idxL); (· walk_at "sto"); (· first | exact Mm.atI0 | exact Mm.atI1 | exact Mm.atI2 | exact Mm.atIl | rfl))
    | ((with_reducible apply Mm.w_idxC); (· walk_at "sto"); (· rfl))
    | ((with_reducible apply Mm.w_idxT); · first | exact Mm.atI0 | exact Mm.atI1 | exact Mm.atI2 | rfl)
    | ((with_reducible apply Mm.w_lenL); · walk_at "sto")
    | ((with_reducible apply Mm.w_lenC); · walk_at "sto")
    | ((with_reducible apply Mm.w_lenK); · walk_at "sto")
    | ((with_reducible apply Mm.w_tupL); · walk_at "sto")
    | ((with_reducible apply Mm.w_lstL); · walk_at "sto")
    | ((with_reducible apply Mm.w_cutL); · walk_at "sto")
    | ((with_reducible apply Mm.w_revL); · walk_at "sto")
    | ((with_reducible apply Mm.w_truL); · walk_at "sto")
    | ((with_reducible apply Mm.ex_mk); · exact Mm.it_lst (by walk_at "sto"))
    | ((with_reducible apply Mm.ex_mk); · exact Mm.it_con (by walk_at "sto"))
    | ((with_reducible apply Mm.ex_mk); · exact Mm.it_en2L (by walk_at "sto"))
    | ((with_reducible apply Mm.ex_mk); · exact Mm.it_en2C (by walk_at "sto"))
    | ((with_reducible apply Mm.ex_mk); · exact Mm.set_lst (by walk_at "sto") rfl)
    | ((with_reducible refine And.intro ?_ ?_); · exact Mm.ty_lst (by walk_at "sto"))
    | fail)
local macro_rules
  | `(tactic| walk_at "wq") => `(tactic| repeat' (first | (walk_at "wp1"; try dsimp only [List.set_cons_zero, List.set_cons_succ, Bool.not_true, Bool.not_false]) | (walk_at "wp2"; try dsimp only [Bool.not_true, Bool.not_false]) | fail))
local macro_rules
  | `(tactic| walk_at "wp") => `(tactic| repeat' (first | (with_reducible refine Mm.v_if ?_) | (walk_at "wp1"; try dsimp only [List.set_cons_zero, List.set_cons_succ, Bool.not_true, Bool.not_false]) | (walk_at "wp2"; try dsimp only [Bool.not_true, Bool.not_false]) | fail))
local macro_rules
  | `(tactic| walk_at "def") => `(tactic| (refine Mm.w_def rfl ?_; simp only [List.map_cons, List.map_nil, List.cons_append, List.nil_append, List.replicate, Nat.reduceSub, List.replicate_succ, List.replicate_zero]))
theorem mix_ok {i j : Int} {S : Sto} : Ret (m__law_mix [.int i, .int j] S) fun x S' => (∃ r : Int, 0 ≤ r ∧ x = .int r) ∧ S' = S := by
  unfold m__law_mix
  walk_at "def"
  unfold b__law_mix
  walk_at "wp"
  refine ⟨⟨_, ?_, rfl⟩, rfl⟩
  omega
/-- the hand: its list at h, the cells at c -/
structure Hand (S : Sto) (h c : Nat) (cells : List Int) (turn rest seed : Int) : Prop where
  at_h : S.g h = .lst [.ref c, .int turn, .int rest, .int seed]
  at_c : S.g c = .lst (cells.map .int)
  ne : c ≠ h
  lt : h < S.n
  ltc : c < S.n
  turn0 : 0 ≤ turn
  turn1 : turn ≤ cells.length
  rest0 : 0 ≤ rest
  pos : ∀ z ∈ cells, 0 ≤ z
/-- a hand, whatever it holds -/
def Hd (S : Sto) (h c : Nat) : Prop := ∃ cells turn rest seed, Hand S h c cells turn rest seed
/-- nothing but k has changed -/
def But (k : Nat) (S S' : Sto) : Prop := S'.n = S.n ∧ ∀ j, j ≠ k → S'.g j = S.g j
theorem But.trans {k : Nat} {S S' S'' : Sto} (h : But k S S') (h' : But k S' S'') : But k S S'' := ⟨h'.1.trans h.1, fun j hj => (h'.2 j hj).trans (h.2 j hj)⟩
theorem But.put {k : Nat} {S : Sto} {o : MO} : But k S (S.put k o) := ⟨rfl, fun _ hj => put_ne hj⟩
theorem Hand.put {S : Sto} {h c : Nat} {cells : List Int} {turn rest seed turn' rest' seed' : Int} (H : Hand S h c cells turn rest seed) (h0 : 0 ≤ turn') (h1 : turn' ≤ cells.length) (h2 : 0 ≤ rest') : Hand (S.put h (.lst [.ref c, .int turn', .int rest', .int seed'])) h c cells turn' rest' seed' :=
  ⟨put_same, (put_ne H.ne).trans H.at_c, H.ne, H.lt, H.ltc, h0, h1, h2, H.pos⟩
theorem atI_map {xs : List Int} {i : Int} (h0 : 0 ≤ i) (h1 : i < xs.length) : ∃ z ∈ xs, atI (xs.map MV.int) i = some (.int z) := by
  obtain ⟨n, rfl⟩ := Int.eq_ofNat_of_zero_le h0
  have hn : n < xs.length := by omega
  exact ⟨xs[n], List.getElem_mem hn, atI_nat (by simp [List.getElem?_map, List.getElem?_eq_getElem hn])⟩
theorem draw_ok {S : Sto} {h c : Nat} {many : Int} (H : Hd S h c) (h0 : 0 < many) (h1 : many.natAbs.log2 < 9000) : Ret (m__law_draw [.ref h, .int many] S) fun x S' => (∃ r : Int, 0 ≤ r ∧ r < many ∧ x = .int r) ∧ Hd S' h c ∧ But h S S' := by
  obtain ⟨cells, turn, rest, seed, H⟩ := H
  have hh := H.at_h
  have hc := H.at_c
  have hne := H.ne
  have t0 := H.turn0
  unfold m__law_draw
  walk_at "def"
  unfold b__law_draw
  refine v_cut (fun e S' => e[0]? = some (some (.ref h)) ∧ e[1]? = some (some (.int many)) ∧ e.length = 4 ∧ ∃ turn rest, Hand S' h c cells turn rest seed ∧ But h S S') ?_ ?_
  · walk_at "wp"
    refine br_dec (fun hr => ?_) (fun hr => ?_)
    · walk_at "wp"
      refine br_dec (fun hr => ?_) (fun hr => ?_)
      · rw [List.length_map] at hr
        obtain ⟨z, hz, hat⟩ := atI_map t0 hr
        have z0 := H.pos z hz
        walk_at "wp"
        refine w_idxL hc hat ?_
        walk_at "wp"
        refine br_dec (fun hr => ?_) (fun hr => ?_)
        · walk_at "wp"
          refine mix_ok.imp fun x S' hx => ?_
          obtain ⟨⟨r, h2, rfl⟩, rfl⟩ := hx
          walk_at "wp"
          refine ⟨⟨_, Int.emod_nonneg _ (by omega), Int.emod_lt_of_pos _ h0, rfl⟩, ⟨cells, _, _, _, H.put (by omega) (by omega) H.rest0⟩, But.put⟩
        · walk_at "wp"
          refine ⟨rfl, rfl, rfl, _, _, (H.put (turn' := turn + 1) (by omega) (by omega) H.rest0).put (by omega) (by omega) z0, But.put.trans But.put⟩
      · walk_at "wp"
        exact ⟨rfl, rfl, rfl, _, _, H, rfl, fun _ _ => rfl⟩
    · walk_at "wp"
      exact ⟨rfl, rfl, rfl, _, _, H, rfl, fun _ _ => rfl⟩
  · rintro e S1 ⟨e0, e1, el, turn, rest, H1, B1⟩
    obtain ⟨a0, a1, a2, a3, rfl⟩ : ∃ a0 a1 a2 a3, e = [a0, a1, a2, a3] := by
      match e, el with
      | [a0, a1, a2, a3], _ => exact ⟨_, _, _, _, rfl⟩
    have hh := H1.at_h
    have hc := H1.at_c
    have hne := H1.ne
    have r0 := H1.rest0
    cases e0
    cases e1
    walk_at "wp"
    refine br_dec (fun hr => ?_) (fun hr => ?_)
    · walk_at "wp"
      exact ⟨⟨_, Int.emod_nonneg _ (by omega), Int.emod_lt_of_pos _ h0, rfl⟩, ⟨_, _, _, _, H1.put H1.turn0 H1.turn1 (Int.ediv_nonneg r0 (by omega))⟩, B1.trans But.put⟩
    · walk_at "wp"
      refine mix_ok.imp fun x S' hx => ?_
      obtain ⟨⟨r, h2, rfl⟩, rfl⟩ := hx
      walk_at "wp"
      exact ⟨⟨_, Int.emod_nonneg _ (by omega), Int.emod_lt_of_pos _ h0, rfl⟩, ⟨_, _, _, _, H1.put H1.turn0 H1.turn1 r0⟩, B1.trans But.put⟩
/-- the head of the law: the hand at 2, its cells at 1 -/
theorem hand_ok {ns : List Int} (hl : ns.length ≤ 63) : Ret (m__law_hand [.ref 0] (S0 ns)) fun x S' => x = .ref 2 ∧ Hd S' 2 1 ∧ S'.n = 3 := by
  unfold m__law_hand
  walk_at "def"
  unfold b__law_hand
  have g0 : (S0 ns).g 0 = .con (ns.map .int) := rfl
  walk_at "wp"
  refine v_loop (fun i e S => S = S0 ns ∧ ∃ t a b, e = [some (.ref 0), some (.int t), a, b]) _ 0 _ _ ⟨rfl, _, _, _, rfl⟩ ?_ ?_
  · rintro i x e S hx ⟨rfl, t, a, b, rfl⟩
    obtain ⟨y, hy, rfl⟩ := prI_get hx
    obtain ⟨z, hz, rfl⟩ : ∃ z, ns[i]? = some z ∧ y = .int z := by
      rw [List.getElem?_map] at hy
      obtain ⟨z, h1, h2⟩ := Option.map_eq_some_iff.1 hy
      exact ⟨z, h1, h2.symm⟩
    have hi : i < ns.length := by
      obtain ⟨h, _⟩ := List.getElem?_eq_some_iff.1 hz
      exact h
    refine ⟨by simp [g0, seqO], _, rfl, ?_⟩
    walk_at "wp"
    exact ⟨rfl, _, _, _, rfl⟩
  · rintro e S ⟨rfl, t, a, b, rfl⟩
    refine ⟨by simp [g0, seqO], ?_⟩
    walk_at "wp"
    refine w_lcLoop (fun i acc S => S = S0 ns ∧ ∃ zs : List Int, zs.length = i ∧ acc = zs.map .int ∧ ∀ z ∈ zs, 0 ≤ z) _ 0 _ _ ⟨rfl, [], rfl, rfl, by simp⟩ ?_ ?_
    · rintro i x acc S hx ⟨rfl, zs, hzl, rfl, hz⟩
      obtain ⟨z, h1, rfl⟩ : ∃ z, ns[i]? = some z ∧ x = .int z := by
        rw [List.getElem?_map] at hx
        obtain ⟨z, h1, h2⟩ := Option.map_eq_some_iff.1 hx
        exact ⟨z, h1, h2.symm⟩
      have hi : i < ns.length := by
        obtain ⟨h, _⟩ := List.getElem?_eq_some_iff.1 h1
        exact h
      refine ⟨by simp [g0, seqO], _, rfl, ?_⟩
      walk_at "wp"
      refine ⟨?_, rfl, zs ++ [if z < 0 then -z else z], ?_, ?_, ?_⟩
      · rw [List.length_map, hzl]
        have : (64 : Nat) ≤ sizeLine := by decide
        omega
      · simp [hzl]; 
      · simp
      · intro w hw
        rcases List.mem_append.1 hw with h | h
        · exact hz w h
        · rw [List.mem_singleton.1 h]; split <;> omega
    · rintro acc S ⟨rfl, zs, hzl, rfl, hz⟩
      refine ⟨by simp [g0, seqO], ?_⟩
      walk_at "wp"
      refine ⟨rfl, ⟨zs, 0, 0, t, ⟨rfl, rfl, by decide, by show 2 < 3; decide, by show 1 < 3; decide, by decide, by omega, by decide, hz⟩⟩, rfl⟩
end Law
end

section
/-! ## H, part 2: data, dicts, the draws once more -/
open PySem L2
/-! the step of the pure proofs -/
local macro_rules
  | `(tactic| walk_at "wp side") => `(tactic| first | assumption | omega | decide)
local macro_rules
  | `(tactic| walk_at "wp1") => `(tactic| with_reducible first
    | refine Mm.v_seq ?_ | refine Mm.v_nx ?_ | refine Mm.v_asg ?_ | refine Mm.v_ret ?_ | refine Mm.v_retN ?_ | refine Mm.v_drop ?_ | refine Mm.v_set ?_ | refine Mm.v_aug ?_ | refine Mm.v_for ?_ | refine Mm.v_brk ?_ | refine Mm.v_ct ?_
    | refine Mm.w_con ?_ | refine Mm.w_op2 ?_ | refine Mm.w_op1 ?_ | refine Mm.w_opL ?_ | refine Mm.w_cons ?_ | refine Mm.w_nil ?_
    | refine Mm.w_add ?_ | refine Mm.w_sub ?_ | refine Mm.w_neg ?_ | refine Mm.w_lt ?_ | refine Mm.w_le ?_ | refine Mm.w_gt ?_ | refine Mm.w_ge ?_ | refine Mm.w_eqi ?_ | refine Mm.w_nei ?_ | refine Mm.w_eqs ?_ | refine Mm.w_nes ?_ | refine Mm.w_int ?_ | refine Mm.w_abs ?_ | refine Mm.w_isN ?_ | refine Mm.w_notN ?_ | refine Mm.w_min ?_ | refine Mm.w_max ?_
    | refine Mm.w_tru ?_ | refine Mm.w_blM ?_ | refine Mm.w_andB ?_ | refine Mm.w_orB ?_ | refine Mm.w_notB ?_ | refine Mm.w_ifV ?_ | refine Mm.w_andV ?_ | refine Mm.w_orV ?_ | refine Mm.w_notV ?_ | refine Mm.w_truB ?_ | refine Mm.w_truI ?_ | refine Mm.w_truN ?_ | refine Mm.w_truT ?_
    | refine Mm.w_dNewK ?_ | refine Mm.w_dNewT ?_ | refine Mm.w_iter ?_ | refine Mm.w_itmM ?_ | refine Mm.w_enm ?_ | refine Mm.w_enm2 ?_ | refine Mm.w_zip ?_ | refine Mm.w_rev ?_ | refine Mm.w_bm ?_ | refine Mm.w_lc ?_ | refine Mm.w_yes ?_ | refine Mm.br_t ?_ | refine Mm.br_f ?_ | refine Mm.w_slc ?_ | refine Mm.w_pno ?_ | refine Mm.w_pso ?_ | refine Mm.w_lenT ?_ | refine Mm.w_tupT ?_ | refine Mm.w_lstT ?_ | refine Mm.w_cutT ?_)
local macro_rules
  | `(tactic| walk_at "sto") => `(tactic| first
    | with_reducible assumption
    | with_reducible exact Mm.put_same
    | with_reducible exact Mm.add_same
    | (with_reducible refine (Mm.put_ne (by first | assumption | exact Ne.symm (by assumption) | ((try dsimp only [Mm.Sto.add, Mm.Sto.put]); omega))).trans ?_; walk_at "sto")
    | (with_reducible refine (Mm.add_ne (by first | assumption | exact Ne.symm (by assumption) | ((try dsimp only [Mm.Sto.add, Mm.Sto.put]); omega))).trans ?_; walk_at "sto")
    | fail)
local macro_rules
  | `(tactic| walk_at "wp2") => `(tactic| first
    | ((with_reducible apply Mm.w_var); · rfl)
    | ((with_reducible apply Mm.ex_mk); · with_reducible refine Mm.rng1 (by (try simp only [List.length_map]); omega))
    | ((with_reducible apply Mm.ex_mk); · with_reducible refine Mm.rng2 (by (try simp only [List.length_map]); omega))
    | ((with_reducible apply Mm.ex_mk); · rfl)
    | ((with_reducible refine Mm.br_true ?_ ?_); · rfl)
    | ((with_reducible refine Mm.br_false ?_ ?_); · rfl)
    | ((with_reducible refine Mm.w_mod ?_ ?_); · walk_at "wp side")
    | ((with_reducible refine Mm.w_div ?_ ?_ ?_); (· walk_at "wp side"); (· (first | decide | assumption)))
    | ((with_reducible refine Mm.w_mul ?_ ?_); · exact .inl (.inr (by decide)))
    | ((with_reducible refine Mm.w_mul ?_ ?_); · exact .inl (.inl (by decide)))
    | ((with_reducible refine Mm.w_mul ?_ ?_); · exact .inl (.inl (by omega)))
    | ((with_reducible refine Mm.w_mul ?_ ?_); · exact .inl (.inr (by omega)))
    | ((with_reducible refine Mm.w_pow ?_ ?_); · decide)
    | ((with_reducible refine Mm.w_lstV ?_ ?_); · (simp only [List.length_cons, List.length_nil]; decide))
    | ((with_reducible refine Mm.w_tupV ?_ ?_); · (simp only [List.length_cons, List.length_nil]; decide))
    | ((with_reducible apply Mm.w_idxL); (· walk_at "sto"); (· first | exact Mm.atI0 | exact Mm.atI1 | exact Mm.atI2 | exact Mm.atIl | rfl))
    | ((with_reducible apply Mm.w_idxC); (· walk_at "sto"); (· rfl))
    | ((with_reducible apply Mm.w_idxT); · first | exact Mm.atI0 | exact Mm.atI1 | exact Mm.atI2 | rfl)
    | ((with_reducible apply Mm.w_lenL); · walk_at "sto")
    | ((with_reducible apply Mm.w_lenC); · walk_at "sto")
    | ((with_reducible apply Mm.w_lenK); · walk_at "sto")
    | ((with_reducible apply Mm.w_tupL); · walk_at "sto")
    | ((with_reducible apply Mm.w_lstL); · walk_at "sto")
    | ((with_reducible apply Mm.w_cutL); · walk_at "sto")
    | ((with_reducible apply Mm.w_revL); · walk_at "sto")
    | ((with_reducible apply Mm.w_truL); · walk_at "sto")
    | ((with_reducible apply Mm.ex_mk); · exact Mm.it_lst (by walk_at "sto"))
    | ((with_reducible apply Mm.ex_mk); · exact Mm.it_con (by walk_at "sto"))
    | ((with_reducible apply Mm.ex_mk); · exact Mm.it_en2L (by walk_at "sto"))
    | ((with_reducible apply Mm.ex_mk); · exact Mm.it_en2C (by walk_at "sto"))
    | ((with_reducible apply Mm.ex_mk); · exact Mm.set_lst (by walk_at "sto") rfl)
    | ((with_reducible refine And.intro ?_ ?_); · exact Mm.ty_lst (by walk_at "sto"))
    | fail)
local macro_rules
  | `(tactic| walk_at "wq") => `(tactic| repeat' (first | (walk_at "wp1"; try dsimp only [List.set_cons_zero, List.set_cons_succ, Bool.not_true, Bool.not_false]) | (walk_at "wp2"; try dsimp only [Bool.not_true, Bool.not_false]) | fail))
local macro_rules
  | `(tactic| walk_at "wp") => `(tactic| repeat' (first | (with_reducible refine Mm.v_if ?_) | (walk_at "wp1"; try dsimp only [List.set_cons_zero, List.set_cons_succ, Bool.not_true, Bool.not_false]) | (walk_at "wp2"; try dsimp only [Bool.not_true, Bool.not_false]) | fail))
local macro_rules
  | `(tactic| walk_at "def") => `(tactic| (refine Mm.w_def rfl ?_; simp only [List.map_cons, List.map_nil, List.cons_append, List.nil_append, List.replicate, Nat.reduceSub, List.replicate_succ, List.replicate_zero]))
namespace Mm
/-! data that are compared -/
section
variable {S : Sto} {x y : MV} {d d' : PyData} {xs : List MV} {ds : List PyData} {n k : Nat}
def Fl (x : MV) (d : PyData) : Prop := ∀ f, toDw f x = some d
def FlL (xs : List MV) (ds : List PyData) : Prop := ∀ f, toDwL f xs = some ds
theorem fl_int {i : Int} : Fl (.int i) (.int i) := fun _ => rfl
theorem fl_bl {i : Bool} : Fl (.bl i) (.bool i) := fun _ => rfl
theorem fl_str {i : Str} : Fl (.str i) (.str i) := fun _ => rfl
theorem fl_non : Fl .non .none := fun _ => rfl
theorem fl_tup (h : FlL xs ds) : Fl (.tup xs) (.tuple ds) := fun f => by simp only [toDw, h f, Option.map_some]
theorem fll_nil : FlL [] [] := fun _ => rfl
theorem fll_cons (h : Fl x d) (hs : FlL xs ds) : FlL (x :: xs) (d :: ds) := fun f => by simp only [toDwL, h f, hs f]
theorem fll_map {al : Type} {f : al → MV} {g : al → PyData} : ∀ l : List al, (∀ a ∈ l, Fl (f a) (g a)) → FlL (l.map f) (l.map g)
  | [], _ => fll_nil
  | a :: l, h => fll_cons (h a (List.mem_cons_self)) (fll_map l fun b hb => h b (List.mem_cons_of_mem _ hb))
theorem fll_app {ys : List MV} {es : List PyData} : ∀ {xs : List MV} {ds : List PyData}, FlL xs ds → FlL ys es → FlL (xs ++ ys) (ds ++ es)
  | [], ds, h, h2 => by cases (h (fun _ => none)); exact h2
  | x :: xs, ds, h, h2 => by
    have key : ∃ d ds', ds = d :: ds' ∧ Fl x d ∧ FlL xs ds' := by
      cases q : ds with
      | nil => have := h (fun _ => none); simp only [toDwL, q] at this; split at this <;> cases this
      | cons d ds' =>
        refine ⟨d, ds', rfl, fun f => ?_, fun f => ?_⟩
        · have := h f
          simp only [toDwL, q] at this
          split at this
          · simp_all
          · cases this
        · have := h f
          simp only [toDwL, q] at this
          split at this
          · simp_all
          · cases this
    obtain ⟨d, ds', rfl, h3, h4⟩ := key
    exact fll_cons h3 (fll_app h4 h2)
theorem fll_ints (l : List Int) : FlL (l.map .int) (l.map .int) := fll_map l fun _ _ => fl_int
theorem toD_fl (h : Fl x d) : toD S x = some d := h _
theorem toD_lst (hS : S.g k = .lst xs) (h : FlL xs ds) : toD S (.ref k) = some (.list ds) := by
  simp only [toD, toDw, look, hS, seqO, h _, Option.map_some]
theorem toD_con (hS : S.g k = .con xs) (h : FlL xs ds) : toD S (.ref k) = some (.list ds) := by
  simp only [toD, toDw, look, hS, seqO, h _, Option.map_some]
def ShD (n : Nat) (d : PyData) : Prop := d.canLay0 = true ∧ d.depth ≤ n
def ShL (n : Nat) (ds : List PyData) : Prop := PyData.canLayAll0 ds = true ∧ PyData.depthAll ds ≤ n
theorem shd_int {i : Int} : ShD n (.int i) := ⟨rfl, Nat.zero_le _⟩
theorem shd_bl {i : Bool} : ShD n (.bool i) := ⟨rfl, Nat.zero_le _⟩
theorem shd_non : ShD n .none := ⟨rfl, Nat.zero_le _⟩
theorem shd_str {s : Str} (h : PyData.strOk s = true) : ShD n (.str s) := ⟨by simp [PyData.canLay0, h], Nat.zero_le _⟩
theorem shd_tup (h : ShL n ds) : ShD (n + 1) (.tuple ds) := ⟨by simpa [PyData.canLay0] using h.1, by simpa [PyData.depth] using h.2⟩
theorem shd_lst (h : ShL n ds) : ShD (n + 1) (.list ds) := ⟨by simpa [PyData.canLay0] using h.1, by simpa [PyData.depth] using h.2⟩
theorem shl_nil : ShL n [] := ⟨rfl, Nat.zero_le _⟩
theorem shl_cons (h : ShD n d) (hs : ShL n ds) : ShL n (d :: ds) := ⟨by simp [PyData.canLayAll0, h.1, hs.1], by simp only [PyData.depthAll]; exact Nat.max_le.2 ⟨h.2, hs.2⟩⟩
theorem shl_map {al : Type} {g : al → PyData} : ∀ l : List al, (∀ a ∈ l, ShD n (g a)) → ShL n (l.map g)
  | [], _ => shl_nil
  | a :: l, h => shl_cons (h a (List.mem_cons_self)) (shl_map l fun b hb => h b (List.mem_cons_of_mem _ hb))
theorem shl_ints (l : List Int) : ShL n (l.map .int) := shl_map l fun _ _ => shd_int
theorem sh_of (h : ShD n d) (hn : n ≤ 64 := by decide) : SeqAt.shaped d = true := by
  simp only [SeqAt.shaped, h.1, Bool.true_and, decide_eq_true_eq]
  exact Nat.le_trans h.2 hn
variable {Q : MV → Sto → Prop}
theorem w_neA (h1 : toD S x = some d) (h2 : toD S y = some d') (s1 : SeqAt.shaped d = true) (s2 : SeqAt.shaped d' = true) (q : Q (.bl (!PyData.eqv d d')) S) : Ret (neV x y S) Q := by
  unfold neV; simp only [h1, h2, s1, s2, and_self, true_or, if_true]; exact q
theorem w_eqA (h1 : toD S x = some d) (h2 : toD S y = some d') (s1 : SeqAt.shaped d = true) (s2 : SeqAt.shaped d' = true) (q : Q (.bl (PyData.eqv d d')) S) : Ret (eqV x y S) Q := by
  unfold eqV; simp only [h1, h2, s1, s2, and_self, true_or, if_true]; exact q
theorem eqv_sh (s : SeqAt.shaped d = true) : PyData.eqv d d = true := SeqAt.eqv_refl d (by simp only [SeqAt.shaped, Bool.and_eq_true] at s; exact s.1)
theorem w_neS (h1 : toD S x = some d) (h2 : toD S y = some d) (s : SeqAt.shaped d = true) (q : Q (.bl false) S) : Ret (neV x y S) Q := w_neA h1 h2 s s (by rw [eqv_sh s]; exact q)
theorem w_eqS (h1 : toD S x = some d) (h2 : toD S y = some d) (s : SeqAt.shaped d = true) (q : Q (.bl true) S) : Ret (eqV x y S) Q := w_eqA h1 h2 s s (by rw [eqv_sh s]; exact q)
end
/-! dicts -/
section
variable {ka : Type} [DecidableEq ka]
theorem valM_put (kvs : List (ka × MV)) (k k' : ka) (v : MV) : valM (putM kvs k v) k' = if k' = k then some v else valM kvs k' := by
  induction kvs with
  | nil =>
    by_cases h : k' = k
    · subst h; simp [putM, valM]
    · have : ¬k = k' := fun e => h e.symm
      simp [putM, valM, h, this]
  | cons p kvs ih =>
    unfold putM at ih ⊢
    by_cases hp : p.1 = k
    · by_cases h : k' = k
      · subst h; simp [valM, hp]
      · have h2 : ¬k = k' := fun e => h e.symm
        have e1 : ∀ l : List (ka × MV), ((l.map fun kv => if kv.1 = k then (kv.1, v) else kv).find? fun kv => decide (kv.1 = k')).map (·.2) = (l.find? fun kv => decide (kv.1 = k')).map (·.2) := by
          intro l
          induction l with
          | nil => rfl
          | cons q l ih =>
            rw [List.map_cons, List.find?_cons, List.find?_cons]
            by_cases hq : q.1 = k
            · have : ¬q.1 = k' := fun e => h2 (hq.symm.trans e)
              simp only [hq, if_true, h2, decide_false]; exact ih
            · simp only [hq, if_false]
              by_cases hq' : q.1 = k'
              · simp [hq']
              · simp only [hq', decide_false]; exact ih
        simp only [List.any_cons, hp, decide_true, Bool.true_or, if_true, if_neg h]
        exact e1 (p :: kvs)
    · simp only [List.any_cons, hp, decide_false, Bool.false_or] at ih ⊢
      by_cases ha : (kvs.any fun kv => decide (kv.1 = k)) = true
      · simp only [ha, if_true] at ih ⊢
        simp only [List.map_cons, hp, if_false]
        unfold valM at ih ⊢
        rw [List.find?_cons, List.find?_cons]
        by_cases hq' : p.1 = k'
        · have : ¬k' = k := fun e => hp (hq'.trans e)
          simp [hq', this]
        · simp only [hq', decide_false]; exact ih
      · simp only [ha] at ih ⊢
        unfold valM at ih ⊢
        simp only [Bool.false_eq_true, if_false] at ih ⊢
        rw [List.cons_append, List.find?_cons, List.find?_cons]
        by_cases hq' : p.1 = k'
        · have : ¬k' = k := fun e => hp (hq'.trans e)
          simp [hq', this]
        · simp only [hq', decide_false]; exact ih
theorem putM_len (kvs : List (ka × MV)) (k : ka) (v : MV) : (putM kvs k v).length ≤ kvs.length + 1 := by
  unfold putM; split <;> simp
end
/-- whatever stood ahead of n has not changed -/
def Ext (S S' : Sto) : Prop := S.n ≤ S'.n ∧ ∀ j, j < S.n → S'.g j = S.g j
theorem Ext.refl {S : Sto} : Ext S S := ⟨Nat.le_refl _, fun _ _ => rfl⟩
theorem Ext.trans {S S' S'' : Sto} (h : Ext S S') (h' : Ext S' S'') : Ext S S'' := ⟨Nat.le_trans h.1 h'.1, fun j hj => (h'.2 j (Nat.lt_of_lt_of_le hj h.1)).trans (h.2 j hj)⟩
theorem Ext.add {S S' : Sto} {o : MO} (h : Ext S S') : Ext S (S'.add o) := ⟨Nat.le_succ_of_le h.1, fun j hj => (add_ne (Nat.ne_of_lt (Nat.lt_of_lt_of_le hj h.1))).trans (h.2 j hj)⟩
theorem Ext.put {S S' : Sto} {o : MO} {k : Nat} (h : Ext S S') (hk : S.n ≤ k) : Ext S (S'.put k o) := ⟨h.1, fun j hj => (put_ne (Nat.ne_of_lt (Nat.lt_of_lt_of_le hj hk))).trans (h.2 j hj)⟩
theorem atI_mem {al : Type} {xs : List al} {i : Int} (h0 : 0 ≤ i) (h1 : i < xs.length) : ∃ x ∈ xs, xs[i.toNat]? = some x ∧ atI xs i = some x := by
  obtain ⟨n, rfl⟩ := Int.eq_ofNat_of_zero_le h0
  have hn : n < xs.length := by omega
  exact ⟨xs[n], List.getElem_mem hn, by simp [List.getElem?_eq_getElem hn], atI_nat (List.getElem?_eq_getElem hn)⟩
theorem cutM_to {al : Type} {xs : List al} {c : Int} (h : 0 ≤ c) : cutM xs none (some c) = xs.take c.toNat := by
  obtain ⟨n, rfl⟩ := Int.eq_ofNat_of_zero_le h
  unfold cutM
  rw [HT.sIx_none, HT.sIx_nat, List.drop_zero, Nat.sub_zero, Int.toNat_natCast]
  rcases Nat.le_total n xs.length with h | h
  · rw [Nat.min_eq_left h]
  · rw [Nat.min_eq_right h, List.take_length, List.take_of_length_le h]
theorem cutM_from {al : Type} {xs : List al} {c : Int} (h : 0 ≤ c) : cutM xs (some c) none = xs.drop c.toNat := by
  obtain ⟨n, rfl⟩ := Int.eq_ofNat_of_zero_le h
  unfold cutM
  rw [HT.sIx_none, HT.sIx_nat, Int.toNat_natCast]
  rcases Nat.le_total n xs.length with h | h
  · rw [Nat.min_eq_left h, List.take_of_length_le (by simp)]
  · rw [Nat.min_eq_right h, List.drop_length, List.drop_of_length_le h, List.take_nil]
theorem cutM_mid {al : Type} {xs : List al} {a b : Int} (h : 0 ≤ a) (h2 : 0 ≤ b) : cutM xs (some a) (some b) = (xs.drop a.toNat).take (b.toNat - a.toNat) := by
  obtain ⟨n, rfl⟩ := Int.eq_ofNat_of_zero_le h
  obtain ⟨m, rfl⟩ := Int.eq_ofNat_of_zero_le h2
  unfold cutM
  rw [HT.sIx_nat, HT.sIx_nat, Int.toNat_natCast, Int.toNat_natCast]
  rcases Nat.le_total n xs.length with h | h
  · rw [Nat.min_eq_left h]
    rcases Nat.le_total m xs.length with h' | h'
    · rw [Nat.min_eq_left h']
    · rw [Nat.min_eq_right h', List.take_of_length_le (by simp), List.take_of_length_le (by simp; omega)]
  · rw [Nat.min_eq_right h, List.drop_length, List.drop_of_length_le h, List.take_nil, List.take_nil]
theorem get_map {al be : Type} {f : al → be} {l : List al} {i : Nat} {x : be} (h : (l.map f)[i]? = some x) : ∃ b, l[i]? = some b ∧ x = f b ∧ b ∈ l := by
  rw [List.getElem?_map] at h
  obtain ⟨b, h1, h2⟩ := Option.map_eq_some_iff.1 h
  exact ⟨b, h1, h2.symm, List.mem_of_getElem? h1⟩
theorem take_snoc {al : Type} {l : List al} {i : Nat} {b : al} (h : l[i]? = some b) : l.take (i + 1) = l.take i ++ [b] := by
  rw [List.take_add_one, h]; rfl
theorem ck_l {a : Nat} {xs : List MV} {S : Sto} (h : S.g a = .lst xs) : ckOk [(a, xs)] S := by simp [h, seqO]
theorem ck_c {a : Nat} {xs : List MV} {S : Sto} (h : S.g a = .con xs) : ckOk [(a, xs)] S := by simp [h, seqO]
theorem ck_n {S : Sto} : ckOk [] S := by simp
end Mm
namespace Law
open PySem L2 Mm
theorem Hd.ext {S S' : Sto} {h c : Nat} (H : Hd S h c) (E : Ext S S') : Hd S' h c := by
  obtain ⟨cells, turn, rest, seed, H⟩ := H
  exact ⟨cells, turn, rest, seed, ⟨(E.2 _ H.lt).trans H.at_h, (E.2 _ H.ltc).trans H.at_c, H.ne, Nat.lt_of_lt_of_le H.lt E.1, Nat.lt_of_lt_of_le H.ltc E.1, H.turn0, H.turn1, H.rest0, H.pos⟩⟩
theorem Hd.put {S : Sto} {h c k : Nat} {o : MO} (H : Hd S h c) (h1 : k ≠ h) (h2 : k ≠ c) : Hd (S.put k o) h c := by
  obtain ⟨cells, turn, rest, seed, H⟩ := H
  exact ⟨cells, turn, rest, seed, ⟨(put_ne (Ne.symm h1)).trans H.at_h, (put_ne (Ne.symm h2)).trans H.at_c, H.ne, H.lt, H.ltc, H.turn0, H.turn1, H.rest0, H.pos⟩⟩
theorem Hd.add {S : Sto} {h c : Nat} {o : MO} (H : Hd S h c) : Hd (S.add o) h c := H.ext (Ext.refl.add)
theorem log_ok {m : Int} (h0 : 0 < m) (h1 : m < 2 ^ 62) : m.natAbs.log2 < 9000 :=
  Nat.lt_trans ((Nat.log2_lt (by omega)).2 (show m.natAbs < 2 ^ 62 by omega)) (by decide)
theorem draw {S : Sto} {h c : Nat} {many : Int} (H : Hd S h c) (h0 : 0 < many) (h1 : many < 2 ^ 62) : Ret (m__law_draw [.ref h, .int many] S) fun x S' => (∃ r : Int, 0 ≤ r ∧ r < many ∧ x = .int r) ∧ Hd S' h c ∧ But h S S' := draw_ok H h0 (log_ok h0 h1)
theorem pickT {S : Sto} {h c : Nat} {xs : List MV} (H : Hd S h c) (h0 : 0 < xs.length) (h1 : (xs.length : Int) < 2 ^ 62) : Ret (m__law_pick [.ref h, .tup xs] S) fun x S' => x ∈ xs ∧ Hd S' h c ∧ But h S S' := by
  unfold m__law_pick
  walk_at "def"
  unfold b__law_pick
  walk_at "wp"
  refine (draw H (by omega) h1).imp ?_
  rintro _ S1 ⟨⟨r, r0, r1, rfl⟩, H1, B1⟩
  obtain ⟨x, hx, _, hat⟩ := atI_mem (xs := xs) r0 r1
  exact w_idxT hat ⟨hx, H1, B1⟩
theorem pickL {S : Sto} {h c l : Nat} {xs : List MV} (H : Hd S h c) (hl : S.g l = .lst xs) (hn : l ≠ h) (h0 : 0 < xs.length) (h1 : (xs.length : Int) < 2 ^ 62) : Ret (m__law_pick [.ref h, .ref l] S) fun x S' => x ∈ xs ∧ Hd S' h c ∧ But h S S' := by
  unfold m__law_pick
  walk_at "def"
  unfold b__law_pick
  walk_at "wp"
  refine (draw H (by omega) h1).imp ?_
  rintro _ S1 ⟨⟨r, r0, r1, rfl⟩, H1, B1⟩
  obtain ⟨x, hx, _, hat⟩ := atI_mem (xs := xs) r0 r1
  exact w_idxL ((B1.2 _ hn).trans hl) hat ⟨hx, H1, B1⟩
end Law
end

section
/-! ## H, part 3: how long a repr is -/
open PySem L2
namespace Mm
/-! ### how long a repr is -/
def Smd (D c : Nat) (d : PyData) : Prop := d.showable = true ∧ d.depth ≤ D ∧ d.shown.length ≤ c
theorem Smd.mono {D c D' c' : Nat} {d : PyData} (h : Smd D c d) (hD : D ≤ D' := by decide) (hc : c ≤ c' := by decide) : Smd D' c' d := ⟨h.1, Nat.le_trans h.2.1 hD, Nat.le_trans h.2.2 hc⟩
theorem Smd.ok {D c : Nat} {d : PyData} (h : Smd D c d) (hD : D ≤ 60 := by decide) (hc : c ≤ sizeLine := by decide) : shOk d := ⟨h.1, Nat.le_trans h.2.1 hD, Nat.le_trans h.2.2 hc⟩
theorem sm_int {i : Int} (h : i.natAbs < 10 ^ 18) : Smd 0 19 (.int i) := by
  refine ⟨?_, Nat.le_refl _, by show (Str.ofString (toString i)).length ≤ 19; rw [ofString_length]; exact int_text_length_le10 (k := 18) (by decide) h⟩
  simp only [PyData.showable, decide_eq_true_eq]
  by_cases z : i.natAbs = 0
  · rw [z]; decide
  · exact Nat.lt_trans ((Nat.log2_lt z).2 (Nat.lt_of_lt_of_le h (show 10 ^ 18 ≤ 2 ^ 100 by decide))) (by decide)
theorem sm_str {s : Str} {m : Nat} (h : PyData.strOk s = true) (hl : s.length ≤ m) : Smd 0 (10 * m + 2) (.str s) := by
  refine ⟨rfl, Nat.le_refl _, ?_⟩
  have := StrLaws.reprText_len s (fun c hc => by
    have h' : s.cps.all (· < 0x110000) = true := h
    have := Array.all_eq_true'.1 h' c (by simpa using hc)
    simp only [decide_eq_true_eq] at this
    exact Nat.lt_trans this (by decide))
  show (reprText s).length ≤ _
  omega
def piledLe : ∀ (ts : List Str) (c : Nat), (∀ t ∈ ts, t.length ≤ c) → piled ts ≤ ts.length * (c + 2)
  | [], c, _ => by simp [piled]
  | t :: ts, c, h => by
    have h1 := h t List.mem_cons_self
    have h2 := piledLe ts c fun t ht => h t (List.mem_cons_of_mem _ ht)
    simp only [piled, List.map_cons, List.sum_cons, List.length_cons, Nat.add_mul] at *
    omega
theorem sm_all {D c : Nat} : ∀ {ds : List PyData}, (∀ d ∈ ds, Smd D c d) → PyData.showableAll ds = true ∧ PyData.depthAll ds ≤ D ∧ ∀ t ∈ PyData.shownAll ds, t.length ≤ c
  | [], _ => ⟨rfl, Nat.zero_le _, fun t h => by cases h⟩
  | d :: ds, h => by
    obtain ⟨h1, h2, h3⟩ := h d List.mem_cons_self
    obtain ⟨g1, g2, g3⟩ := sm_all fun d hd => h d (List.mem_cons_of_mem _ hd)
    refine ⟨by simp [PyData.showableAll, h1, g1], by simp only [PyData.depthAll]; exact Nat.max_le.2 ⟨h2, g2⟩, fun t ht => ?_⟩
    simp only [PyData.shownAll, List.mem_cons] at ht
    rcases ht with rfl | ht
    · exact h3
    · exact g3 t ht
theorem shownAll_len : ∀ ds : List PyData, (PyData.shownAll ds).length = ds.length
  | [] => rfl
  | d :: ds => by simp [PyData.shownAll, shownAll_len ds]
theorem join_le {ts : List Str} {c : Nat} (h : ∀ t ∈ ts, t.length ≤ c) : (Str.join ", " ts).length ≤ ts.length * (c + 2) := by
  by_cases z : ts = []
  · subst z; exact Nat.zero_le _
  · have h1 := join_length_add ts z
    have h2 := piledLe ts c h
    omega
theorem sm_tup {D c n : Nat} {ds : List PyData} (h : ∀ d ∈ ds, Smd D c d) (hn : ds.length ≤ n) : Smd (D + 1) (n * (c + 2) + 3) (.tuple ds) := by
  obtain ⟨h1, h2, h3⟩ := sm_all h
  refine ⟨by simpa [PyData.showable] using h1, by simp only [PyData.depth]; omega, ?_⟩
  have e : (tupleText (PyData.shownAll ds)).length ≤ 1 + (Str.join ", " (PyData.shownAll ds)).length + 2 := by
    unfold tupleText
    rw [strLen_append, strLen_append]
    have : (((if (PyData.shownAll ds).length == 1 then ",)" else ")" : String) : Str)).length ≤ 2 := by split <;> decide
    have e1 : (("(" : Str)).length = 1 := rfl
    omega
  have j := join_le h3
  rw [shownAll_len] at j
  have m : ds.length * (c + 2) ≤ n * (c + 2) := Nat.mul_le_mul_right _ hn
  show (tupleText (PyData.shownAll ds)).length ≤ _
  omega
theorem sm_kv {D c k : Nat} : ∀ {kvs : List (PyData × PyData)}, (∀ p ∈ kvs, Smd D k p.1 ∧ Smd D c p.2) → PyData.showableKv kvs = true ∧ PyData.depthKv kvs ≤ D ∧ (∀ t ∈ PyData.shownKv kvs, t.length ≤ k + 2 + c) ∧ (PyData.shownKv kvs).length = kvs.length
  | [], _ => ⟨rfl, Nat.zero_le _, fun t h => (by cases h), rfl⟩
  | (a, b) :: kvs, h => by
    obtain ⟨⟨h1, h2, h3⟩, h4, h5, h6⟩ := h (a, b) List.mem_cons_self
    obtain ⟨g1, g2, g3, g4⟩ := sm_kv fun d hd => h d (List.mem_cons_of_mem _ hd)
    refine ⟨by simp [PyData.showableKv, h1, h4, g1], by simp only [PyData.depthKv]; exact Nat.max_le.2 ⟨Nat.max_le.2 ⟨h2, h5⟩, g2⟩, fun t ht => ?_, by simp [PyData.shownKv, g4]⟩
    simp only [PyData.shownKv, List.mem_cons] at ht
    rcases ht with rfl | ht
    · rw [strLen_append, strLen_append]
      have e1 : ((": " : Str)).length = 2 := rfl
      simp only at h3 h6
      omega
    · exact g3 t ht
theorem sm_dict {D c k n : Nat} {kvs : List (PyData × PyData)} (h : ∀ p ∈ kvs, Smd D k p.1 ∧ Smd D c p.2) (hn : kvs.length ≤ n) : Smd (D + 1) (n * (k + 2 + c + 2) + 2) (.dict kvs) := by
  obtain ⟨h1, h2, h3, h4⟩ := sm_kv h
  refine ⟨by simpa [PyData.showable] using h1, by simp only [PyData.depth]; omega, ?_⟩
  have e : (dictText (PyData.shownKv kvs)).length = 1 + (Str.join ", " (PyData.shownKv kvs)).length + 1 := by
    unfold dictText
    rw [strLen_append, strLen_append]; rfl
  have j := join_le h3
  rw [h4] at j
  have m : kvs.length * (k + 2 + c + 2) ≤ n * (k + 2 + c + 2) := Nat.mul_le_mul_right _ hn
  show (dictText (PyData.shownKv kvs)).length ≤ _
  omega
/-- all that stood ahead of n, but for h, has not changed -/
def ExtH (h : Nat) (S S' : Sto) : Prop := S.n ≤ S'.n ∧ ∀ j, j < S.n → j ≠ h → S'.g j = S.g j
theorem ExtH.refl {h : Nat} {S : Sto} : ExtH h S S := ⟨Nat.le_refl _, fun _ _ _ => rfl⟩
theorem ExtH.trans {h : Nat} {S S' S'' : Sto} (a : ExtH h S S') (b : ExtH h S' S'') : ExtH h S S'' := ⟨Nat.le_trans a.1 b.1, fun j hj hh => (b.2 j (Nat.lt_of_lt_of_le hj a.1) hh).trans (a.2 j hj hh)⟩
theorem Ext.h {h : Nat} {S S' : Sto} (a : Ext S S') : ExtH h S S' := ⟨a.1, fun j hj _ => a.2 j hj⟩
theorem ExtH.add {h : Nat} {S S' : Sto} {o : MO} (a : ExtH h S S') : ExtH h S (S'.add o) := a.trans (Ext.refl.add).h
theorem ExtH.put {h k : Nat} {S S' : Sto} {o : MO} (a : ExtH h S S') (hk : S.n ≤ k) : ExtH h S (S'.put k o) := ⟨a.1, fun j hj hh => (put_ne (Nat.ne_of_lt (Nat.lt_of_lt_of_le hj hk))).trans (a.2 j hj hh)⟩
end Mm
namespace Law
open PySem L2 Mm
theorem But.h {h : Nat} {S S' : Sto} (a : But h S S') : ExtH h S S' := ⟨Nat.le_of_eq a.1.symm, fun j _ hh => a.2 j hh⟩
end Law
end

section
/-! ### the M-functions, printed by gen.py -/
namespace Law
open PySem L2 Mm

noncomputable def b_winds_of : SM := (retM (opL tupOf (consM (lcM (enmM2 (consM (varM 0) nilM)) (.tp [(.nm 2), (.nm 3)]) (blM (op2 eqV (op2 idxV (op2 idxV (varM 1) (varM 3)) (conM (.int 0))) (conM (.str "wind")))) (opL tupV (consM (varM 2) (consM (varM 3) nilM))) [2, 3]) nilM)))
noncomputable def m_winds_of : List MV → Sto → Res MV := defM 2 4 b_winds_of
noncomputable def b_mark_cut : SM := (seqM (forM (itmM rngO3 (consM (op2 subV (opL lenV (consM (varM 0) nilM)) (conM (.int 1))) (consM (op1 negV (conM (.int 1))) (consM (op1 negV (conM (.int 1))) nilM)))) (.nm 2)
 (ifM (blM (op2 eqV (op2 idxV (op2 idxV (varM 1) (op2 idxV (varM 0) (varM 2))) (conM (.int 0))) (conM (.str "mark"))))
 (retM (op2 addV (varM 2) (conM (.int 1))))
 nextM))
 (retM (conM (.int 0))))
noncomputable def m_mark_cut : List MV → Sto → Res MV := defM 2 3 b_mark_cut
noncomputable def b_last_wind : SM := (seqM (forM (itmM rngO3 (consM (op2 subV (opL lenV (consM (varM 0) nilM)) (conM (.int 1))) (consM (op2 subV (varM 1) (conM (.int 1))) (consM (op1 negV (conM (.int 1))) nilM)))) (.nm 3)
 (ifM (blM (op2 eqV (op2 idxV (op2 idxV (varM 2) (op2 idxV (varM 0) (varM 3))) (conM (.int 0))) (conM (.str "wind"))))
 (retM (varM 3))
 nextM))
 (retM (op1 negV (conM (.int 1)))))
noncomputable def m_last_wind : List MV → Sto → Res MV := defM 3 4 b_last_wind
noncomputable def b_lay_on : SM := (seqM (forM (enmM2 (consM (varM 1) nilM)) (.tp [(.nm 3), (.nm 4)])
 (ifM (blM (op2 eqV (op2 idxV (op2 idxV (varM 2) (varM 4)) (conM (.int 0))) (conM (.str "wind"))))
 (retM (opL tupV (consM (conM (.str "enter")) (consM (op2 idxV (op2 idxV (varM 2) (varM 4)) (conM (.int 1))) (consM (op2 addV (varM 0) (slcM (varM 1) none (some (varM 3)))) (consM (opL tupV (consM (conM (.str "on")) (consM (slcM (varM 1) (some (varM 3)) none) nilM))) nilM))))))
 nextM))
 (retM (opL tupV (consM (conM (.str "arrive")) (consM (conM .non) (consM (op2 addV (varM 0) (varM 1)) (consM (conM .non) nilM)))))))
noncomputable def m_lay_on : List MV → Sto → Res MV := defM 3 5 b_lay_on
noncomputable def b__law_winds_of : SM := (retM (lcM (itmM rngO1 (consM (opL lenV (consM (varM 0) nilM)) nilM)) (.nm 2) (blM (op2 eqV (op2 idxV (op2 idxV (varM 1) (op2 idxV (varM 0) (varM 2))) (conM (.int 0))) (conM (.str "wind")))) (opL tupV (consM (varM 2) (consM (op2 idxV (varM 0) (varM 2)) nilM))) [2]))
noncomputable def m__law_winds_of : List MV → Sto → Res MV := defM 2 3 b__law_winds_of
noncomputable def b_shared_winds : SM := (seqM (asgM (.nm 3) (conM (.int 0)))
 (seqM (forM (zipM (consM (opL m_winds_of (consM (varM 0) (consM (varM 2) nilM))) (consM (opL m_winds_of (consM (varM 1) (consM (varM 2) nilM))) nilM))) (.tp [(.tp [(.nm 4), (.nm 5)]), (.tp [(.nm 6), (.nm 7)])])
 (seqM (ifM (blM (op2 neV (varM 5) (varM 7)))
 brkM
 nextM)
 (asgM (.nm 3) (op2 addV (varM 3) (conM (.int 1))))))
 (retM (varM 3))))
noncomputable def m_shared_winds : List MV → Sto → Res MV := defM 3 8 b_shared_winds
noncomputable def b_take_off : SM := (seqM (asgM (.nm 2) (opL m_mark_cut (consM (varM 0) (consM (varM 1) nilM))))
 (seqM (asgM (.nm 3) (opL m_last_wind (consM (varM 0) (consM (varM 2) (consM (varM 1) nilM)))))
 (seqM (ifM (blM (op2 ltV (varM 3) (conM (.int 0))))
 (retM (opL tupV (consM (conM (.str "arrive")) (consM (conM .non) (consM (slcM (varM 0) none (some (varM 2))) (consM (conM .non) nilM))))))
 nextM)
 (retM (opL tupV (consM (conM (.str "leave")) (consM (op2 idxV (op2 idxV (varM 1) (op2 idxV (varM 0) (varM 3))) (conM (.int 2))) (consM (slcM (varM 0) none (some (varM 3))) (consM (opL tupV (consM (conM (.str "off")) nilM)) nilM)))))))))
noncomputable def m_take_off : List MV → Sto → Res MV := defM 2 4 b_take_off
noncomputable def b__law_off_steps : SM := (seqM (asgM (.nm 2) (opL maxLV (consM (op2 addV (opL lstV (consM (conM (.int 0)) nilM)) (lcM (enmM2 (consM (varM 0) nilM)) (.tp [(.nm 5), (.nm 6)]) (blM (op2 eqV (op2 idxV (op2 idxV (varM 1) (varM 6)) (conM (.int 0))) (conM (.str "mark")))) (op2 addV (varM 5) (conM (.int 1))) [5, 6])) nilM)))
 (seqM (asgM (.nm 3) (op1 revLV (lcM (iterM (opL m__law_winds_of (consM (varM 0) (consM (varM 1) nilM)))) (.tp [(.nm 5), (.nm 6)]) (blM (op2 geV (varM 5) (varM 2))) (opL tupV (consM (varM 5) (consM (varM 6) nilM))) [5, 6])))
 (seqM (asgM (.nm 4) (lcM (iterM (varM 3)) (.tp [(.nm 5), (.nm 6)]) yesM (opL tupV (consM (conM (.str "leave")) (consM (op2 addV (conM (.int 2000)) (varM 6)) (consM (slcM (varM 0) none (some (varM 5))) (consM (opL tupV (consM (conM (.str "off")) nilM)) nilM))))) [5, 6]))
 (retM (op2 addV (varM 4) (opL lstV (consM (opL tupV (consM (conM (.str "arrive")) (consM (conM .non) (consM (slcM (varM 0) none (some (varM 2))) (consM (conM .non) nilM))))) nilM)))))))
noncomputable def m__law_off_steps : List MV → Sto → Res MV := defM 2 7 b__law_off_steps
noncomputable def b__law_on_steps : SM := (seqM (asgM (.nm 3) (opL m__law_winds_of (consM (varM 1) (consM (varM 2) nilM))))
 (seqM (asgM (.nm 4) (lcM (iterM (varM 3)) (.tp [(.nm 5), (.nm 6)]) yesM (opL tupV (consM (conM (.str "enter")) (consM (op2 addV (conM (.int 1000)) (varM 6)) (consM (op2 addV (varM 0) (slcM (varM 1) none (some (varM 5)))) (consM (opL tupV (consM (conM (.str "on")) (consM (slcM (varM 1) (some (varM 5)) none) nilM))) nilM))))) [5, 6]))
 (retM (op2 addV (varM 4) (opL lstV (consM (opL tupV (consM (conM (.str "arrive")) (consM (conM .non) (consM (op2 addV (varM 0) (varM 1)) (consM (conM .non) nilM))))) nilM))))))
noncomputable def m__law_on_steps : List MV → Sto → Res MV := defM 3 7 b__law_on_steps
noncomputable def b_deeds_of_way : SM := (seqM (asgM (.nm 3) (opL m_shared_winds (consM (varM 0) (consM (varM 1) (consM (varM 2) nilM)))))
 (seqM (asgM (.nm 4) (lcM (revM (slcM (opL m_winds_of (consM (varM 0) (consM (varM 2) nilM))) (some (varM 3)) none)) (.tp [(.nm 5), (.nm 6)]) yesM (opL tupV (consM (conM (.str "leave")) (consM (varM 5) (consM (varM 6) nilM)))) [5, 6]))
 (retM (opL tupOf (consM (op2 addV (varM 4) (lcM (iterM (slcM (opL m_winds_of (consM (varM 1) (consM (varM 2) nilM))) (some (varM 3)) none)) (.tp [(.nm 5), (.nm 6)]) yesM (opL tupV (consM (conM (.str "enter")) (consM (varM 5) (consM (varM 6) nilM)))) [5, 6])) nilM)))))
noncomputable def m_deeds_of_way : List MV → Sto → Res MV := defM 3 7 b_deeds_of_way
noncomputable def b_go_to : SM := (seqM (asgM (.nm 4) (varM 0))
 (seqM (ifM (blM (op2 gtV (varM 2) (conM (.int 0))))
 (asgM (.nm 4) (slcM (varM 1) none (some (op2 addV (op2 idxV (op2 idxV (opL m_winds_of (consM (varM 1) (consM (varM 3) nilM))) (op2 subV (varM 2) (conM (.int 1)))) (conM (.int 0))) (conM (.int 1))))))
 nextM)
 (seqM (asgM (.nm 5) (opL m_deeds_of_way (consM (varM 4) (consM (varM 1) (consM (varM 3) nilM)))))
 (seqM (ifM (blM (op2 eqV (varM 5) (opL tupV nilM)))
 (retM (opL tupV (consM (conM (.str "arrive")) (consM (conM .non) (consM (varM 1) (consM (conM .non) nilM))))))
 nextM)
 (seqM (asgM (.tp [(.nm 6), (.nm 7), (.nm 8)]) (op2 idxV (varM 5) (conM (.int 0))))
 (seqM (ifM (blM (op2 eqV (varM 6) (conM (.str "leave"))))
 (retM (opL tupV (consM (conM (.str "leave")) (consM (op2 idxV (op2 idxV (varM 3) (varM 8)) (conM (.int 2))) (consM (slcM (varM 4) none (some (varM 7))) (consM (opL tupV (consM (conM (.str "to")) (consM (varM 1) (consM (conM (.int 0)) nilM)))) nilM))))))
 nextM)
 (seqM (asgM (.nm 2) (op2 addV (opL m_shared_winds (consM (varM 4) (consM (varM 1) (consM (varM 3) nilM)))) (conM (.int 1))))
 (retM (opL tupV (consM (conM (.str "enter")) (consM (op2 idxV (op2 idxV (varM 3) (varM 8)) (conM (.int 1))) (consM (slcM (varM 1) none (some (varM 7))) (consM (opL tupV (consM (conM (.str "to")) (consM (varM 1) (consM (varM 2) nilM)))) nilM)))))))))))))
noncomputable def m_go_to : List MV → Sto → Res MV := defM 4 9 b_go_to
noncomputable def b__law_things : SM := (seqM (asgM (.nm 2) dNewK)
 (seqM (forM (itmM rngO2 (consM (conM (.int 1)) (consM (op2 addV (conM (.int 1)) (varM 1)) nilM))) (.nm 3)
 (seqM (asgM (.nm 4) (opL m__law_draw (consM (varM 0) (consM (conM (.int 8)) nilM))))
 (ifM (blM (op2 ltV (varM 4) (conM (.int 4))))
 (setM setV (varM 2) (varM 3) (opL tupV (consM (conM (.str "wind")) (consM (op2 addV (conM (.int 1000)) (varM 3)) (consM (op2 addV (conM (.int 2000)) (varM 3)) nilM)))))
 (ifM (blM (op2 ltV (varM 4) (conM (.int 6))))
 (setM setV (varM 2) (varM 3) (opL tupV (consM (conM (.str "wait")) (consM (opL m__law_draw (consM (varM 0) (consM (conM (.int 9)) nilM))) (consM (opL tupV (consM (varM 3) nilM)) nilM)))))
 (ifM (blM (op2 eqV (varM 4) (conM (.int 6))))
 (setM setV (varM 2) (varM 3) (opL tupV (consM (conM (.str "mark")) nilM)))
 (setM setV (varM 2) (varM 3) (opL m__law_pick (consM (varM 0) (consM (opL lstV (consM (opL tupV (consM (conM (.str "pass")) (consM (conM (.int 77)) nilM))) (consM (opL tupV (consM (conM (.str "way")) (consM (opL tupV (consM (conM (.str "out")) nilM)) (consM (opL tupV (consM (conM (.str "give")) (consM (conM (.int 3)) nilM))) nilM)))) (consM (opL tupV (consM (conM (.str "mark")) nilM)) nilM)))) nilM)))))))))
 (retM (varM 2))))
noncomputable def m__law_things : List MV → Sto → Res MV := defM 2 5 b__law_things
noncomputable def b__law_row : SM := (seqM (asgM (.nm 3) (op1 sortKV (varM 1)))
 (retM (opL tupOf (consM (lcM (itmM rngO1 (consM (opL m__law_draw (consM (varM 0) (consM (op2 addV (varM 2) (conM (.int 1))) nilM))) nilM)) (.nm 4) yesM (opL m__law_pick (consM (varM 0) (consM (varM 3) nilM))) [4]) nilM))))
noncomputable def m__law_row : List MV → Sto → Res MV := defM 3 5 b__law_row
noncomputable def b_next_step : SM := (seqM (asgM (.nm 3) (op2 idxV (varM 1) (conM (.int 0))))
 (seqM (ifM (blM (op2 eqV (varM 3) (conM (.str "to"))))
 (retM (opL m_go_to (consM (varM 0) (consM (op2 idxV (varM 1) (conM (.int 1))) (consM (op2 idxV (varM 1) (conM (.int 2))) (consM (varM 2) nilM))))))
 nextM)
 (seqM (ifM (blM (op2 eqV (varM 3) (conM (.str "on"))))
 (retM (opL m_lay_on (consM (op2 addV (varM 0) (slcM (op2 idxV (varM 1) (conM (.int 1))) none (some (conM (.int 1))))) (consM (slcM (op2 idxV (varM 1) (conM (.int 1))) (some (conM (.int 1))) none) (consM (varM 2) nilM)))))
 nextM)
 (seqM (ifM (blM (op2 eqV (varM 3) (conM (.str "off"))))
 (retM (opL m_take_off (consM (varM 0) (consM (varM 2) nilM))))
 nextM)
 (retM (opL tupV (consM (conM (.str "arrive")) (consM (conM .non) (consM (varM 0) (consM (conM .non) nilM))))))))))
noncomputable def m_next_step : List MV → Sto → Res MV := defM 3 4 b_next_step
noncomputable def b__law_walked : SM := (seqM (asgM (.nm 3) (opL lstV nilM))
 (seqM (forM (itmM rngO1 (consM (varM 2) nilM)) (.nm 4)
 (seqM (dropM' (bmM "list" appendV (varM 3) (consM (varM 0) nilM)))
 (seqM (ifM (orB (notB (truM (opL isiV (consM (varM 0) (consM (conM (.ty "tuple")) nilM))))) (orB (blM (op2 neV (opL lenV (consM (varM 0) nilM)) (conM (.int 4)))) (blM (op2 eqV (op2 idxV (varM 0) (conM (.int 0))) (conM (.str "arrive"))))))
 brkM
 nextM)
 (asgM (.nm 0) (opL m_next_step (consM (op2 idxV (varM 0) (conM (.int 2))) (consM (op2 idxV (varM 0) (conM (.int 3))) (consM (varM 1) nilM))))))))
 (retM (varM 3))))
noncomputable def m__law_walked : List MV → Sto → Res MV := defM 3 5 b__law_walked
noncomputable def b__law_to_elsewhere : SM := (seqM (asgM (.nm 4) (opL m__law_winds_of (consM (varM 2) (consM (varM 1) nilM))))
 (seqM (ifM (blM (op2 neV (varM 4) (opL lstV nilM)))
 (seqM (asgM (.nm 5) (op2 addV (conM (.int 1)) (opL m__law_draw (consM (varM 0) (consM (opL lenV (consM (varM 4) nilM)) nilM)))))
 (seqM (ifM (blM (op2 ltV (varM 5) (opL lenV (consM (varM 4) nilM))))
 (seqM (asgM (.tp [(.nm 6), (.nm 7)]) (op2 idxV (varM 4) (varM 5)))
 (asgM (.nm 8) (opL tupV (consM (conM (.str "enter")) (consM (op2 addV (conM (.int 1000)) (varM 7)) (consM (slcM (varM 2) none (some (varM 6))) (consM (opL tupV (consM (conM (.str "to")) (consM (varM 2) (consM (op2 addV (varM 5) (conM (.int 1))) nilM)))) nilM)))))))
 (asgM (.nm 8) (opL tupV (consM (conM (.str "arrive")) (consM (conM .non) (consM (varM 2) (consM (conM .non) nilM)))))))
 (ifM (blM (op2 neV (opL reprV (consM (opL m_next_step (consM (varM 3) (consM (opL tupV (consM (conM (.str "to")) (consM (varM 2) (consM (varM 5) nilM)))) (consM (varM 1) nilM)))) nilM)) (opL reprV (consM (varM 8) nilM))))
 (retM (conM (.bl false)))
 nextM)))
 nextM)
 (retM (op2 eqV (opL reprV (consM (opL m_next_step (consM (varM 3) (consM (opL tupV (consM (conM (.str "out")) nilM)) (consM (varM 1) nilM)))) nilM)) (opL reprV (consM (opL tupV (consM (conM (.str "arrive")) (consM (conM .non) (consM (varM 3) (consM (conM .non) nilM))))) nilM))))))
noncomputable def m__law_to_elsewhere : List MV → Sto → Res MV := defM 4 9 b__law_to_elsewhere
noncomputable def b__law_elsewhere : SM := (seqM (asgM (.tp [(.nm 4), (.nm 5), (.nm 6), (.nm 7)]) (opL m__law_pick (consM (varM 0) (consM (varM 2) nilM))))
 (seqM (ifM (blM (op2 eqV (varM 4) (conM (.str "arrive"))))
 (retM (conM (.bl true)))
 nextM)
 (seqM (asgM (.nm 8) (opL m__law_walked (consM (opL m_next_step (consM (varM 3) (consM (varM 7) (consM (varM 1) nilM)))) (consM (varM 1) (consM (conM (.int 70)) nilM)))))
 (seqM (ifM (blM (op2 eqV (varM 4) (conM (.str "leave"))))
 (retM (op2 eqV (opL reprV (consM (varM 8) nilM)) (opL reprV (consM (opL m__law_off_steps (consM (varM 3) (consM (varM 1) nilM))) nilM))))
 nextM)
 (seqM (asgM (.nm 9) (op2 idxV (varM 7) (conM (.int 1))))
 (retM (op2 eqV (opL reprV (consM (varM 8) nilM)) (opL reprV (consM (opL m__law_on_steps (consM (op2 addV (varM 3) (slcM (varM 9) none (some (conM (.int 1))))) (consM (slcM (varM 9) (some (conM (.int 1))) none) (consM (varM 1) nilM)))) nilM)))))))))
noncomputable def m__law_elsewhere : List MV → Sto → Res MV := defM 4 10 b__law_elsewhere
noncomputable def b_law : SM := (seqM (asgM (.nm 1) (opL m__law_hand (consM (varM 0) nilM)))
 (seqM (forM (itmM rngO1 (consM (conM (.int 3)) nilM)) (.nm 2)
 (seqM (asgM (.nm 3) (opL m__law_things (consM (varM 1) (consM (op2 addV (conM (.int 1)) (opL m__law_draw (consM (varM 1) (consM (conM (.int 14)) nilM)))) nilM))))
 (seqM (asgM (.nm 4) (opL reprV (consM (varM 3) nilM)))
 (seqM (asgM (.nm 5) (opL m__law_row (consM (varM 1) (consM (varM 3) (consM (opL m__law_pick (consM (varM 1) (consM (opL lstV (consM (conM (.int 6)) (consM (conM (.int 15)) (consM (conM (.int 30)) nilM)))) nilM))) nilM)))))
 (seqM (asgM (.nm 6) (opL m__law_row (consM (varM 1) (consM (varM 3) (consM (conM (.int 12)) nilM)))))
 (seqM (asgM (.nm 7) (opL m__law_off_steps (consM (varM 5) (consM (varM 3) nilM))))
 (seqM (ifM (blM (op2 neV (opL reprV (consM (opL m__law_walked (consM (opL m_next_step (consM (varM 5) (consM (opL tupV (consM (conM (.str "off")) nilM)) (consM (varM 3) nilM)))) (consM (varM 3) (consM (conM (.int 70)) nilM)))) nilM)) (opL reprV (consM (varM 7) nilM))))
 (retM (conM (.bl false)))
 nextM)
 (seqM (asgM (.nm 8) (opL m_mark_cut (consM (varM 5) (consM (varM 3) nilM))))
 (seqM (parM 9 10 (consM (slcM (varM 5) none (some (varM 8))) (consM (slcM (varM 5) (some (varM 8)) none) nilM)))
 (seqM (asgM (.nm 11) (opL m__law_on_steps (consM (varM 9) (consM (varM 10) (consM (varM 3) nilM)))))
 (seqM (ifM (blM (op2 neV (opL reprV (consM (opL m__law_walked (consM (opL m_lay_on (consM (varM 9) (consM (varM 10) (consM (varM 3) nilM)))) (consM (varM 3) (consM (conM (.int 70)) nilM)))) nilM)) (opL reprV (consM (varM 11) nilM))))
 (retM (conM (.bl false)))
 nextM)
 (seqM (ifM (blM (op2 neV (lcM (iterM (slcM (varM 11) none (some (op1 negV (conM (.int 1)))))) (.nm 16) yesM (op2 subV (op2 idxV (varM 16) (conM (.int 1))) (conM (.int 1000))) [16]) (op1 revLV (lcM (iterM (slcM (varM 7) none (some (op1 negV (conM (.int 1)))))) (.nm 16) yesM (op2 subV (op2 idxV (varM 16) (conM (.int 1))) (conM (.int 2000))) [16]))))
 (retM (conM (.bl false)))
 nextM)
 (seqM (asgM (.nm 12) (opL m__law_row (consM (varM 1) (consM (varM 3) (consM (conM (.int 10)) nilM)))))
 (seqM (asgM (.nm 13) (opL m__law_walked (consM (opL m_lay_on (consM (varM 6) (consM (varM 10) (consM (varM 3) nilM)))) (consM (varM 3) (consM (conM (.int 70)) nilM)))))
 (seqM (asgM (.nm 14) (opL m__law_walked (consM (opL m_lay_on (consM (op2 addV (varM 6) (varM 10)) (consM (varM 12) (consM (varM 3) nilM)))) (consM (varM 3) (consM (conM (.int 70)) nilM)))))
 (seqM (asgM (.nm 15) (op2 addV (lcM (iterM (slcM (varM 13) none (some (op1 negV (conM (.int 1)))))) (.tp [(.nm 17), (.nm 18), (.nm 19), (.nm 20)]) yesM (opL tupV (consM (varM 17) (consM (varM 18) (consM (varM 19) (consM (opL tupV (consM (conM (.str "on")) (consM (op2 addV (op2 idxV (varM 20) (conM (.int 1))) (varM 12)) nilM))) nilM))))) [17, 18, 19, 20]) (varM 14)))
 (seqM (ifM (blM (op2 neV (opL reprV (consM (opL m__law_walked (consM (opL m_lay_on (consM (varM 6) (consM (op2 addV (varM 10) (varM 12)) (consM (varM 3) nilM)))) (consM (varM 3) (consM (conM (.int 70)) nilM)))) nilM)) (opL reprV (consM (varM 15) nilM))))
 (retM (conM (.bl false)))
 nextM)
 (seqM (ifM (blM (op2 neV (opL reprV (consM (varM 14) nilM)) (opL reprV (consM (opL m__law_on_steps (consM (op2 addV (varM 6) (varM 10)) (consM (varM 12) (consM (varM 3) nilM)))) nilM))))
 (retM (conM (.bl false)))
 nextM)
 (seqM (ifM (orB (notB (truM (opL m__law_elsewhere (consM (varM 1) (consM (varM 3) (consM (varM 7) (consM (varM 6) nilM))))))) (notB (truM (opL m__law_elsewhere (consM (varM 1) (consM (varM 3) (consM (varM 11) (consM (varM 6) nilM))))))))
 (retM (conM (.bl false)))
 nextM)
 (ifM (orB (notB (truM (opL m__law_to_elsewhere (consM (varM 1) (consM (varM 3) (consM (varM 5) (consM (varM 6) nilM))))))) (blM (op2 neV (opL reprV (consM (varM 3) nilM)) (varM 4))))
 (retM (conM (.bl false)))
 nextM))))))))))))))))))))
 (retM (conM (.bl true)))))
noncomputable def m_law : List MV → Sto → Res MV := defM 1 21 b_law
end Law
end

section
/-! ### the walk, printed by gen.py -/
namespace Law
open PySem L2 Mm

def top (i : Nat) : Stmt := PySem.Challenge.pw_goonagain_k11_whole_laying_on_and_taking.main.body.getD i (.Pass ⟨0, 0, 0, 0⟩)
abbrev s_winds_of : Stmt := top 1
abbrev s_shared_winds : Stmt := top 2
abbrev s_deeds_of_way : Stmt := top 3
abbrev s_mark_cut : Stmt := top 4
abbrev s_last_wind : Stmt := top 5
abbrev s_lay_on : Stmt := top 6
abbrev s_take_off : Stmt := top 7
abbrev s_go_to : Stmt := top 8
abbrev s_next_step : Stmt := top 9
abbrev s__law_mix : Stmt := top 11
abbrev s__law_hand : Stmt := top 12
abbrev s__law_draw : Stmt := top 13
abbrev s__law_pick : Stmt := top 14
abbrev s__law_things : Stmt := top 15
abbrev s__law_row : Stmt := top 16
abbrev s__law_winds_of : Stmt := top 17
abbrev s__law_off_steps : Stmt := top 20
abbrev s__law_on_steps : Stmt := top 21
abbrev s__law_walked : Stmt := top 22
abbrev s__law_elsewhere : Stmt := top 23
abbrev s__law_to_elsewhere : Stmt := top 24
abbrev s_law : Stmt := top 25
theorem bt_enumerate : bootBuiltins "enumerate" = some (.type "enumerate") := by decide +kernel
theorem bt_tuple : bootBuiltins "tuple" = some (.type "tuple") := by decide +kernel
theorem bt_zip : bootBuiltins "zip" = some (.type "zip") := by decide +kernel
theorem bt_reversed : bootBuiltins "reversed" = some (.type "reversed") := by decide +kernel
theorem bt_len : bootBuiltins "len" = some (.builtin "len") := by decide +kernel
theorem bt_range : bootBuiltins "range" = some (.type "range") := by decide +kernel
theorem bt_int : bootBuiltins "int" = some (.type "int") := by decide +kernel
theorem bt_abs : bootBuiltins "abs" = some (.builtin "abs") := by decide +kernel
theorem bt_sorted : bootBuiltins "sorted" = some (.builtin "sorted") := by decide +kernel
theorem bt_max : bootBuiltins "max" = some (.builtin "max") := by decide +kernel
theorem bt_isinstance : bootBuiltins "isinstance" = some (.builtin "isinstance") := by decide +kernel
theorem bt_repr : bootBuiltins "repr" = some (.builtin "repr") := by decide +kernel
structure Txt (K : PySem.W.Frag) (mg : Str → Option Value) : Type where
  z_enumerate : mg "enumerate" = none
  z_tuple : mg "tuple" = none
  z_zip : mg "zip" = none
  z_reversed : mg "reversed" = none
  z_len : mg "len" = none
  z_range : mg "range" = none
  z_int : mg "int" = none
  z_abs : mg "abs" = none
  z_sorted : mg "sorted" = none
  z_max : mg "max" = none
  z_isinstance : mg "isinstance" = none
  z_repr : mg "repr" = none
section
variable {P : Program} {w : World} {K : PySem.W.Frag} {mg : Str → Option Value} {base : Heap}
abbrev N_winds_of : List Str := ["frames", "things", "position", "birth"]
theorem sc_winds_of : FnScope N_winds_of ["frames", "things"] (defScope s_winds_of) := ⟨rfl, rfl, rfl, by decide +kernel, rfl, by decide +kernel, by decide +kernel⟩
theorem ok_winds_of (T : Txt K mg)  {f : Addr} {fd : FuncData} (F : DefAt K mg "winds_of" s_winds_of f fd ["frames", "things"]) : FnG P w K mg base 1 f fd ["frames", "things"] (spM K m_winds_of) :=
  okG F.fn sc_winds_of fun cdv A outer s H E hr gd tk hp => (ms_one (ms_ret (mp_callTy call_tuple_of tupOf_ok rfl T.z_tuple bt_tuple (mp_cons (mp_lc (own := [("position", 2), ("birth", 3)]) rfl sc_winds_of.nd (mi_enum2 rfl T.z_enumerate (mp_cons (mp_var 0) mp_nil)) (blkOk_by (N := N_winds_of) (sc := defScope s_winds_of) (by decide +kernel)) (by decide) (fun _ _ _ _ _ => (mg_tup rfl (mg_cons (mg_name sc_winds_of.nd) (mg_cons (mg_name sc_winds_of.nd) mg_nil)))) (fun _ _ _ _ _ => (mts_one (mt_cmp (op_eqM hr.units) eqV_ok (mp_idx (hu_of hr) (mp_idx (hu_of hr) (mp_var 1) (mp_var 3)) mp_int) mp_str))) (fun _ _ _ _ _ => (mp_tup (mp_cons (mp_var 2) (mp_cons (mp_var 3) mp_nil))))) mp_nil))))
abbrev N_mark_cut : List Str := ["frames", "things", "position"]
theorem sc_mark_cut : FnScope N_mark_cut ["frames", "things"] (defScope s_mark_cut) := ⟨rfl, rfl, rfl, by decide +kernel, rfl, by decide +kernel, by decide +kernel⟩
theorem ok_mark_cut (T : Txt K mg)  {f : Addr} {fd : FuncData} (F : DefAt K mg "mark_cut" s_mark_cut f fd ["frames", "things"]) : FnG P w K mg base 1 f fd ["frames", "things"] (spM K m_mark_cut) :=
  okG F.fn sc_mark_cut fun cdv A outer s H E hr gd tk hp => (ms_cons (ms_for hp rfl (mi_range3 rfl T.z_range (mp_cons (mp_op op_sub subV_ok (mp_callB call_lenV lenV_ok rfl T.z_len bt_len (mp_cons (mp_var 0) mp_nil)) mp_int) (mp_cons (mp_un un_neg negV_ok mp_int) (mp_cons (mp_un un_neg negV_ok mp_int) mp_nil)))) (mg_name sc_mark_cut.nd)
 (ms_one (ms_if (mt_cmp (op_eqM hr.units) eqV_ok (mp_idx (hu_of hr) (mp_idx (hu_of hr) (mp_var 1) (mp_idx (hu_of hr) (mp_var 0) (mp_var 2))) mp_int) mp_str)
 (ms_one (ms_ret (mp_op op_addV addV_ok (mp_var 2) mp_int)))
 ms_nil)))
 (ms_one (ms_ret mp_int)))
abbrev N_last_wind : List Str := ["frames", "lowest", "things", "position"]
theorem sc_last_wind : FnScope N_last_wind ["frames", "lowest", "things"] (defScope s_last_wind) := ⟨rfl, rfl, rfl, by decide +kernel, rfl, by decide +kernel, by decide +kernel⟩
theorem ok_last_wind (T : Txt K mg)  {f : Addr} {fd : FuncData} (F : DefAt K mg "last_wind" s_last_wind f fd ["frames", "lowest", "things"]) : FnG P w K mg base 1 f fd ["frames", "lowest", "things"] (spM K m_last_wind) :=
  okG F.fn sc_last_wind fun cdv A outer s H E hr gd tk hp => (ms_cons (ms_for hp rfl (mi_range3 rfl T.z_range (mp_cons (mp_op op_sub subV_ok (mp_callB call_lenV lenV_ok rfl T.z_len bt_len (mp_cons (mp_var 0) mp_nil)) mp_int) (mp_cons (mp_op op_sub subV_ok (mp_var 1) mp_int) (mp_cons (mp_un un_neg negV_ok mp_int) mp_nil)))) (mg_name sc_last_wind.nd)
 (ms_one (ms_if (mt_cmp (op_eqM hr.units) eqV_ok (mp_idx (hu_of hr) (mp_idx (hu_of hr) (mp_var 2) (mp_idx (hu_of hr) (mp_var 0) (mp_var 3))) mp_int) mp_str)
 (ms_one (ms_ret (mp_var 3)))
 ms_nil)))
 (ms_one (ms_ret (mp_un un_neg negV_ok mp_int))))
abbrev N_lay_on : List Str := ["below", "frames", "things", "position", "birth"]
theorem sc_lay_on : FnScope N_lay_on ["below", "frames", "things"] (defScope s_lay_on) := ⟨rfl, rfl, rfl, by decide +kernel, rfl, by decide +kernel, by decide +kernel⟩
theorem ok_lay_on (T : Txt K mg)  {f : Addr} {fd : FuncData} (F : DefAt K mg "lay_on" s_lay_on f fd ["below", "frames", "things"]) : FnG P w K mg base 1 f fd ["below", "frames", "things"] (spM K m_lay_on) :=
  okG F.fn sc_lay_on fun cdv A outer s H E hr gd tk hp => (ms_cons (ms_for hp rfl (mi_enum2 rfl T.z_enumerate (mp_cons (mp_var 1) mp_nil)) (mg_tup rfl (mg_cons (mg_name sc_lay_on.nd) (mg_cons (mg_name sc_lay_on.nd) mg_nil)))
 (ms_one (ms_if (mt_cmp (op_eqM hr.units) eqV_ok (mp_idx (hu_of hr) (mp_idx (hu_of hr) (mp_var 2) (mp_var 4)) mp_int) mp_str)
 (ms_one (ms_ret (mp_tup (mp_cons mp_str (mp_cons (mp_idx (hu_of hr) (mp_idx (hu_of hr) (mp_var 2) (mp_var 4)) mp_int) (mp_cons (mp_op op_addV addV_ok (mp_var 0) (mp_slice (mp_var 1) mp_pno (mp_psome (mp_var 3)))) (mp_cons (mp_tup (mp_cons mp_str (mp_cons (mp_slice (mp_var 1) (mp_psome (mp_var 3)) mp_pno) mp_nil))) mp_nil)))))))
 ms_nil)))
 (ms_one (ms_ret (mp_tup (mp_cons mp_str (mp_cons mp_non (mp_cons (mp_op op_addV addV_ok (mp_var 0) (mp_var 1)) (mp_cons mp_non mp_nil))))))))
abbrev N__law_mix : List Str := ["number", "turn", "once", "twice"]
theorem sc__law_mix : FnScope N__law_mix ["number", "turn"] (defScope s__law_mix) := ⟨rfl, rfl, rfl, by decide +kernel, rfl, by decide +kernel, by decide +kernel⟩
theorem ok__law_mix (T : Txt K mg)  {f : Addr} {fd : FuncData} (F : DefAt K mg "_law_mix" s__law_mix f fd ["number", "turn"]) : FnG P w K mg base 1 f fd ["number", "turn"] (spM K m__law_mix) :=
  okG F.fn sc__law_mix fun cdv A outer s H E hr gd tk hp => (ms_cons (ms_set sc__law_mix.nd (mp_op op_mod modV_ok (mp_callTy call_intV intV_ok rfl T.z_int bt_int (mp_cons (mp_op op_addV addV_ok (mp_op op_addV addV_ok (mp_op op_mulV mulV_ok (mp_var 0) mp_int) (mp_op op_mulV mulV_ok (mp_var 1) mp_int)) mp_int) mp_nil)) mp_int))
 (ms_cons (ms_set sc__law_mix.nd (mp_op op_mod modV_ok (mp_callTy call_intV intV_ok rfl T.z_int bt_int (mp_cons (mp_op op_addV addV_ok (mp_op op_addV addV_ok (mp_op op_mulV mulV_ok (mp_var 2) (mp_var 2)) (mp_op op_mulV mulV_ok (mp_op op_fdivW divV_ok (mp_var 2) mp_int) mp_int)) (mp_op op_mulV mulV_ok (mp_var 1) mp_int)) mp_nil)) mp_int))
 (ms_one (ms_ret (mp_op op_fdivW divV_ok (mp_op op_mod modV_ok (mp_callTy call_intV intV_ok rfl T.z_int bt_int (mp_cons (mp_op op_addV addV_ok (mp_op op_fdivW divV_ok (mp_op op_mulV mulV_ok (mp_var 3) (mp_var 3)) mp_int) (mp_var 2)) mp_nil)) mp_int) mp_int)))))
abbrev N__law_hand : List Str := ["script", "total", "k", "cell"]
theorem sc__law_hand : FnScope N__law_hand ["script"] (defScope s__law_hand) := ⟨rfl, rfl, rfl, by decide +kernel, rfl, by decide +kernel, by decide +kernel⟩
theorem ok__law_hand (T : Txt K mg)  {f : Addr} {fd : FuncData} (F : DefAt K mg "_law_hand" s__law_hand f fd ["script"]) : FnG P w K mg base 1 f fd ["script"] (spM K m__law_hand) :=
  okG F.fn sc__law_hand fun cdv A outer s H E hr gd tk hp => (ms_cons (ms_set sc__law_hand.nd mp_int)
 (ms_cons (ms_for hp rfl (mi_enum2 rfl T.z_enumerate (mp_cons (mp_var 0) mp_nil)) (mg_tup rfl (mg_cons (mg_name sc__law_hand.nd) (mg_cons (mg_name sc__law_hand.nd) mg_nil)))
 (ms_one (ms_set sc__law_hand.nd (mp_op op_mod modV_ok (mp_callTy call_intV intV_ok rfl T.z_int bt_int (mp_cons (mp_op op_addV addV_ok (mp_op op_mulV mulV_ok (mp_var 1) mp_int) (mp_op op_mulV mulV_ok (mp_callTy call_intV intV_ok rfl T.z_int bt_int (mp_cons (mp_var 3) mp_nil)) (mp_op op_addV addV_ok (mp_var 2) mp_int))) mp_nil)) mp_int))))
 (ms_one (ms_ret (mp_lst (mp_cons (mp_lc (own := [("cell", 3)]) rfl sc__law_hand.nd (mi_seq (mp_var 0)) (blkOk_by (N := N__law_hand) (sc := defScope s__law_hand) (by decide +kernel)) (by decide) (fun _ _ _ _ _ => (mg_name sc__law_hand.nd)) (fun _ _ _ _ _ => mts_nil) (fun _ _ _ _ _ => (mp_callB call_abs absV_ok rfl T.z_abs bt_abs (mp_cons (mp_callTy call_intV intV_ok rfl T.z_int bt_int (mp_cons (mp_var 3) mp_nil)) mp_nil)))) (mp_cons mp_int (mp_cons mp_int (mp_cons (mp_var 1) mp_nil)))))))))
abbrev N__law_winds_of : List Str := ["frames", "things", "at"]
theorem sc__law_winds_of : FnScope N__law_winds_of ["frames", "things"] (defScope s__law_winds_of) := ⟨rfl, rfl, rfl, by decide +kernel, rfl, by decide +kernel, by decide +kernel⟩
theorem ok__law_winds_of (T : Txt K mg)  {f : Addr} {fd : FuncData} (F : DefAt K mg "_law_winds_of" s__law_winds_of f fd ["frames", "things"]) : FnG P w K mg base 1 f fd ["frames", "things"] (spM K m__law_winds_of) :=
  okG F.fn sc__law_winds_of fun cdv A outer s H E hr gd tk hp => (ms_one (ms_ret (mp_lc (own := [("at", 2)]) rfl sc__law_winds_of.nd (mi_range1 rfl T.z_range (mp_cons (mp_callB call_lenV lenV_ok rfl T.z_len bt_len (mp_cons (mp_var 0) mp_nil)) mp_nil)) (blkOk_by (N := N__law_winds_of) (sc := defScope s__law_winds_of) (by decide +kernel)) (by decide) (fun _ _ _ _ _ => (mg_name sc__law_winds_of.nd)) (fun _ _ _ _ _ => (mts_one (mt_cmp (op_eqM hr.units) eqV_ok (mp_idx (hu_of hr) (mp_idx (hu_of hr) (mp_var 1) (mp_idx (hu_of hr) (mp_var 0) (mp_var 2))) mp_int) mp_str))) (fun _ _ _ _ _ => (mp_tup (mp_cons (mp_var 2) (mp_cons (mp_idx (hu_of hr) (mp_var 0) (mp_var 2)) mp_nil)))))))
abbrev N_shared_winds : List Str := ["present", "goal", "things", "many", "position", "birth", "place", "other"]
theorem sc_shared_winds : FnScope N_shared_winds ["present", "goal", "things"] (defScope s_shared_winds) := ⟨rfl, rfl, rfl, by decide +kernel, rfl, by decide +kernel, by decide +kernel⟩
theorem ok_shared_winds (T : Txt K mg) (C_winds_of : CalG P w K mg base 1 "winds_of" m_winds_of) {f : Addr} {fd : FuncData} (F : DefAt K mg "shared_winds" s_shared_winds f fd ["present", "goal", "things"]) : FnG P w K mg base 2 f fd ["present", "goal", "things"] (spM K m_shared_winds) :=
  okG F.fn sc_shared_winds fun cdv A outer s H E hr gd tk hp => (ms_cons (ms_set sc_shared_winds.nd mp_int)
 (ms_cons (ms_for hp rfl (mi_zip rfl T.z_zip (mp_cons (mcG C_winds_of tk gd hr (mp_cons (mp_var 0) (mp_cons (mp_var 2) mp_nil))) (mp_cons (mcG C_winds_of tk gd hr (mp_cons (mp_var 1) (mp_cons (mp_var 2) mp_nil))) mp_nil))) (mg_tup rfl (mg_cons (mg_tup rfl (mg_cons (mg_name sc_shared_winds.nd) (mg_cons (mg_name sc_shared_winds.nd) mg_nil))) (mg_cons (mg_tup rfl (mg_cons (mg_name sc_shared_winds.nd) (mg_cons (mg_name sc_shared_winds.nd) mg_nil))) mg_nil)))
 (ms_cons (ms_if (mt_cmp (op_neM hr.units) neV_ok (mp_var 5) (mp_var 7))
 (ms_one ms_break)
 ms_nil)
 (ms_one (ms_set sc_shared_winds.nd (mp_op op_addV addV_ok (mp_var 3) mp_int)))))
 (ms_one (ms_ret (mp_var 3)))))
abbrev N_take_off : List Str := ["below", "things", "cut", "position"]
theorem sc_take_off : FnScope N_take_off ["below", "things"] (defScope s_take_off) := ⟨rfl, rfl, rfl, by decide +kernel, rfl, by decide +kernel, by decide +kernel⟩
theorem ok_take_off (T : Txt K mg) (C_mark_cut : CalG P w K mg base 1 "mark_cut" m_mark_cut) (C_last_wind : CalG P w K mg base 1 "last_wind" m_last_wind) {f : Addr} {fd : FuncData} (F : DefAt K mg "take_off" s_take_off f fd ["below", "things"]) : FnG P w K mg base 2 f fd ["below", "things"] (spM K m_take_off) :=
  okG F.fn sc_take_off fun cdv A outer s H E hr gd tk hp => (ms_cons (ms_set sc_take_off.nd (mcG C_mark_cut tk gd hr (mp_cons (mp_var 0) (mp_cons (mp_var 1) mp_nil))))
 (ms_cons (ms_set sc_take_off.nd (mcG C_last_wind tk gd hr (mp_cons (mp_var 0) (mp_cons (mp_var 2) (mp_cons (mp_var 1) mp_nil)))))
 (ms_cons (ms_if (mt_cmp op_ltV ltV_ok (mp_var 3) mp_int)
 (ms_one (ms_ret (mp_tup (mp_cons mp_str (mp_cons mp_non (mp_cons (mp_slice (mp_var 0) mp_pno (mp_psome (mp_var 2))) (mp_cons mp_non mp_nil)))))))
 ms_nil)
 (ms_one (ms_ret (mp_tup (mp_cons mp_str (mp_cons (mp_idx (hu_of hr) (mp_idx (hu_of hr) (mp_var 1) (mp_idx (hu_of hr) (mp_var 0) (mp_var 3))) mp_int) (mp_cons (mp_slice (mp_var 0) mp_pno (mp_psome (mp_var 3))) (mp_cons (mp_tup (mp_cons mp_str mp_nil)) mp_nil))))))))))
abbrev N__law_draw : List Str := ["hand", "many", "cell", "rest"]
theorem sc__law_draw : FnScope N__law_draw ["hand", "many"] (defScope s__law_draw) := ⟨rfl, rfl, rfl, by decide +kernel, rfl, by decide +kernel, by decide +kernel⟩
theorem ok__law_draw (T : Txt K mg) (C__law_mix : CalG P w K mg base 1 "_law_mix" m__law_mix) {f : Addr} {fd : FuncData} (F : DefAt K mg "_law_draw" s__law_draw f fd ["hand", "many"]) : FnG P w K mg base 2 f fd ["hand", "many"] (spM K m__law_draw) :=
  okG F.fn sc__law_draw fun cdv A outer s H E hr gd tk hp => (ms_cons (ms_if (mt_pw (mw_and (mt_cmp (op_eqM hr.units) eqV_ok (mp_idx (hu_of hr) (mp_var 0) mp_int) mp_int) (mw_and1 (mt_cmp op_ltV ltV_ok (mp_idx (hu_of hr) (mp_var 0) mp_int) (mp_callB call_lenV lenV_ok rfl T.z_len bt_len (mp_cons (mp_idx (hu_of hr) (mp_var 0) mp_int) mp_nil))))))
 (ms_cons (ms_set sc__law_draw.nd (mp_idx (hu_of hr) (mp_idx (hu_of hr) (mp_var 0) mp_int) (mp_idx (hu_of hr) (mp_var 0) mp_int)))
 (ms_cons (ms_put (hu_of hr) (mp_var 0) mp_int (mp_op op_addV addV_ok (mp_idx (hu_of hr) (mp_var 0) mp_int) mp_int))
 (ms_cons (ms_if (mt_cmp op_ltV ltV_ok (mp_var 2) (mp_op op_pow powV_ok mp_int mp_int))
 (ms_one (ms_ret (mp_op op_mod modV_ok (mp_callTy call_intV intV_ok rfl T.z_int bt_int (mp_cons (mcG C__law_mix tk gd hr (mp_cons (mp_op op_mod modV_ok (mp_callTy call_intV intV_ok rfl T.z_int bt_int (mp_cons (mp_var 2) mp_nil)) mp_int) (mp_cons (mp_idx (hu_of hr) (mp_var 0) mp_int) mp_nil))) mp_nil)) (mp_var 1))))
 ms_nil)
 (ms_one (ms_put (hu_of hr) (mp_var 0) mp_int (mp_var 2))))))
 ms_nil)
 (ms_cons (ms_if (mt_cmp op_gt gtV_ok (mp_idx (hu_of hr) (mp_var 0) mp_int) mp_int)
 (ms_cons (ms_set sc__law_draw.nd (mp_idx (hu_of hr) (mp_var 0) mp_int))
 (ms_cons (ms_put (hu_of hr) (mp_var 0) mp_int (mp_op op_fdivW divV_ok (mp_var 3) (mp_var 1)))
 (ms_one (ms_ret (mp_op op_mod modV_ok (mp_callTy call_intV intV_ok rfl T.z_int bt_int (mp_cons (mp_var 3) mp_nil)) (mp_var 1))))))
 ms_nil)
 (ms_cons (ms_put (hu_of hr) (mp_var 0) mp_int (mp_op op_mod modV_ok (mp_callTy call_intV intV_ok rfl T.z_int bt_int (mp_cons (mp_op op_addV addV_ok (mp_idx (hu_of hr) (mp_var 0) mp_int) mp_int) mp_nil)) mp_int))
 (ms_one (ms_ret (mp_op op_mod modV_ok (mp_callTy call_intV intV_ok rfl T.z_int bt_int (mp_cons (mcG C__law_mix tk gd hr (mp_cons (mp_idx (hu_of hr) (mp_var 0) mp_int) (mp_cons (mp_idx (hu_of hr) (mp_var 0) mp_int) mp_nil))) mp_nil)) (mp_var 1)))))))
abbrev N__law_off_steps : List Str := ["frames", "things", "cut", "winds", "steps", "at", "birth"]
theorem sc__law_off_steps : FnScope N__law_off_steps ["frames", "things"] (defScope s__law_off_steps) := ⟨rfl, rfl, rfl, by decide +kernel, rfl, by decide +kernel, by decide +kernel⟩
theorem ok__law_off_steps (T : Txt K mg) (C__law_winds_of : CalG P w K mg base 1 "_law_winds_of" m__law_winds_of) {f : Addr} {fd : FuncData} (F : DefAt K mg "_law_off_steps" s__law_off_steps f fd ["frames", "things"]) : FnG P w K mg base 2 f fd ["frames", "things"] (spM K m__law_off_steps) :=
  okG F.fn sc__law_off_steps fun cdv A outer s H E hr gd tk hp => (ms_cons (ms_set sc__law_off_steps.nd (mp_callB (cr_max rfl) maxLV_ok rfl T.z_max bt_max (mp_cons (mp_op op_addV addV_ok (mp_lst (mp_cons mp_int mp_nil)) (mp_lc (own := [("at", 5), ("birth", 6)]) rfl sc__law_off_steps.nd (mi_enum2 rfl T.z_enumerate (mp_cons (mp_var 0) mp_nil)) (blkOk_by (N := N__law_off_steps) (sc := defScope s__law_off_steps) (by decide +kernel)) (by decide) (fun _ _ _ _ _ => (mg_tup rfl (mg_cons (mg_name sc__law_off_steps.nd) (mg_cons (mg_name sc__law_off_steps.nd) mg_nil)))) (fun _ _ _ _ _ => (mts_one (mt_cmp (op_eqM hr.units) eqV_ok (mp_idx (hu_of hr) (mp_idx (hu_of hr) (mp_var 1) (mp_var 6)) mp_int) mp_str))) (fun _ _ _ _ _ => (mp_op op_addV addV_ok (mp_var 5) mp_int)))) mp_nil)))
 (ms_cons (ms_set sc__law_off_steps.nd (mp_revL (mp_lc (own := [("at", 5), ("birth", 6)]) rfl sc__law_off_steps.nd (mi_seq (mcG C__law_winds_of tk gd hr (mp_cons (mp_var 0) (mp_cons (mp_var 1) mp_nil)))) (blkOk_by (N := N__law_off_steps) (sc := defScope s__law_off_steps) (by decide +kernel)) (by decide) (fun _ _ _ _ _ => (mg_tup rfl (mg_cons (mg_name sc__law_off_steps.nd) (mg_cons (mg_name sc__law_off_steps.nd) mg_nil)))) (fun _ _ _ _ _ => (mts_one (mt_cmp op_ge geV_ok (mp_var 5) (mp_var 2)))) (fun _ _ _ _ _ => (mp_tup (mp_cons (mp_var 5) (mp_cons (mp_var 6) mp_nil)))))))
 (ms_cons (ms_setLc (own := [("at", 5), ("birth", 6)]) rfl sc__law_off_steps.nd (mi_seq (mp_var 3)) (blkOk_by (N := N__law_off_steps) (sc := defScope s__law_off_steps) (by decide +kernel)) (by decide) (fun _ _ _ _ _ => (mg_tup rfl (mg_cons (mg_name sc__law_off_steps.nd) (mg_cons (mg_name sc__law_off_steps.nd) mg_nil)))) (fun _ _ _ _ _ => mts_nil) (fun _ _ _ _ _ => (mp_tup (mp_cons mp_str (mp_cons (mp_op op_addV addV_ok mp_int (mp_var 6)) (mp_cons (mp_slice (mp_var 0) mp_pno (mp_psome (mp_var 5))) (mp_cons (mp_tup (mp_cons mp_str mp_nil)) mp_nil)))))) (sw_true rfl rfl rfl (by decide +kernel)))
 (ms_one (ms_ret (mp_op op_addV addV_ok (mp_var 4) (mp_lst (mp_cons (mp_tup (mp_cons mp_str (mp_cons mp_non (mp_cons (mp_slice (mp_var 0) mp_pno (mp_psome (mp_var 2))) (mp_cons mp_non mp_nil))))) mp_nil))))))))
abbrev N__law_on_steps : List Str := ["below", "frames", "things", "winds", "steps", "at", "birth"]
theorem sc__law_on_steps : FnScope N__law_on_steps ["below", "frames", "things"] (defScope s__law_on_steps) := ⟨rfl, rfl, rfl, by decide +kernel, rfl, by decide +kernel, by decide +kernel⟩
theorem ok__law_on_steps (T : Txt K mg) (C__law_winds_of : CalG P w K mg base 1 "_law_winds_of" m__law_winds_of) {f : Addr} {fd : FuncData} (F : DefAt K mg "_law_on_steps" s__law_on_steps f fd ["below", "frames", "things"]) : FnG P w K mg base 2 f fd ["below", "frames", "things"] (spM K m__law_on_steps) :=
  okG F.fn sc__law_on_steps fun cdv A outer s H E hr gd tk hp => (ms_cons (ms_set sc__law_on_steps.nd (mcG C__law_winds_of tk gd hr (mp_cons (mp_var 1) (mp_cons (mp_var 2) mp_nil))))
 (ms_cons (ms_setLc (own := [("at", 5), ("birth", 6)]) rfl sc__law_on_steps.nd (mi_seq (mp_var 3)) (blkOk_by (N := N__law_on_steps) (sc := defScope s__law_on_steps) (by decide +kernel)) (by decide) (fun _ _ _ _ _ => (mg_tup rfl (mg_cons (mg_name sc__law_on_steps.nd) (mg_cons (mg_name sc__law_on_steps.nd) mg_nil)))) (fun _ _ _ _ _ => mts_nil) (fun _ _ _ _ _ => (mp_tup (mp_cons mp_str (mp_cons (mp_op op_addV addV_ok mp_int (mp_var 6)) (mp_cons (mp_op op_addV addV_ok (mp_var 0) (mp_slice (mp_var 1) mp_pno (mp_psome (mp_var 5)))) (mp_cons (mp_tup (mp_cons mp_str (mp_cons (mp_slice (mp_var 1) (mp_psome (mp_var 5)) mp_pno) mp_nil))) mp_nil)))))) (sw_true rfl rfl rfl (by decide +kernel)))
 (ms_one (ms_ret (mp_op op_addV addV_ok (mp_var 4) (mp_lst (mp_cons (mp_tup (mp_cons mp_str (mp_cons mp_non (mp_cons (mp_op op_addV addV_ok (mp_var 0) (mp_var 1)) (mp_cons mp_non mp_nil))))) mp_nil)))))))
abbrev N_deeds_of_way : List Str := ["present", "goal", "things", "shared", "deeds", "position", "birth"]
theorem sc_deeds_of_way : FnScope N_deeds_of_way ["present", "goal", "things"] (defScope s_deeds_of_way) := ⟨rfl, rfl, rfl, by decide +kernel, rfl, by decide +kernel, by decide +kernel⟩
theorem ok_deeds_of_way (T : Txt K mg) (C_shared_winds : CalG P w K mg base 2 "shared_winds" m_shared_winds) (C_winds_of : CalG P w K mg base 1 "winds_of" m_winds_of) {f : Addr} {fd : FuncData} (F : DefAt K mg "deeds_of_way" s_deeds_of_way f fd ["present", "goal", "things"]) : FnG P w K mg base 3 f fd ["present", "goal", "things"] (spM K m_deeds_of_way) :=
  okG F.fn sc_deeds_of_way fun cdv A outer s H E hr gd tk hp => (ms_cons (ms_set sc_deeds_of_way.nd (mcG C_shared_winds tk gd hr (mp_cons (mp_var 0) (mp_cons (mp_var 1) (mp_cons (mp_var 2) mp_nil)))))
 (ms_cons (ms_setLc (own := [("position", 5), ("birth", 6)]) rfl sc_deeds_of_way.nd (mi_rev rfl T.z_reversed (mp_slice (mcG C_winds_of tk gd hr (mp_cons (mp_var 0) (mp_cons (mp_var 2) mp_nil))) (mp_psome (mp_var 3)) mp_pno)) (blkOk_by (N := N_deeds_of_way) (sc := defScope s_deeds_of_way) (by decide +kernel)) (by decide) (fun _ _ _ _ _ => (mg_tup rfl (mg_cons (mg_name sc_deeds_of_way.nd) (mg_cons (mg_name sc_deeds_of_way.nd) mg_nil)))) (fun _ _ _ _ _ => mts_nil) (fun _ _ _ _ _ => (mp_tup (mp_cons mp_str (mp_cons (mp_var 5) (mp_cons (mp_var 6) mp_nil))))) (sw_true rfl rfl rfl (by decide +kernel)))
 (ms_one (ms_ret (mp_callTy call_tuple_of tupOf_ok rfl T.z_tuple bt_tuple (mp_cons (mp_op op_addV addV_ok (mp_var 4) (mp_lc (own := [("position", 5), ("birth", 6)]) rfl sc_deeds_of_way.nd (mi_seq (mp_slice (mcG C_winds_of tk gd hr (mp_cons (mp_var 1) (mp_cons (mp_var 2) mp_nil))) (mp_psome (mp_var 3)) mp_pno)) (blkOk_by (N := N_deeds_of_way) (sc := defScope s_deeds_of_way) (by decide +kernel)) (by decide) (fun _ _ _ _ _ => (mg_tup rfl (mg_cons (mg_name sc_deeds_of_way.nd) (mg_cons (mg_name sc_deeds_of_way.nd) mg_nil)))) (fun _ _ _ _ _ => mts_nil) (fun _ _ _ _ _ => (mp_tup (mp_cons mp_str (mp_cons (mp_var 5) (mp_cons (mp_var 6) mp_nil))))))) mp_nil))))))
abbrev N__law_pick : List Str := ["hand", "things"]
theorem sc__law_pick : FnScope N__law_pick ["hand", "things"] (defScope s__law_pick) := ⟨rfl, rfl, rfl, by decide +kernel, rfl, by decide +kernel, by decide +kernel⟩
theorem ok__law_pick (T : Txt K mg) (C__law_draw : CalG P w K mg base 2 "_law_draw" m__law_draw) {f : Addr} {fd : FuncData} (F : DefAt K mg "_law_pick" s__law_pick f fd ["hand", "things"]) : FnG P w K mg base 3 f fd ["hand", "things"] (spM K m__law_pick) :=
  okG F.fn sc__law_pick fun cdv A outer s H E hr gd tk hp => (ms_one (ms_ret (mp_idx (hu_of hr) (mp_var 1) (mcG C__law_draw tk gd hr (mp_cons (mp_var 0) (mp_cons (mp_callB call_lenV lenV_ok rfl T.z_len bt_len (mp_cons (mp_var 1) mp_nil)) mp_nil))))))
abbrev N_go_to : List Str := ["below", "frames", "entered", "things", "present", "deeds", "word", "position", "birth"]
theorem sc_go_to : FnScope N_go_to ["below", "frames", "entered", "things"] (defScope s_go_to) := ⟨rfl, rfl, rfl, by decide +kernel, rfl, by decide +kernel, by decide +kernel⟩
theorem ok_go_to (T : Txt K mg) (C_winds_of : CalG P w K mg base 1 "winds_of" m_winds_of) (C_deeds_of_way : CalG P w K mg base 3 "deeds_of_way" m_deeds_of_way) (C_shared_winds : CalG P w K mg base 2 "shared_winds" m_shared_winds) {f : Addr} {fd : FuncData} (F : DefAt K mg "go_to" s_go_to f fd ["below", "frames", "entered", "things"]) : FnG P w K mg base 4 f fd ["below", "frames", "entered", "things"] (spM K m_go_to) :=
  okG F.fn sc_go_to fun cdv A outer s H E hr gd tk hp => (ms_cons (ms_set sc_go_to.nd (mp_var 0))
 (ms_cons (ms_if (mt_cmp op_gt gtV_ok (mp_var 2) mp_int)
 (ms_one (ms_set sc_go_to.nd (mp_slice (mp_var 1) mp_pno (mp_psome (mp_op op_addV addV_ok (mp_idx (hu_of hr) (mp_idx (hu_of hr) (mcG C_winds_of tk gd hr (mp_cons (mp_var 1) (mp_cons (mp_var 3) mp_nil))) (mp_op op_sub subV_ok (mp_var 2) mp_int)) mp_int) mp_int)))))
 ms_nil)
 (ms_cons (ms_set sc_go_to.nd (mcG C_deeds_of_way tk gd hr (mp_cons (mp_var 4) (mp_cons (mp_var 1) (mp_cons (mp_var 3) mp_nil)))))
 (ms_cons (ms_if (mt_cmp (op_eqM hr.units) eqV_ok (mp_var 5) (mp_tup mp_nil))
 (ms_one (ms_ret (mp_tup (mp_cons mp_str (mp_cons mp_non (mp_cons (mp_var 1) (mp_cons mp_non mp_nil)))))))
 ms_nil)
 (ms_cons (ms_asg (mp_idx (hu_of hr) (mp_var 5) mp_int) (mg_tup rfl (mg_cons (mg_name sc_go_to.nd) (mg_cons (mg_name sc_go_to.nd) (mg_cons (mg_name sc_go_to.nd) mg_nil)))))
 (ms_cons (ms_if (mt_cmp (op_eqM hr.units) eqV_ok (mp_var 6) mp_str)
 (ms_one (ms_ret (mp_tup (mp_cons mp_str (mp_cons (mp_idx (hu_of hr) (mp_idx (hu_of hr) (mp_var 3) (mp_var 8)) mp_int) (mp_cons (mp_slice (mp_var 4) mp_pno (mp_psome (mp_var 7))) (mp_cons (mp_tup (mp_cons mp_str (mp_cons (mp_var 1) (mp_cons mp_int mp_nil)))) mp_nil)))))))
 ms_nil)
 (ms_cons (ms_set sc_go_to.nd (mp_op op_addV addV_ok (mcG C_shared_winds tk gd hr (mp_cons (mp_var 4) (mp_cons (mp_var 1) (mp_cons (mp_var 3) mp_nil)))) mp_int))
 (ms_one (ms_ret (mp_tup (mp_cons mp_str (mp_cons (mp_idx (hu_of hr) (mp_idx (hu_of hr) (mp_var 3) (mp_var 8)) mp_int) (mp_cons (mp_slice (mp_var 1) mp_pno (mp_psome (mp_var 7))) (mp_cons (mp_tup (mp_cons mp_str (mp_cons (mp_var 1) (mp_cons (mp_var 2) mp_nil)))) mp_nil))))))))))))))
abbrev N__law_things : List Str := ["hand", "many", "things", "birth", "pick"]
theorem sc__law_things : FnScope N__law_things ["hand", "many"] (defScope s__law_things) := ⟨rfl, rfl, rfl, by decide +kernel, rfl, by decide +kernel, by decide +kernel⟩
theorem ok__law_things (T : Txt K mg) (C__law_draw : CalG P w K mg base 2 "_law_draw" m__law_draw) (C__law_pick : CalG P w K mg base 3 "_law_pick" m__law_pick) {f : Addr} {fd : FuncData} (F : DefAt K mg "_law_things" s__law_things f fd ["hand", "many"]) : FnG P w K mg base 4 f fd ["hand", "many"] (spM K m__law_things) :=
  okG F.fn sc__law_things fun cdv A outer s H E hr gd tk hp => (ms_cons (ms_set sc__law_things.nd mp_dnewK)
 (ms_cons (ms_for hp rfl (mi_range2 rfl T.z_range (mp_cons mp_int (mp_cons (mp_op op_addV addV_ok mp_int (mp_var 1)) mp_nil))) (mg_name sc__law_things.nd)
 (ms_cons (ms_set sc__law_things.nd (mcG C__law_draw tk gd hr (mp_cons (mp_var 0) (mp_cons mp_int mp_nil))))
 (ms_one (ms_if (mt_cmp op_ltV ltV_ok (mp_var 4) mp_int)
 (ms_one (ms_put (hu_of hr) (mp_var 2) (mp_var 3) (mp_tup (mp_cons mp_str (mp_cons (mp_op op_addV addV_ok mp_int (mp_var 3)) (mp_cons (mp_op op_addV addV_ok mp_int (mp_var 3)) mp_nil))))))
 (ms_one (ms_if (mt_cmp op_ltV ltV_ok (mp_var 4) mp_int)
 (ms_one (ms_put (hu_of hr) (mp_var 2) (mp_var 3) (mp_tup (mp_cons mp_str (mp_cons (mcG C__law_draw tk gd hr (mp_cons (mp_var 0) (mp_cons mp_int mp_nil))) (mp_cons (mp_tup (mp_cons (mp_var 3) mp_nil)) mp_nil))))))
 (ms_one (ms_if (mt_cmp (op_eqM hr.units) eqV_ok (mp_var 4) mp_int)
 (ms_one (ms_put (hu_of hr) (mp_var 2) (mp_var 3) (mp_tup (mp_cons mp_str mp_nil))))
 (ms_one (ms_put (hu_of hr) (mp_var 2) (mp_var 3) (mcG C__law_pick tk gd hr (mp_cons (mp_var 0) (mp_cons (mp_lst (mp_cons (mp_tup (mp_cons mp_str (mp_cons mp_int mp_nil))) (mp_cons (mp_tup (mp_cons mp_str (mp_cons (mp_tup (mp_cons mp_str mp_nil)) (mp_cons (mp_tup (mp_cons mp_str (mp_cons mp_int mp_nil))) mp_nil)))) (mp_cons (mp_tup (mp_cons mp_str mp_nil)) mp_nil)))) mp_nil)))))))))))))
 (ms_one (ms_ret (mp_var 2)))))
abbrev N__law_row : List Str := ["hand", "things", "most", "births", "k"]
theorem sc__law_row : FnScope N__law_row ["hand", "things", "most"] (defScope s__law_row) := ⟨rfl, rfl, rfl, by decide +kernel, rfl, by decide +kernel, by decide +kernel⟩
theorem ok__law_row (T : Txt K mg) (C__law_draw : CalG P w K mg base 2 "_law_draw" m__law_draw) (C__law_pick : CalG P w K mg base 3 "_law_pick" m__law_pick) {f : Addr} {fd : FuncData} (F : DefAt K mg "_law_row" s__law_row f fd ["hand", "things", "most"]) : FnG P w K mg base 4 f fd ["hand", "things", "most"] (spM K m__law_row) :=
  okG F.fn sc__law_row fun cdv A outer s H E hr gd tk hp => (ms_cons (ms_set sc__law_row.nd (mp_sortK rfl rfl T.z_sorted bt_sorted (mp_var 1)))
 (ms_one (ms_ret (mp_callTy call_tuple_of tupOf_ok rfl T.z_tuple bt_tuple (mp_cons (mp_lc (own := [("k", 4)]) rfl sc__law_row.nd (mi_range1 rfl T.z_range (mp_cons (mcG C__law_draw tk gd hr (mp_cons (mp_var 0) (mp_cons (mp_op op_addV addV_ok (mp_var 2) mp_int) mp_nil))) mp_nil)) (blkOk_by (N := N__law_row) (sc := defScope s__law_row) (by decide +kernel)) (by decide) (fun _ _ _ _ _ => (mg_name sc__law_row.nd)) (fun _ _ _ _ _ => mts_nil) (fun _ _ _ _ _ => (mcG C__law_pick takes0 gd hr (mp_cons (mp_var 0) (mp_cons (mp_var 3) mp_nil))))) mp_nil)))))
abbrev N_next_step : List Str := ["below", "road", "things", "word"]
theorem sc_next_step : FnScope N_next_step ["below", "road", "things"] (defScope s_next_step) := ⟨rfl, rfl, rfl, by decide +kernel, rfl, by decide +kernel, by decide +kernel⟩
theorem ok_next_step (T : Txt K mg) (C_go_to : CalG P w K mg base 4 "go_to" m_go_to) (C_lay_on : CalG P w K mg base 1 "lay_on" m_lay_on) (C_take_off : CalG P w K mg base 2 "take_off" m_take_off) {f : Addr} {fd : FuncData} (F : DefAt K mg "next_step" s_next_step f fd ["below", "road", "things"]) : FnG P w K mg base 5 f fd ["below", "road", "things"] (spM K m_next_step) :=
  okG F.fn sc_next_step fun cdv A outer s H E hr gd tk hp => (ms_cons (ms_set sc_next_step.nd (mp_idx (hu_of hr) (mp_var 1) mp_int))
 (ms_cons (ms_if (mt_cmp (op_eqM hr.units) eqV_ok (mp_var 3) mp_str)
 (ms_one (ms_ret (mcG C_go_to tk gd hr (mp_cons (mp_var 0) (mp_cons (mp_idx (hu_of hr) (mp_var 1) mp_int) (mp_cons (mp_idx (hu_of hr) (mp_var 1) mp_int) (mp_cons (mp_var 2) mp_nil)))))))
 ms_nil)
 (ms_cons (ms_if (mt_cmp (op_eqM hr.units) eqV_ok (mp_var 3) mp_str)
 (ms_one (ms_ret (mcG C_lay_on tk gd hr (mp_cons (mp_op op_addV addV_ok (mp_var 0) (mp_slice (mp_idx (hu_of hr) (mp_var 1) mp_int) mp_pno (mp_psome mp_int))) (mp_cons (mp_slice (mp_idx (hu_of hr) (mp_var 1) mp_int) (mp_psome mp_int) mp_pno) (mp_cons (mp_var 2) mp_nil))))))
 ms_nil)
 (ms_cons (ms_if (mt_cmp (op_eqM hr.units) eqV_ok (mp_var 3) mp_str)
 (ms_one (ms_ret (mcG C_take_off tk gd hr (mp_cons (mp_var 0) (mp_cons (mp_var 2) mp_nil)))))
 ms_nil)
 (ms_one (ms_ret (mp_tup (mp_cons mp_str (mp_cons mp_non (mp_cons (mp_var 0) (mp_cons mp_non mp_nil)))))))))))
abbrev N__law_walked : List Str := ["step", "things", "most", "steps", "k"]
theorem sc__law_walked : FnScope N__law_walked ["step", "things", "most"] (defScope s__law_walked) := ⟨rfl, rfl, rfl, by decide +kernel, rfl, by decide +kernel, by decide +kernel⟩
theorem ok__law_walked (T : Txt K mg) (C_next_step : CalG P w K mg base 5 "next_step" m_next_step) {f : Addr} {fd : FuncData} (F : DefAt K mg "_law_walked" s__law_walked f fd ["step", "things", "most"]) : FnG P w K mg base 6 f fd ["step", "things", "most"] (spM K m__law_walked) :=
  okG F.fn sc__law_walked fun cdv A outer s H E hr gd tk hp => (ms_cons (ms_set sc__law_walked.nd (mp_lst mp_nil))
 (ms_cons (ms_for hp rfl (mi_range1 rfl T.z_range (mp_cons (mp_var 2) mp_nil)) (mg_name sc__law_walked.nd)
 (ms_cons (ms_expr (mp_bm PySem.F.plainAttrs_list PySem.F.slot_list_append PySem.F.type_list_append mt_append appendV_ok (mp_var 3) (mp_cons (mp_var 0) mp_nil)))
 (ms_cons (ms_if (mt_pw (mw_or (mt_not (mt_truth (mp_callB call_isi isiV_ok rfl T.z_isinstance bt_isinstance (mp_cons (mp_var 0) (mp_cons (mp_ty rfl T.z_tuple bt_tuple) mp_nil))))) (mw_or (mt_cmp (op_neM hr.units) neV_ok (mp_callB call_lenV lenV_ok rfl T.z_len bt_len (mp_cons (mp_var 0) mp_nil)) mp_int) (mw_or1 (mt_cmp (op_eqM hr.units) eqV_ok (mp_idx (hu_of hr) (mp_var 0) mp_int) mp_str)))))
 (ms_one ms_break)
 ms_nil)
 (ms_one (ms_set sc__law_walked.nd (mcG C_next_step tk gd hr (mp_cons (mp_idx (hu_of hr) (mp_var 0) mp_int) (mp_cons (mp_idx (hu_of hr) (mp_var 0) mp_int) (mp_cons (mp_var 1) mp_nil)))))))))
 (ms_one (ms_ret (mp_var 3)))))
abbrev N__law_to_elsewhere : List Str := ["hand", "things", "goal", "other", "winds", "entered", "at", "birth", "due"]
theorem sc__law_to_elsewhere : FnScope N__law_to_elsewhere ["hand", "things", "goal", "other"] (defScope s__law_to_elsewhere) := ⟨rfl, rfl, rfl, by decide +kernel, rfl, by decide +kernel, by decide +kernel⟩
theorem ok__law_to_elsewhere (T : Txt K mg) (C__law_winds_of : CalG P w K mg base 1 "_law_winds_of" m__law_winds_of) (C__law_draw : CalG P w K mg base 2 "_law_draw" m__law_draw) (C_next_step : CalG P w K mg base 5 "next_step" m_next_step) {f : Addr} {fd : FuncData} (F : DefAt K mg "_law_to_elsewhere" s__law_to_elsewhere f fd ["hand", "things", "goal", "other"]) : FnG P w K mg base 6 f fd ["hand", "things", "goal", "other"] (spM K m__law_to_elsewhere) :=
  okG F.fn sc__law_to_elsewhere fun cdv A outer s H E hr gd tk hp => (ms_cons (ms_set sc__law_to_elsewhere.nd (mcG C__law_winds_of tk gd hr (mp_cons (mp_var 2) (mp_cons (mp_var 1) mp_nil))))
 (ms_cons (ms_if (mt_cmp (op_neM hr.units) neV_ok (mp_var 4) (mp_lst mp_nil))
 (ms_cons (ms_set sc__law_to_elsewhere.nd (mp_op op_addV addV_ok mp_int (mcG C__law_draw tk gd hr (mp_cons (mp_var 0) (mp_cons (mp_callB call_lenV lenV_ok rfl T.z_len bt_len (mp_cons (mp_var 4) mp_nil)) mp_nil)))))
 (ms_cons (ms_if (mt_cmp op_ltV ltV_ok (mp_var 5) (mp_callB call_lenV lenV_ok rfl T.z_len bt_len (mp_cons (mp_var 4) mp_nil)))
 (ms_cons (ms_asg (mp_idx (hu_of hr) (mp_var 4) (mp_var 5)) (mg_tup rfl (mg_cons (mg_name sc__law_to_elsewhere.nd) (mg_cons (mg_name sc__law_to_elsewhere.nd) mg_nil))))
 (ms_one (ms_set sc__law_to_elsewhere.nd (mp_tup (mp_cons mp_str (mp_cons (mp_op op_addV addV_ok mp_int (mp_var 7)) (mp_cons (mp_slice (mp_var 2) mp_pno (mp_psome (mp_var 6))) (mp_cons (mp_tup (mp_cons mp_str (mp_cons (mp_var 2) (mp_cons (mp_op op_addV addV_ok (mp_var 5) mp_int) mp_nil)))) mp_nil))))))))
 (ms_one (ms_set sc__law_to_elsewhere.nd (mp_tup (mp_cons mp_str (mp_cons mp_non (mp_cons (mp_var 2) (mp_cons mp_non mp_nil))))))))
 (ms_one (ms_if (mt_cmp (op_neM hr.units) neV_ok (mp_callB (call_reprD gd hr) reprV_ok rfl T.z_repr bt_repr (mp_cons (mcG C_next_step tk gd hr (mp_cons (mp_var 3) (mp_cons (mp_tup (mp_cons mp_str (mp_cons (mp_var 2) (mp_cons (mp_var 5) mp_nil)))) (mp_cons (mp_var 1) mp_nil)))) mp_nil)) (mp_callB (call_reprD gd hr) reprV_ok rfl T.z_repr bt_repr (mp_cons (mp_var 8) mp_nil)))
 (ms_one (ms_ret mp_bl))
 ms_nil))))
 ms_nil)
 (ms_one (ms_ret (mp_cmp (op_eqM hr.units) eqV_ok (mp_callB (call_reprD gd hr) reprV_ok rfl T.z_repr bt_repr (mp_cons (mcG C_next_step tk gd hr (mp_cons (mp_var 3) (mp_cons (mp_tup (mp_cons mp_str mp_nil)) (mp_cons (mp_var 1) mp_nil)))) mp_nil)) (mp_callB (call_reprD gd hr) reprV_ok rfl T.z_repr bt_repr (mp_cons (mp_tup (mp_cons mp_str (mp_cons mp_non (mp_cons (mp_var 3) (mp_cons mp_non mp_nil))))) mp_nil)))))))
abbrev N__law_elsewhere : List Str := ["hand", "things", "steps", "other", "word", "deed", "frames", "road", "told", "laid"]
theorem sc__law_elsewhere : FnScope N__law_elsewhere ["hand", "things", "steps", "other"] (defScope s__law_elsewhere) := ⟨rfl, rfl, rfl, by decide +kernel, rfl, by decide +kernel, by decide +kernel⟩
theorem ok__law_elsewhere (T : Txt K mg) (C__law_pick : CalG P w K mg base 3 "_law_pick" m__law_pick) (C__law_walked : CalG P w K mg base 6 "_law_walked" m__law_walked) (C_next_step : CalG P w K mg base 5 "next_step" m_next_step) (C__law_off_steps : CalG P w K mg base 2 "_law_off_steps" m__law_off_steps) (C__law_on_steps : CalG P w K mg base 2 "_law_on_steps" m__law_on_steps) {f : Addr} {fd : FuncData} (F : DefAt K mg "_law_elsewhere" s__law_elsewhere f fd ["hand", "things", "steps", "other"]) : FnG P w K mg base 7 f fd ["hand", "things", "steps", "other"] (spM K m__law_elsewhere) :=
  okG F.fn sc__law_elsewhere fun cdv A outer s H E hr gd tk hp => (ms_cons (ms_asg (mcG C__law_pick tk gd hr (mp_cons (mp_var 0) (mp_cons (mp_var 2) mp_nil))) (mg_tup rfl (mg_cons (mg_name sc__law_elsewhere.nd) (mg_cons (mg_name sc__law_elsewhere.nd) (mg_cons (mg_name sc__law_elsewhere.nd) (mg_cons (mg_name sc__law_elsewhere.nd) mg_nil))))))
 (ms_cons (ms_if (mt_cmp (op_eqM hr.units) eqV_ok (mp_var 4) mp_str)
 (ms_one (ms_ret mp_bl))
 ms_nil)
 (ms_cons (ms_set sc__law_elsewhere.nd (mcG C__law_walked tk gd hr (mp_cons (mcG C_next_step tk gd hr (mp_cons (mp_var 3) (mp_cons (mp_var 7) (mp_cons (mp_var 1) mp_nil)))) (mp_cons (mp_var 1) (mp_cons mp_int mp_nil)))))
 (ms_cons (ms_if (mt_cmp (op_eqM hr.units) eqV_ok (mp_var 4) mp_str)
 (ms_one (ms_ret (mp_cmp (op_eqM hr.units) eqV_ok (mp_callB (call_reprD gd hr) reprV_ok rfl T.z_repr bt_repr (mp_cons (mp_var 8) mp_nil)) (mp_callB (call_reprD gd hr) reprV_ok rfl T.z_repr bt_repr (mp_cons (mcG C__law_off_steps tk gd hr (mp_cons (mp_var 3) (mp_cons (mp_var 1) mp_nil))) mp_nil)))))
 ms_nil)
 (ms_cons (ms_set sc__law_elsewhere.nd (mp_idx (hu_of hr) (mp_var 7) mp_int))
 (ms_one (ms_ret (mp_cmp (op_eqM hr.units) eqV_ok (mp_callB (call_reprD gd hr) reprV_ok rfl T.z_repr bt_repr (mp_cons (mp_var 8) mp_nil)) (mp_callB (call_reprD gd hr) reprV_ok rfl T.z_repr bt_repr (mp_cons (mcG C__law_on_steps tk gd hr (mp_cons (mp_op op_addV addV_ok (mp_var 3) (mp_slice (mp_var 9) mp_pno (mp_psome mp_int))) (mp_cons (mp_slice (mp_var 9) (mp_psome mp_int) mp_pno) (mp_cons (mp_var 1) mp_nil)))) mp_nil))))))))))
abbrev N_law : List Str := ["script", "hand", "turn", "things", "kept", "frames", "other", "off", "cut", "base", "piece", "on", "more", "first", "second", "both", "step", "word", "deed", "below", "road"]
theorem sc_law : FnScope N_law ["script"] (defScope s_law) := ⟨rfl, rfl, rfl, by decide +kernel, rfl, by decide +kernel, by decide +kernel⟩
theorem ok_law (T : Txt K mg) (C__law_hand : CalG P w K mg base 1 "_law_hand" m__law_hand) (C__law_things : CalG P w K mg base 4 "_law_things" m__law_things) (C__law_draw : CalG P w K mg base 2 "_law_draw" m__law_draw) (C__law_row : CalG P w K mg base 4 "_law_row" m__law_row) (C__law_pick : CalG P w K mg base 3 "_law_pick" m__law_pick) (C__law_off_steps : CalG P w K mg base 2 "_law_off_steps" m__law_off_steps) (C__law_walked : CalG P w K mg base 6 "_law_walked" m__law_walked) (C_next_step : CalG P w K mg base 5 "next_step" m_next_step) (C_mark_cut : CalG P w K mg base 1 "mark_cut" m_mark_cut) (C__law_on_steps : CalG P w K mg base 2 "_law_on_steps" m__law_on_steps) (C_lay_on : CalG P w K mg base 1 "lay_on" m_lay_on) (C__law_elsewhere : CalG P w K mg base 7 "_law_elsewhere" m__law_elsewhere) (C__law_to_elsewhere : CalG P w K mg base 6 "_law_to_elsewhere" m__law_to_elsewhere) {f : Addr} {fd : FuncData} (F : DefAt K mg "law" s_law f fd ["script"]) : FnG P w K mg base 8 f fd ["script"] (spM K m_law) :=
  okG F.fn sc_law fun cdv A outer s H E hr gd tk hp => (ms_cons (ms_set sc_law.nd (mcG C__law_hand tk gd hr (mp_cons (mp_var 0) mp_nil)))
 (ms_cons (ms_for hp rfl (mi_range1 rfl T.z_range (mp_cons mp_int mp_nil)) (mg_name sc_law.nd)
 (ms_cons (ms_set sc_law.nd (mcG C__law_things tk gd hr (mp_cons (mp_var 1) (mp_cons (mp_op op_addV addV_ok mp_int (mcG C__law_draw tk gd hr (mp_cons (mp_var 1) (mp_cons mp_int mp_nil)))) mp_nil))))
 (ms_cons (ms_set sc_law.nd (mp_callB (call_reprD gd hr) reprV_ok rfl T.z_repr bt_repr (mp_cons (mp_var 3) mp_nil)))
 (ms_cons (ms_set sc_law.nd (mcG C__law_row tk gd hr (mp_cons (mp_var 1) (mp_cons (mp_var 3) (mp_cons (mcG C__law_pick tk gd hr (mp_cons (mp_var 1) (mp_cons (mp_lst (mp_cons mp_int (mp_cons mp_int (mp_cons mp_int mp_nil)))) mp_nil))) mp_nil)))))
 (ms_cons (ms_set sc_law.nd (mcG C__law_row tk gd hr (mp_cons (mp_var 1) (mp_cons (mp_var 3) (mp_cons mp_int mp_nil)))))
 (ms_cons (ms_set sc_law.nd (mcG C__law_off_steps tk gd hr (mp_cons (mp_var 5) (mp_cons (mp_var 3) mp_nil))))
 (ms_cons (ms_if (mt_cmp (op_neM hr.units) neV_ok (mp_callB (call_reprD gd hr) reprV_ok rfl T.z_repr bt_repr (mp_cons (mcG C__law_walked tk gd hr (mp_cons (mcG C_next_step tk gd hr (mp_cons (mp_var 5) (mp_cons (mp_tup (mp_cons mp_str mp_nil)) (mp_cons (mp_var 3) mp_nil)))) (mp_cons (mp_var 3) (mp_cons mp_int mp_nil)))) mp_nil)) (mp_callB (call_reprD gd hr) reprV_ok rfl T.z_repr bt_repr (mp_cons (mp_var 7) mp_nil)))
 (ms_one (ms_ret mp_bl))
 ms_nil)
 (ms_cons (ms_set sc_law.nd (mcG C_mark_cut tk gd hr (mp_cons (mp_var 5) (mp_cons (mp_var 3) mp_nil))))
 (ms_cons (ms_par rfl sc_law.nd (by decide) (mp_cons (mp_slice (mp_var 5) mp_pno (mp_psome (mp_var 8))) (mp_cons (mp_slice (mp_var 5) (mp_psome (mp_var 8)) mp_pno) mp_nil)) rfl)
 (ms_cons (ms_set sc_law.nd (mcG C__law_on_steps tk gd hr (mp_cons (mp_var 9) (mp_cons (mp_var 10) (mp_cons (mp_var 3) mp_nil)))))
 (ms_cons (ms_if (mt_cmp (op_neM hr.units) neV_ok (mp_callB (call_reprD gd hr) reprV_ok rfl T.z_repr bt_repr (mp_cons (mcG C__law_walked tk gd hr (mp_cons (mcG C_lay_on tk gd hr (mp_cons (mp_var 9) (mp_cons (mp_var 10) (mp_cons (mp_var 3) mp_nil)))) (mp_cons (mp_var 3) (mp_cons mp_int mp_nil)))) mp_nil)) (mp_callB (call_reprD gd hr) reprV_ok rfl T.z_repr bt_repr (mp_cons (mp_var 11) mp_nil)))
 (ms_one (ms_ret mp_bl))
 ms_nil)
 (ms_cons (ms_if (mt_cmp (op_neM hr.units) neV_ok (mp_lc (own := [("step", 16)]) rfl sc_law.nd (mi_seq (mp_slice (mp_var 11) mp_pno (mp_psome (mp_un un_neg negV_ok mp_int)))) (blkOk_by (N := N_law) (sc := defScope s_law) (by decide +kernel)) (by decide) (fun _ _ _ _ _ => (mg_name sc_law.nd)) (fun _ _ _ _ _ => mts_nil) (fun _ _ _ _ _ => (mp_op op_sub subV_ok (mp_idx (hu_of hr) (mp_var 16) mp_int) mp_int))) (mp_revL (mp_lc (own := [("step", 16)]) rfl sc_law.nd (mi_seq (mp_slice (mp_var 7) mp_pno (mp_psome (mp_un un_neg negV_ok mp_int)))) (blkOk_by (N := N_law) (sc := defScope s_law) (by decide +kernel)) (by decide) (fun _ _ _ _ _ => (mg_name sc_law.nd)) (fun _ _ _ _ _ => mts_nil) (fun _ _ _ _ _ => (mp_op op_sub subV_ok (mp_idx (hu_of hr) (mp_var 16) mp_int) mp_int)))))
 (ms_one (ms_ret mp_bl))
 ms_nil)
 (ms_cons (ms_set sc_law.nd (mcG C__law_row tk gd hr (mp_cons (mp_var 1) (mp_cons (mp_var 3) (mp_cons mp_int mp_nil)))))
 (ms_cons (ms_set sc_law.nd (mcG C__law_walked tk gd hr (mp_cons (mcG C_lay_on tk gd hr (mp_cons (mp_var 6) (mp_cons (mp_var 10) (mp_cons (mp_var 3) mp_nil)))) (mp_cons (mp_var 3) (mp_cons mp_int mp_nil)))))
 (ms_cons (ms_set sc_law.nd (mcG C__law_walked tk gd hr (mp_cons (mcG C_lay_on tk gd hr (mp_cons (mp_op op_addV addV_ok (mp_var 6) (mp_var 10)) (mp_cons (mp_var 12) (mp_cons (mp_var 3) mp_nil)))) (mp_cons (mp_var 3) (mp_cons mp_int mp_nil)))))
 (ms_cons (ms_set sc_law.nd (mp_op op_addV addV_ok (mp_lc (own := [("word", 17), ("deed", 18), ("below", 19), ("road", 20)]) rfl sc_law.nd (mi_seq (mp_slice (mp_var 13) mp_pno (mp_psome (mp_un un_neg negV_ok mp_int)))) (blkOk_by (N := N_law) (sc := defScope s_law) (by decide +kernel)) (by decide) (fun _ _ _ _ _ => (mg_tup rfl (mg_cons (mg_name sc_law.nd) (mg_cons (mg_name sc_law.nd) (mg_cons (mg_name sc_law.nd) (mg_cons (mg_name sc_law.nd) mg_nil)))))) (fun _ _ _ _ _ => mts_nil) (fun _ _ _ _ _ => (mp_tup (mp_cons (mp_var 17) (mp_cons (mp_var 18) (mp_cons (mp_var 19) (mp_cons (mp_tup (mp_cons mp_str (mp_cons (mp_op op_addV addV_ok (mp_idx (hu_of hr) (mp_var 20) mp_int) (mp_var 12)) mp_nil))) mp_nil))))))) (mp_var 14)))
 (ms_cons (ms_if (mt_cmp (op_neM hr.units) neV_ok (mp_callB (call_reprD gd hr) reprV_ok rfl T.z_repr bt_repr (mp_cons (mcG C__law_walked tk gd hr (mp_cons (mcG C_lay_on tk gd hr (mp_cons (mp_var 6) (mp_cons (mp_op op_addV addV_ok (mp_var 10) (mp_var 12)) (mp_cons (mp_var 3) mp_nil)))) (mp_cons (mp_var 3) (mp_cons mp_int mp_nil)))) mp_nil)) (mp_callB (call_reprD gd hr) reprV_ok rfl T.z_repr bt_repr (mp_cons (mp_var 15) mp_nil)))
 (ms_one (ms_ret mp_bl))
 ms_nil)
 (ms_cons (ms_if (mt_cmp (op_neM hr.units) neV_ok (mp_callB (call_reprD gd hr) reprV_ok rfl T.z_repr bt_repr (mp_cons (mp_var 14) mp_nil)) (mp_callB (call_reprD gd hr) reprV_ok rfl T.z_repr bt_repr (mp_cons (mcG C__law_on_steps tk gd hr (mp_cons (mp_op op_addV addV_ok (mp_var 6) (mp_var 10)) (mp_cons (mp_var 12) (mp_cons (mp_var 3) mp_nil)))) mp_nil)))
 (ms_one (ms_ret mp_bl))
 ms_nil)
 (ms_cons (ms_if (mt_pw (mw_or (mt_not (mt_truth (mcG C__law_elsewhere tk gd hr (mp_cons (mp_var 1) (mp_cons (mp_var 3) (mp_cons (mp_var 7) (mp_cons (mp_var 6) mp_nil))))))) (mw_or1 (mt_not (mt_truth (mcG C__law_elsewhere tk gd hr (mp_cons (mp_var 1) (mp_cons (mp_var 3) (mp_cons (mp_var 11) (mp_cons (mp_var 6) mp_nil))))))))))
 (ms_one (ms_ret mp_bl))
 ms_nil)
 (ms_one (ms_if (mt_pw (mw_or (mt_not (mt_truth (mcG C__law_to_elsewhere tk gd hr (mp_cons (mp_var 1) (mp_cons (mp_var 3) (mp_cons (mp_var 5) (mp_cons (mp_var 6) mp_nil))))))) (mw_or1 (mt_cmp (op_neM hr.units) neV_ok (mp_callB (call_reprD gd hr) reprV_ok rfl T.z_repr bt_repr (mp_cons (mp_var 3) mp_nil)) (mp_var 4)))))
 (ms_one (ms_ret mp_bl))
 ms_nil)))))))))))))))))))))
 (ms_one (ms_ret mp_bl))))
end
theorem all_mk {l : PySem.W.OpenLaw} {w : World} {K : PySem.W.Frag} {h : Heap} {mg : Str → Option Value} {fa f0 f1 f2 f3 f4 f5 f6 f7 f8 f9 f10 f11 f12 f13 f14 f15 f16 f17 f18 f19 f20 f21 : Addr} (X : K.In h) (G : h.Ns mainGlobals mg) (hfa : mg "law" = some (.ref fa))
    {od0 an0 od1 an1 od2 an2 od3 an3 od4 an4 od5 an5 od6 an6 od7 an7 od8 an8 od9 an9 od10 an10 od11 an11 od12 an12 od13 an13 od14 an14 od15 an15 od16 an16 od17 an17 od18 an18 od19 an19 od20 an20 od21 an21 : Option Addr} {sl0 sl1 sl2 sl3 sl4 sl5 sl6 sl7 sl8 sl9 sl10 sl11 sl12 sl13 sl14 sl15 sl16 sl17 sl18 sl19 sl20 sl21 : Array (Option Value)} {oc0 kV0 dc0 pm0 cd0 ct0 oc1 kV1 dc1 pm1 cd1 ct1 oc2 kV2 dc2 pm2 cd2 ct2 oc3 kV3 dc3 pm3 cd3 ct3 oc4 kV4 dc4 pm4 cd4 ct4 oc5 kV5 dc5 pm5 cd5 ct5 oc6 kV6 dc6 pm6 cd6 ct6 oc7 kV7 dc7 pm7 cd7 ct7 oc8 kV8 dc8 pm8 cd8 ct8 oc9 kV9 dc9 pm9 cd9 ct9 oc10 kV10 dc10 pm10 cd10 ct10 oc11 kV11 dc11 pm11 cd11 ct11 oc12 kV12 dc12 pm12 cd12 ct12 oc13 kV13 dc13 pm13 cd13 ct13 oc14 kV14 dc14 pm14 cd14 ct14 oc15 kV15 dc15 pm15 cd15 ct15 oc16 kV16 dc16 pm16 cd16 ct16 oc17 kV17 dc17 pm17 cd17 ct17 oc18 kV18 dc18 pm18 cd18 ct18 oc19 kV19 dc19 pm19 cd19 ct19 oc20 kV20 dc20 pm20 cd20 ct20 oc21 kV21 dc21 pm21 cd21 ct21 : Value}
    (a0 : PySem.W.nsIn K mainGlobals "winds_of" = some (some (.ref f0))) (l0 : K.lookup f0 = some ⟨oc0, od0, .func (PySem.W.fnOf "winds_of" "winds_of" (defArgs s_winds_of) (defBody s_winds_of) (defScope s_winds_of) .none kV0 dc0 pm0 an0 cd0 ct0), sl0⟩) (c0 : PySem.W.codeIn K cd0 "winds_of" = true) (k0 : PySem.W.keepIn K (.ref f0) = true)
    (a1 : PySem.W.nsIn K mainGlobals "shared_winds" = some (some (.ref f1))) (l1 : K.lookup f1 = some ⟨oc1, od1, .func (PySem.W.fnOf "shared_winds" "shared_winds" (defArgs s_shared_winds) (defBody s_shared_winds) (defScope s_shared_winds) .none kV1 dc1 pm1 an1 cd1 ct1), sl1⟩) (c1 : PySem.W.codeIn K cd1 "shared_winds" = true) (k1 : PySem.W.keepIn K (.ref f1) = true)
    (a2 : PySem.W.nsIn K mainGlobals "deeds_of_way" = some (some (.ref f2))) (l2 : K.lookup f2 = some ⟨oc2, od2, .func (PySem.W.fnOf "deeds_of_way" "deeds_of_way" (defArgs s_deeds_of_way) (defBody s_deeds_of_way) (defScope s_deeds_of_way) .none kV2 dc2 pm2 an2 cd2 ct2), sl2⟩) (c2 : PySem.W.codeIn K cd2 "deeds_of_way" = true) (k2 : PySem.W.keepIn K (.ref f2) = true)
    (a3 : PySem.W.nsIn K mainGlobals "mark_cut" = some (some (.ref f3))) (l3 : K.lookup f3 = some ⟨oc3, od3, .func (PySem.W.fnOf "mark_cut" "mark_cut" (defArgs s_mark_cut) (defBody s_mark_cut) (defScope s_mark_cut) .none kV3 dc3 pm3 an3 cd3 ct3), sl3⟩) (c3 : PySem.W.codeIn K cd3 "mark_cut" = true) (k3 : PySem.W.keepIn K (.ref f3) = true)
    (a4 : PySem.W.nsIn K mainGlobals "last_wind" = some (some (.ref f4))) (l4 : K.lookup f4 = some ⟨oc4, od4, .func (PySem.W.fnOf "last_wind" "last_wind" (defArgs s_last_wind) (defBody s_last_wind) (defScope s_last_wind) .none kV4 dc4 pm4 an4 cd4 ct4), sl4⟩) (c4 : PySem.W.codeIn K cd4 "last_wind" = true) (k4 : PySem.W.keepIn K (.ref f4) = true)
    (a5 : PySem.W.nsIn K mainGlobals "lay_on" = some (some (.ref f5))) (l5 : K.lookup f5 = some ⟨oc5, od5, .func (PySem.W.fnOf "lay_on" "lay_on" (defArgs s_lay_on) (defBody s_lay_on) (defScope s_lay_on) .none kV5 dc5 pm5 an5 cd5 ct5), sl5⟩) (c5 : PySem.W.codeIn K cd5 "lay_on" = true) (k5 : PySem.W.keepIn K (.ref f5) = true)
    (a6 : PySem.W.nsIn K mainGlobals "take_off" = some (some (.ref f6))) (l6 : K.lookup f6 = some ⟨oc6, od6, .func (PySem.W.fnOf "take_off" "take_off" (defArgs s_take_off) (defBody s_take_off) (defScope s_take_off) .none kV6 dc6 pm6 an6 cd6 ct6), sl6⟩) (c6 : PySem.W.codeIn K cd6 "take_off" = true) (k6 : PySem.W.keepIn K (.ref f6) = true)
    (a7 : PySem.W.nsIn K mainGlobals "go_to" = some (some (.ref f7))) (l7 : K.lookup f7 = some ⟨oc7, od7, .func (PySem.W.fnOf "go_to" "go_to" (defArgs s_go_to) (defBody s_go_to) (defScope s_go_to) .none kV7 dc7 pm7 an7 cd7 ct7), sl7⟩) (c7 : PySem.W.codeIn K cd7 "go_to" = true) (k7 : PySem.W.keepIn K (.ref f7) = true)
    (a8 : PySem.W.nsIn K mainGlobals "next_step" = some (some (.ref f8))) (l8 : K.lookup f8 = some ⟨oc8, od8, .func (PySem.W.fnOf "next_step" "next_step" (defArgs s_next_step) (defBody s_next_step) (defScope s_next_step) .none kV8 dc8 pm8 an8 cd8 ct8), sl8⟩) (c8 : PySem.W.codeIn K cd8 "next_step" = true) (k8 : PySem.W.keepIn K (.ref f8) = true)
    (a9 : PySem.W.nsIn K mainGlobals "_law_mix" = some (some (.ref f9))) (l9 : K.lookup f9 = some ⟨oc9, od9, .func (PySem.W.fnOf "_law_mix" "_law_mix" (defArgs s__law_mix) (defBody s__law_mix) (defScope s__law_mix) .none kV9 dc9 pm9 an9 cd9 ct9), sl9⟩) (c9 : PySem.W.codeIn K cd9 "_law_mix" = true) (k9 : PySem.W.keepIn K (.ref f9) = true)
    (a10 : PySem.W.nsIn K mainGlobals "_law_hand" = some (some (.ref f10))) (l10 : K.lookup f10 = some ⟨oc10, od10, .func (PySem.W.fnOf "_law_hand" "_law_hand" (defArgs s__law_hand) (defBody s__law_hand) (defScope s__law_hand) .none kV10 dc10 pm10 an10 cd10 ct10), sl10⟩) (c10 : PySem.W.codeIn K cd10 "_law_hand" = true) (k10 : PySem.W.keepIn K (.ref f10) = true)
    (a11 : PySem.W.nsIn K mainGlobals "_law_draw" = some (some (.ref f11))) (l11 : K.lookup f11 = some ⟨oc11, od11, .func (PySem.W.fnOf "_law_draw" "_law_draw" (defArgs s__law_draw) (defBody s__law_draw) (defScope s__law_draw) .none kV11 dc11 pm11 an11 cd11 ct11), sl11⟩) (c11 : PySem.W.codeIn K cd11 "_law_draw" = true) (k11 : PySem.W.keepIn K (.ref f11) = true)
    (a12 : PySem.W.nsIn K mainGlobals "_law_pick" = some (some (.ref f12))) (l12 : K.lookup f12 = some ⟨oc12, od12, .func (PySem.W.fnOf "_law_pick" "_law_pick" (defArgs s__law_pick) (defBody s__law_pick) (defScope s__law_pick) .none kV12 dc12 pm12 an12 cd12 ct12), sl12⟩) (c12 : PySem.W.codeIn K cd12 "_law_pick" = true) (k12 : PySem.W.keepIn K (.ref f12) = true)
    (a13 : PySem.W.nsIn K mainGlobals "_law_things" = some (some (.ref f13))) (l13 : K.lookup f13 = some ⟨oc13, od13, .func (PySem.W.fnOf "_law_things" "_law_things" (defArgs s__law_things) (defBody s__law_things) (defScope s__law_things) .none kV13 dc13 pm13 an13 cd13 ct13), sl13⟩) (c13 : PySem.W.codeIn K cd13 "_law_things" = true) (k13 : PySem.W.keepIn K (.ref f13) = true)
    (a14 : PySem.W.nsIn K mainGlobals "_law_row" = some (some (.ref f14))) (l14 : K.lookup f14 = some ⟨oc14, od14, .func (PySem.W.fnOf "_law_row" "_law_row" (defArgs s__law_row) (defBody s__law_row) (defScope s__law_row) .none kV14 dc14 pm14 an14 cd14 ct14), sl14⟩) (c14 : PySem.W.codeIn K cd14 "_law_row" = true) (k14 : PySem.W.keepIn K (.ref f14) = true)
    (a15 : PySem.W.nsIn K mainGlobals "_law_winds_of" = some (some (.ref f15))) (l15 : K.lookup f15 = some ⟨oc15, od15, .func (PySem.W.fnOf "_law_winds_of" "_law_winds_of" (defArgs s__law_winds_of) (defBody s__law_winds_of) (defScope s__law_winds_of) .none kV15 dc15 pm15 an15 cd15 ct15), sl15⟩) (c15 : PySem.W.codeIn K cd15 "_law_winds_of" = true) (k15 : PySem.W.keepIn K (.ref f15) = true)
    (a16 : PySem.W.nsIn K mainGlobals "_law_off_steps" = some (some (.ref f16))) (l16 : K.lookup f16 = some ⟨oc16, od16, .func (PySem.W.fnOf "_law_off_steps" "_law_off_steps" (defArgs s__law_off_steps) (defBody s__law_off_steps) (defScope s__law_off_steps) .none kV16 dc16 pm16 an16 cd16 ct16), sl16⟩) (c16 : PySem.W.codeIn K cd16 "_law_off_steps" = true) (k16 : PySem.W.keepIn K (.ref f16) = true)
    (a17 : PySem.W.nsIn K mainGlobals "_law_on_steps" = some (some (.ref f17))) (l17 : K.lookup f17 = some ⟨oc17, od17, .func (PySem.W.fnOf "_law_on_steps" "_law_on_steps" (defArgs s__law_on_steps) (defBody s__law_on_steps) (defScope s__law_on_steps) .none kV17 dc17 pm17 an17 cd17 ct17), sl17⟩) (c17 : PySem.W.codeIn K cd17 "_law_on_steps" = true) (k17 : PySem.W.keepIn K (.ref f17) = true)
    (a18 : PySem.W.nsIn K mainGlobals "_law_walked" = some (some (.ref f18))) (l18 : K.lookup f18 = some ⟨oc18, od18, .func (PySem.W.fnOf "_law_walked" "_law_walked" (defArgs s__law_walked) (defBody s__law_walked) (defScope s__law_walked) .none kV18 dc18 pm18 an18 cd18 ct18), sl18⟩) (c18 : PySem.W.codeIn K cd18 "_law_walked" = true) (k18 : PySem.W.keepIn K (.ref f18) = true)
    (a19 : PySem.W.nsIn K mainGlobals "_law_elsewhere" = some (some (.ref f19))) (l19 : K.lookup f19 = some ⟨oc19, od19, .func (PySem.W.fnOf "_law_elsewhere" "_law_elsewhere" (defArgs s__law_elsewhere) (defBody s__law_elsewhere) (defScope s__law_elsewhere) .none kV19 dc19 pm19 an19 cd19 ct19), sl19⟩) (c19 : PySem.W.codeIn K cd19 "_law_elsewhere" = true) (k19 : PySem.W.keepIn K (.ref f19) = true)
    (a20 : PySem.W.nsIn K mainGlobals "_law_to_elsewhere" = some (some (.ref f20))) (l20 : K.lookup f20 = some ⟨oc20, od20, .func (PySem.W.fnOf "_law_to_elsewhere" "_law_to_elsewhere" (defArgs s__law_to_elsewhere) (defBody s__law_to_elsewhere) (defScope s__law_to_elsewhere) .none kV20 dc20 pm20 an20 cd20 ct20), sl20⟩) (c20 : PySem.W.codeIn K cd20 "_law_to_elsewhere" = true) (k20 : PySem.W.keepIn K (.ref f20) = true)
    (a21 : PySem.W.nsIn K mainGlobals "law" = some (some (.ref f21))) (l21 : K.lookup f21 = some ⟨oc21, od21, .func (PySem.W.fnOf "law" "law" (defArgs s_law) (defBody s_law) (defScope s_law) .none kV21 dc21 pm21 an21 cd21 ct21), sl21⟩) (c21 : PySem.W.codeIn K cd21 "law" = true) (k21 : PySem.W.keepIn K (.ref f21) = true)
    (z_enumerate : PySem.W.nsIn K mainGlobals "enumerate" = some none)
    (z_tuple : PySem.W.nsIn K mainGlobals "tuple" = some none)
    (z_zip : PySem.W.nsIn K mainGlobals "zip" = some none)
    (z_reversed : PySem.W.nsIn K mainGlobals "reversed" = some none)
    (z_len : PySem.W.nsIn K mainGlobals "len" = some none)
    (z_range : PySem.W.nsIn K mainGlobals "range" = some none)
    (z_int : PySem.W.nsIn K mainGlobals "int" = some none)
    (z_abs : PySem.W.nsIn K mainGlobals "abs" = some none)
    (z_sorted : PySem.W.nsIn K mainGlobals "sorted" = some none)
    (z_max : PySem.W.nsIn K mainGlobals "max" = some none)
    (z_isinstance : PySem.W.nsIn K mainGlobals "isinstance" = some none)
    (z_repr : PySem.W.nsIn K mainGlobals "repr" = some none)
    : ∃ fd : FuncData, (∀ (s : Shared) (v : Value), BindsTo s fd ⟨[v], []⟩ [("script", v)]) ∧ ∀ base : Heap, K.In base → base.Ns mainGlobals mg → FnG l.prog w K mg base 8 fa fd ["script"] (spM K m_law) := by
  have e := hfa.symm.trans (PySem.W.mg_of X G a21)
  cases e
  have T : Txt K mg := ⟨PySem.W.mg_none_of X G z_enumerate, PySem.W.mg_none_of X G z_tuple, PySem.W.mg_none_of X G z_zip, PySem.W.mg_none_of X G z_reversed, PySem.W.mg_none_of X G z_len, PySem.W.mg_none_of X G z_range, PySem.W.mg_none_of X G z_int, PySem.W.mg_none_of X G z_abs, PySem.W.mg_none_of X G z_sorted, PySem.W.mg_none_of X G z_max, PySem.W.mg_none_of X G z_isinstance, PySem.W.mg_none_of X G z_repr⟩
  have F0 := fun_mk (st := s_winds_of) l0 c0 k0
  have D0 : DefAt K mg "winds_of" s_winds_of f0 _ ["frames", "things"] := ⟨F0, PySem.W.mg_of X G a0, k0, F0.binds (ps := ["frames", "things"]) fun _ _ _ _ _ _ us hl => match us, hl with | [_, _], _ => rfl⟩
  have F1 := fun_mk (st := s_shared_winds) l1 c1 k1
  have D1 : DefAt K mg "shared_winds" s_shared_winds f1 _ ["present", "goal", "things"] := ⟨F1, PySem.W.mg_of X G a1, k1, F1.binds (ps := ["present", "goal", "things"]) fun _ _ _ _ _ _ us hl => match us, hl with | [_, _, _], _ => rfl⟩
  have F2 := fun_mk (st := s_deeds_of_way) l2 c2 k2
  have D2 : DefAt K mg "deeds_of_way" s_deeds_of_way f2 _ ["present", "goal", "things"] := ⟨F2, PySem.W.mg_of X G a2, k2, F2.binds (ps := ["present", "goal", "things"]) fun _ _ _ _ _ _ us hl => match us, hl with | [_, _, _], _ => rfl⟩
  have F3 := fun_mk (st := s_mark_cut) l3 c3 k3
  have D3 : DefAt K mg "mark_cut" s_mark_cut f3 _ ["frames", "things"] := ⟨F3, PySem.W.mg_of X G a3, k3, F3.binds (ps := ["frames", "things"]) fun _ _ _ _ _ _ us hl => match us, hl with | [_, _], _ => rfl⟩
  have F4 := fun_mk (st := s_last_wind) l4 c4 k4
  have D4 : DefAt K mg "last_wind" s_last_wind f4 _ ["frames", "lowest", "things"] := ⟨F4, PySem.W.mg_of X G a4, k4, F4.binds (ps := ["frames", "lowest", "things"]) fun _ _ _ _ _ _ us hl => match us, hl with | [_, _, _], _ => rfl⟩
  have F5 := fun_mk (st := s_lay_on) l5 c5 k5
  have D5 : DefAt K mg "lay_on" s_lay_on f5 _ ["below", "frames", "things"] := ⟨F5, PySem.W.mg_of X G a5, k5, F5.binds (ps := ["below", "frames", "things"]) fun _ _ _ _ _ _ us hl => match us, hl with | [_, _, _], _ => rfl⟩
  have F6 := fun_mk (st := s_take_off) l6 c6 k6
  have D6 : DefAt K mg "take_off" s_take_off f6 _ ["below", "things"] := ⟨F6, PySem.W.mg_of X G a6, k6, F6.binds (ps := ["below", "things"]) fun _ _ _ _ _ _ us hl => match us, hl with | [_, _], _ => rfl⟩
  have F7 := fun_mk (st := s_go_to) l7 c7 k7
  have D7 : DefAt K mg "go_to" s_go_to f7 _ ["below", "frames", "entered", "things"] := ⟨F7, PySem.W.mg_of X G a7, k7, F7.binds (ps := ["below", "frames", "entered", "things"]) fun _ _ _ _ _ _ us hl => match us, hl with | [_, _, _, _], _ => rfl⟩
  have F8 := fun_mk (st := s_next_step) l8 c8 k8
  have D8 : DefAt K mg "next_step" s_next_step f8 _ ["below", "road", "things"] := ⟨F8, PySem.W.mg_of X G a8, k8, F8.binds (ps := ["below", "road", "things"]) fun _ _ _ _ _ _ us hl => match us, hl with | [_, _, _], _ => rfl⟩
  have F9 := fun_mk (st := s__law_mix) l9 c9 k9
  have D9 : DefAt K mg "_law_mix" s__law_mix f9 _ ["number", "turn"] := ⟨F9, PySem.W.mg_of X G a9, k9, F9.binds (ps := ["number", "turn"]) fun _ _ _ _ _ _ us hl => match us, hl with | [_, _], _ => rfl⟩
  have F10 := fun_mk (st := s__law_hand) l10 c10 k10
  have D10 : DefAt K mg "_law_hand" s__law_hand f10 _ ["script"] := ⟨F10, PySem.W.mg_of X G a10, k10, F10.binds (ps := ["script"]) fun _ _ _ _ _ _ us hl => match us, hl with | [_], _ => rfl⟩
  have F11 := fun_mk (st := s__law_draw) l11 c11 k11
  have D11 : DefAt K mg "_law_draw" s__law_draw f11 _ ["hand", "many"] := ⟨F11, PySem.W.mg_of X G a11, k11, F11.binds (ps := ["hand", "many"]) fun _ _ _ _ _ _ us hl => match us, hl with | [_, _], _ => rfl⟩
  have F12 := fun_mk (st := s__law_pick) l12 c12 k12
  have D12 : DefAt K mg "_law_pick" s__law_pick f12 _ ["hand", "things"] := ⟨F12, PySem.W.mg_of X G a12, k12, F12.binds (ps := ["hand", "things"]) fun _ _ _ _ _ _ us hl => match us, hl with | [_, _], _ => rfl⟩
  have F13 := fun_mk (st := s__law_things) l13 c13 k13
  have D13 : DefAt K mg "_law_things" s__law_things f13 _ ["hand", "many"] := ⟨F13, PySem.W.mg_of X G a13, k13, F13.binds (ps := ["hand", "many"]) fun _ _ _ _ _ _ us hl => match us, hl with | [_, _], _ => rfl⟩
  have F14 := fun_mk (st := s__law_row) l14 c14 k14
  have D14 : DefAt K mg "_law_row" s__law_row f14 _ ["hand", "things", "most"] := ⟨F14, PySem.W.mg_of X G a14, k14, F14.binds (ps := ["hand", "things", "most"]) fun _ _ _ _ _ _ us hl => match us, hl with | [_, _, _], _ => rfl⟩
  have F15 := fun_mk (st := s__law_winds_of) l15 c15 k15
  have D15 : DefAt K mg "_law_winds_of" s__law_winds_of f15 _ ["frames", "things"] := ⟨F15, PySem.W.mg_of X G a15, k15, F15.binds (ps := ["frames", "things"]) fun _ _ _ _ _ _ us hl => match us, hl with | [_, _], _ => rfl⟩
  have F16 := fun_mk (st := s__law_off_steps) l16 c16 k16
  have D16 : DefAt K mg "_law_off_steps" s__law_off_steps f16 _ ["frames", "things"] := ⟨F16, PySem.W.mg_of X G a16, k16, F16.binds (ps := ["frames", "things"]) fun _ _ _ _ _ _ us hl => match us, hl with | [_, _], _ => rfl⟩
  have F17 := fun_mk (st := s__law_on_steps) l17 c17 k17
  have D17 : DefAt K mg "_law_on_steps" s__law_on_steps f17 _ ["below", "frames", "things"] := ⟨F17, PySem.W.mg_of X G a17, k17, F17.binds (ps := ["below", "frames", "things"]) fun _ _ _ _ _ _ us hl => match us, hl with | [_, _, _], _ => rfl⟩
  have F18 := fun_mk (st := s__law_walked) l18 c18 k18
  have D18 : DefAt K mg "_law_walked" s__law_walked f18 _ ["step", "things", "most"] := ⟨F18, PySem.W.mg_of X G a18, k18, F18.binds (ps := ["step", "things", "most"]) fun _ _ _ _ _ _ us hl => match us, hl with | [_, _, _], _ => rfl⟩
  have F19 := fun_mk (st := s__law_elsewhere) l19 c19 k19
  have D19 : DefAt K mg "_law_elsewhere" s__law_elsewhere f19 _ ["hand", "things", "steps", "other"] := ⟨F19, PySem.W.mg_of X G a19, k19, F19.binds (ps := ["hand", "things", "steps", "other"]) fun _ _ _ _ _ _ us hl => match us, hl with | [_, _, _, _], _ => rfl⟩
  have F20 := fun_mk (st := s__law_to_elsewhere) l20 c20 k20
  have D20 : DefAt K mg "_law_to_elsewhere" s__law_to_elsewhere f20 _ ["hand", "things", "goal", "other"] := ⟨F20, PySem.W.mg_of X G a20, k20, F20.binds (ps := ["hand", "things", "goal", "other"]) fun _ _ _ _ _ _ us hl => match us, hl with | [_, _, _, _], _ => rfl⟩
  have F21 := fun_mk (st := s_law) l21 c21 k21
  have D21 : DefAt K mg "law" s_law _ _ ["script"] := ⟨F21, PySem.W.mg_of X G a21, k21, F21.binds (ps := ["script"]) fun _ _ _ _ _ _ us hl => match us, hl with | [_], _ => rfl⟩
  refine ⟨PySem.W.fnOf "law" "law" (defArgs s_law) (defBody s_law) (defScope s_law) .none kV21 dc21 pm21 an21 cd21 ct21, fun s v => .of_eq rfl, fun base _ _ => ?_⟩
  have C_winds_of : CalG l.prog w K mg base 1 "winds_of" m_winds_of := D0.calG (ok_winds_of T  D0)
  have C_mark_cut : CalG l.prog w K mg base 1 "mark_cut" m_mark_cut := D3.calG (ok_mark_cut T  D3)
  have C_last_wind : CalG l.prog w K mg base 1 "last_wind" m_last_wind := D4.calG (ok_last_wind T  D4)
  have C_lay_on : CalG l.prog w K mg base 1 "lay_on" m_lay_on := D5.calG (ok_lay_on T  D5)
  have C__law_mix : CalG l.prog w K mg base 1 "_law_mix" m__law_mix := D9.calG (ok__law_mix T  D9)
  have C__law_hand : CalG l.prog w K mg base 1 "_law_hand" m__law_hand := D10.calG (ok__law_hand T  D10)
  have C__law_winds_of : CalG l.prog w K mg base 1 "_law_winds_of" m__law_winds_of := D15.calG (ok__law_winds_of T  D15)
  have C_shared_winds : CalG l.prog w K mg base 2 "shared_winds" m_shared_winds := D1.calG (ok_shared_winds T C_winds_of D1)
  have C_take_off : CalG l.prog w K mg base 2 "take_off" m_take_off := D6.calG (ok_take_off T C_mark_cut C_last_wind D6)
  have C__law_draw : CalG l.prog w K mg base 2 "_law_draw" m__law_draw := D11.calG (ok__law_draw T C__law_mix D11)
  have C__law_off_steps : CalG l.prog w K mg base 2 "_law_off_steps" m__law_off_steps := D16.calG (ok__law_off_steps T C__law_winds_of D16)
  have C__law_on_steps : CalG l.prog w K mg base 2 "_law_on_steps" m__law_on_steps := D17.calG (ok__law_on_steps T C__law_winds_of D17)
  have C_deeds_of_way : CalG l.prog w K mg base 3 "deeds_of_way" m_deeds_of_way := D2.calG (ok_deeds_of_way T C_shared_winds C_winds_of D2)
  have C__law_pick : CalG l.prog w K mg base 3 "_law_pick" m__law_pick := D12.calG (ok__law_pick T C__law_draw D12)
  have C_go_to : CalG l.prog w K mg base 4 "go_to" m_go_to := D7.calG (ok_go_to T C_winds_of C_deeds_of_way C_shared_winds D7)
  have C__law_things : CalG l.prog w K mg base 4 "_law_things" m__law_things := D13.calG (ok__law_things T C__law_draw C__law_pick D13)
  have C__law_row : CalG l.prog w K mg base 4 "_law_row" m__law_row := D14.calG (ok__law_row T C__law_draw C__law_pick D14)
  have C_next_step : CalG l.prog w K mg base 5 "next_step" m_next_step := D8.calG (ok_next_step T C_go_to C_lay_on C_take_off D8)
  have C__law_walked : CalG l.prog w K mg base 6 "_law_walked" m__law_walked := D18.calG (ok__law_walked T C_next_step D18)
  have C__law_to_elsewhere : CalG l.prog w K mg base 6 "_law_to_elsewhere" m__law_to_elsewhere := D20.calG (ok__law_to_elsewhere T C__law_winds_of C__law_draw C_next_step D20)
  have C__law_elsewhere : CalG l.prog w K mg base 7 "_law_elsewhere" m__law_elsewhere := D19.calG (ok__law_elsewhere T C__law_pick C__law_walked C_next_step C__law_off_steps C__law_on_steps D19)
  exact ok_law T C__law_hand C__law_things C__law_draw C__law_row C__law_pick C__law_off_steps C__law_walked C_next_step C_mark_cut C__law_on_steps C_lay_on C__law_elsewhere C__law_to_elsewhere D21
end Law
end

section
namespace Law
open PySem L2 Mm
/-! the step of the pure proofs -/
local macro_rules
  | `(tactic| walk_at "wp side") => `(tactic| first | assumption | omega | decide)
local macro_rules
  | `(tactic| walk_at "wp1") => `(tactic| with_reducible first
    | refine Mm.v_seq ?_ | refine Mm.v_nx ?_ | refine Mm.v_asg ?_ | refine Mm.v_asgP ?_ | refine Mm.v_ret ?_ | refine Mm.v_retN ?_ | refine Mm.v_drop ?_ | refine Mm.v_set ?_ | refine Mm.v_aug ?_ | refine Mm.v_for ?_ | refine Mm.v_brk ?_ | refine Mm.v_ct ?_
    | refine Mm.w_con ?_ | refine Mm.w_op2 ?_ | refine Mm.w_op1 ?_ | refine Mm.w_opL ?_ | refine Mm.w_cons ?_ | refine Mm.w_nil ?_
    | refine Mm.w_add ?_ | refine Mm.w_sub ?_ | refine Mm.w_neg ?_ | refine Mm.w_lt ?_ | refine Mm.w_le ?_ | refine Mm.w_gt ?_ | refine Mm.w_ge ?_ | refine Mm.w_eqi ?_ | refine Mm.w_nei ?_ | refine Mm.w_eqs ?_ | refine Mm.w_nes ?_ | refine Mm.w_int ?_ | refine Mm.w_abs ?_ | refine Mm.w_isN ?_ | refine Mm.w_notN ?_ | refine Mm.w_min ?_ | refine Mm.w_max ?_
    | refine Mm.w_tru ?_ | refine Mm.w_blM ?_ | refine Mm.w_andB ?_ | refine Mm.w_orB ?_ | refine Mm.w_notB ?_ | refine Mm.w_ifV ?_ | refine Mm.w_andV ?_ | refine Mm.w_orV ?_ | refine Mm.w_notV ?_ | refine Mm.w_truB ?_ | refine Mm.w_truI ?_ | refine Mm.w_truN ?_ | refine Mm.w_truT ?_
    | refine Mm.w_dNewK ?_ | refine Mm.w_dNewT ?_ | refine Mm.w_iter ?_ | refine Mm.w_itmM ?_ | refine Mm.w_enm ?_ | refine Mm.w_enm2 ?_ | refine Mm.w_zip ?_ | refine Mm.w_rev ?_ | refine Mm.w_bm ?_ | refine Mm.w_lc ?_ | refine Mm.w_yes ?_ | refine Mm.br_t ?_ | refine Mm.br_f ?_ | refine Mm.w_slc ?_ | refine Mm.w_pno ?_ | refine Mm.w_pso ?_ | refine Mm.w_lenT ?_ | refine Mm.w_tupT ?_ | refine Mm.w_lstT ?_ | refine Mm.w_cutT ?_)
local macro_rules
  | `(tactic| walk_at "sto") => `(tactic| first
    | with_reducible assumption
    | with_reducible exact Mm.put_same
    | with_reducible exact Mm.add_same
    | (with_reducible refine (Mm.put_ne (by first | assumption | exact Ne.symm (by assumption) | ((try dsimp only [Mm.Sto.add, Mm.Sto.put]); omega))).trans ?_; walk_at "sto")
    | (with_reducible refine (Mm.add_ne (by first | assumption | exact Ne.symm (by assumption) | ((try dsimp only [Mm.Sto.add, Mm.Sto.put]); omega))).trans ?_; walk_at "sto")
    | fail)
local macro_rules
  | `(tactic| walk_at "wp2") => `(tactic| first
    | ((with_reducible apply Mm.w_var); · rfl)
    | ((with_reducible apply Mm.ex_mk); · with_reducible refine Mm.rng1 (by (try simp only [List.length_map]); omega))
    | ((with_reducible apply Mm.ex_mk); · with_reducible refine Mm.rng2 (by (try simp only [List.length_map]); omega))
    | ((with_reducible apply Mm.ex_mk); · rfl)
    | ((with_reducible refine Mm.br_true ?_ ?_); · rfl)
    | ((with_reducible refine Mm.br_false ?_ ?_); · rfl)
    | ((with_reducible refine Mm.w_mod ?_ ?_); · walk_at "wp side")
    | ((with_reducible refine Mm.w_div ?_ ?_ ?_); (· walk_at "wp side"); (· (first | decide | assumption)))
    | ((with_reducible refine Mm.w_mul ?_ ?_); · exact .inl (.inr (by decide)))
    | ((with_reducible refine Mm.w_mul ?_ ?_); · exact .inl (.inl (by decide)))
    | ((with_reducible refine Mm.w_mul ?_ ?_); · exact .inl (.inl (by omega)))
    | ((with_reducible refine Mm.w_mul ?_ ?_); · exact .inl (.inr (by omega)))
    | ((with_reducible refine Mm.w_pow ?_ ?_); · decide)
    | ((with_reducible refine Mm.w_lstV ?_ ?_); · (simp only [List.length_cons, List.length_nil]; decide))
    | ((with_reducible refine Mm.w_tupV ?_ ?_); · (simp only [List.length_cons, List.length_nil]; decide))
    | ((with_reducible apply Mm.w_idxL); (· walk_at "sto"); (· first | exact Mm.atI0 | exact Mm.atI1 | exact Mm.atI2 | exact Mm.atIl | rfl))
    | ((with_reducible apply Mm.w_idxC); (· walk_at "sto"); (· rfl))
    | ((with_reducible apply Mm.w_idxT); · first | exact Mm.atI0 | exact Mm.atI1 | exact Mm.atI2 | rfl)
    | ((with_reducible apply Mm.w_lenL); · walk_at "sto")
    | ((with_reducible apply Mm.w_lenC); · walk_at "sto")
    | ((with_reducible apply Mm.w_lenK); · walk_at "sto")
    | ((with_reducible apply Mm.w_tupL); · walk_at "sto")
    | ((with_reducible apply Mm.w_lstL); · walk_at "sto")
    | ((with_reducible apply Mm.w_cutL); · walk_at "sto")
    | ((with_reducible apply Mm.w_revL); · walk_at "sto")
    | ((with_reducible apply Mm.w_truL); · walk_at "sto")
    | ((with_reducible apply Mm.ex_mk); · exact Mm.it_lst (by walk_at "sto"))
    | ((with_reducible apply Mm.ex_mk); · exact Mm.it_con (by walk_at "sto"))
    | ((with_reducible apply Mm.ex_mk); · exact Mm.it_en2L (by walk_at "sto"))
    | ((with_reducible apply Mm.ex_mk); · exact Mm.it_en2C (by walk_at "sto"))
    | ((with_reducible apply Mm.ex_mk); · exact Mm.set_lst (by walk_at "sto") rfl)
    | ((with_reducible refine And.intro ?_ ?_); · exact Mm.ty_lst (by walk_at "sto"))
    | fail)
local macro_rules
  | `(tactic| walk_at "wq") => `(tactic| repeat' (first | (walk_at "wp1"; try dsimp only [List.set_cons_zero, List.set_cons_succ, Bool.not_true, Bool.not_false]) | (walk_at "wp2"; try dsimp only [Bool.not_true, Bool.not_false]) | fail))
local macro_rules
  | `(tactic| walk_at "wp") => `(tactic| repeat' (first | (with_reducible refine Mm.v_if ?_) | (walk_at "wp1"; try dsimp only [List.set_cons_zero, List.set_cons_succ, Bool.not_true, Bool.not_false]) | (walk_at "wp2"; try dsimp only [Bool.not_true, Bool.not_false]) | fail))
local macro_rules
  | `(tactic| walk_at "def") => `(tactic| (refine Mm.w_def rfl ?_; simp only [List.map_cons, List.map_nil, List.cons_append, List.nil_append, List.replicate, Nat.reduceSub, List.replicate_succ, List.replicate_zero]))
/-! ### the frames and what stands at them -/
def kdw (kvs : List (Key × MV)) (b : Int) : Str := match valM kvs (.inl b) with
  | some (.tup (.str w :: _)) => w
  | _ => ""
def wnd (kvs : List (Key × MV)) (b : Int) : Bool := decide (kdw kvs b = "wind")
def mrk (kvs : List (Key × MV)) (b : Int) : Bool := decide (kdw kvs b = "mark")
theorem kdw_eq {kvs : List (Key × MV)} {b : Int} {w : Str} {r : List MV} (h : valM kvs (.inl b) = some (.tup (.str w :: r))) : kdw kvs b = w := by
  simp only [kdw, h]
/-- frames of the dict -/
def Frs (kvs : List (Key × MV)) (fr : List Int) : Prop := ∀ b ∈ fr, ∃ w r, valM kvs (.inl b) = some (.tup (.str w :: r))
theorem get_int {bs : List Int} {i : Nat} {x : MV} (h : (bs.map MV.int)[i]? = some x) : ∃ b, bs[i]? = some b ∧ x = .int b ∧ b ∈ bs := get_map h
def pr (p : Int × Int) : MV := .tup [.int p.1, .int p.2]
def winds (f : Int → Bool) (l : List Int) : List (Int × Int) := (l.zipIdx.filter fun p => f p.1).map fun p => ((p.2 : Int), p.1)
theorem winds_snoc {f : Int → Bool} {l : List Int} {i : Nat} {b : Int} (h : l[i]? = some b) : winds f (l.take (i + 1)) = winds f (l.take i) ++ if f b = true then [((i : Int), b)] else [] := by
  have hi : i < l.length := (List.getElem?_eq_some_iff.1 h).1
  unfold winds
  rw [take_snoc h, List.zipIdx_append, List.filter_append, List.map_append]
  have : (l.take i).length = i := by rw [List.length_take]; omega
  rw [this]
  cases q : f b <;> simp [q]
theorem winds_len {f : Int → Bool} {l : List Int} : (winds f l).length ≤ l.length := by
  unfold winds
  rw [List.length_map]
  exact Nat.le_trans (List.length_filter_le _ _) (by simp)
theorem winds_nil {f : Int → Bool} : winds f [] = [] := rfl
theorem winds_of_ok {S : Sto} {d : Nat} {kvs : List (Key × MV)} {fr : List Int} (hd : S.g d = .dK kvs) (hdn : d < S.n) (F : Frs kvs fr) (hl : fr.length < 1000) :
    Ret (m_winds_of [.tup (fr.map .int), .ref d] S) fun x S' => x = .tup ((winds (wnd kvs) fr).map pr) ∧ Ext S S' := by
  have sz : (1000 : Nat) ≤ sizeLine := by decide
  unfold m_winds_of
  walk_at "def"
  unfold b_winds_of
  walk_at "wq"
  refine w_lc0 (fun i acc S' => S' = S ∧ acc = (winds (wnd kvs) (fr.take i)).map pr) ⟨rfl, rfl⟩ ?_ ?_
  · rintro i x acc S' hx ⟨rfl, rfl⟩
    obtain ⟨y, hy, rfl⟩ := prI_get hx
    obtain ⟨b, hb, rfl, hm⟩ := get_int hy
    obtain ⟨w, r, hv⟩ := F b hm
    have hi : i < fr.length := (List.getElem?_eq_some_iff.1 hb).1
    have hl2 := winds_len (f := wnd kvs) (l := fr.take i)
    rw [List.length_take] at hl2
    refine ⟨ck_n, _, rfl, ?_⟩
    rw [winds_snoc hb]
    walk_at "wq"
    refine w_idxK hd rfl hv ?_
    walk_at "wq"
    have e : wnd kvs b = decide (w = "wind") := by rw [wnd, kdw_eq hv]
    refine br_dec (fun hw => ?_) (fun hw => ?_)
    · walk_at "wq"
      refine ⟨by rw [List.length_map]; omega, rfl, ?_⟩
      rw [e, if_pos (by simpa using hw), List.map_append]; rfl
    · refine ⟨rfl, ?_⟩
      rw [e, if_neg (by simpa using hw), List.append_nil]
  · rintro acc S' ⟨rfl, rfl⟩
    refine ⟨ck_n, ?_⟩
    walk_at "wq"
    refine ⟨?_, Ext.refl.add⟩
    rw [prI_len, List.length_map, List.take_length]
/-- how many first ones are alike -/
def shr : List (Int × Int) → List (Int × Int) → Nat
  | a :: as, b :: bs => if a.2 = b.2 then shr as bs + 1 else 0
  | _, _ => 0
theorem shr_le : ∀ (as bs : List (Int × Int)), shr as bs ≤ as.length ∧ shr as bs ≤ bs.length
  | [], bs => ⟨Nat.le_refl _, Nat.zero_le _⟩
  | a :: as, [] => ⟨Nat.zero_le _, Nat.le_refl _⟩
  | a :: as, b :: bs => by
    have := shr_le as bs
    simp only [shr, List.length_cons]
    split <;> omega
theorem shr_comm : ∀ (as bs : List (Int × Int)), shr as bs = shr bs as
  | [], [] => rfl
  | [], b :: bs => rfl
  | a :: as, [] => rfl
  | a :: as, b :: bs => by
    simp only [shr, shr_comm as bs]
    by_cases h : a.2 = b.2
    · rw [if_pos h, if_pos h.symm]
    · rw [if_neg h, if_neg fun q => h q.symm]
/-- the first k are alike -/
def Alike (k : Nat) (as bs : List (Int × Int)) : Prop := ∀ i, i < k → ∃ a b, as[i]? = some a ∧ bs[i]? = some b ∧ a.2 = b.2
theorem shr_alike : ∀ (as bs : List (Int × Int)), Alike (shr as bs) as bs
  | [], bs => fun i h => absurd h (Nat.not_lt_zero _)
  | a :: as, [] => fun i h => absurd h (Nat.not_lt_zero _)
  | a :: as, b :: bs => fun i h => by
    simp only [shr] at h
    split at h
    · rename_i e
      cases i with
      | zero => exact ⟨a, b, rfl, rfl, e⟩
      | succ i => exact shr_alike as bs i (by omega)
    · exact absurd h (Nat.not_lt_zero _)
theorem shr_eq : ∀ (k : Nat) (as bs : List (Int × Int)), Alike k as bs → (∀ a b, as[k]? = some a → bs[k]? = some b → a.2 ≠ b.2) → shr as bs = k
  | 0, [], bs, _, _ => rfl
  | 0, a :: as, [], _, _ => rfl
  | 0, a :: as, b :: bs, _, h => by simp only [shr, if_neg (h a b rfl rfl)]
  | k + 1, as, bs, h, h2 => by
    obtain ⟨a, b, h3, h4, h5⟩ := h 0 (Nat.succ_pos _)
    cases as with
    | nil => cases h3
    | cons a' as =>
      cases bs with
      | nil => cases h4
      | cons b' bs =>
        cases h3; cases h4
        simp only [shr, if_pos h5]
        rw [shr_eq k as bs (fun i hi => h (i + 1) (by omega)) h2]
theorem shared_ok {S : Sto} {d : Nat} {kvs : List (Key × MV)} {p g : List Int} (hd : S.g d = .dK kvs) (hdn : d < S.n) (F : Frs kvs p) (G : Frs kvs g) (hl : p.length < 1000) (hl2 : g.length < 1000) :
    Ret (m_shared_winds [.tup (p.map .int), .tup (g.map .int), .ref d] S) fun x S' => x = .int (shr (winds (wnd kvs) p) (winds (wnd kvs) g)) ∧ Ext S S' := by
  unfold m_shared_winds
  walk_at "def"
  unfold b_shared_winds
  walk_at "wq"
  refine (winds_of_ok hd hdn F hl).imp ?_
  rintro _ S1 ⟨rfl, E1⟩
  walk_at "wq"
  refine (winds_of_ok ((E1.2 _ hdn).trans hd) (Nat.lt_of_lt_of_le hdn E1.1) G hl2).imp ?_
  rintro _ S2 ⟨rfl, E2⟩
  have E := E1.trans E2
  clear E1 E2
  generalize winds (wnd kvs) p = A
  generalize winds (wnd kvs) g = B
  walk_at "wq"
  refine v_loop0 (fun i e S' => S' = S2 ∧ Alike i A B ∧ ∃ x4 x5 x6 x7, e = [some (.tup (p.map .int)), some (.tup (g.map .int)), some (.ref d), some (.int i), x4, x5, x6, x7]) ⟨rfl, fun i h => absurd h (Nat.not_lt_zero _), _, _, _, _, rfl⟩ ?_ ?_
  · rintro i x e S' hx ⟨rfl, hA, x4, x5, x6, x7, rfl⟩
    obtain ⟨y1, y2, q1, q2, rfl⟩ := prZ_get hx
    obtain ⟨a, h1, rfl, m1⟩ := get_map q1
    obtain ⟨b, h2, rfl, m2⟩ := get_map q2
    refine ⟨ck_n, _, rfl, ?_⟩
    walk_at "wq"
    refine v_if ?_
    walk_at "wq"
    refine br_dec (fun hw => ?_) (fun hw => ?_)
    · walk_at "wq"
      refine ⟨?_, E⟩
      rw [shr_eq i A B hA]
      intro a' b' ha hb
      rw [h1] at ha; rw [h2] at hb; cases ha; cases hb
      exact hw
    · have hw := Classical.not_not.1 hw
      walk_at "wq"
      refine ⟨rfl, fun j hj => ?_, _, _, _, _, rfl⟩
      by_cases hji : j < i
      · exact hA j hji
      · have : j = i := by omega
        subst this
        exact ⟨a, b, h1, h2, hw⟩
  · rintro e S' ⟨rfl, hA, x4, x5, x6, x7, rfl⟩
    refine ⟨ck_n, ?_⟩
    walk_at "wq"
    refine ⟨?_, E⟩
    have hl : (prZ (A.map pr) (B.map pr)).length = min A.length B.length := by simp [prZ]
    rw [hl] at hA ⊢
    rw [shr_eq _ A B hA]
    intro a b ha hb
    have := (List.getElem?_eq_some_iff.1 ha).1
    have := (List.getElem?_eq_some_iff.1 hb).1
    omega
end Law
end

section
namespace Law
open PySem L2 Mm
/-! the step of the pure proofs -/
local macro_rules
  | `(tactic| walk_at "wp side") => `(tactic| first | assumption | omega | decide)
local macro_rules
  | `(tactic| walk_at "wp1") => `(tactic| with_reducible first
    | refine Mm.v_seq ?_ | refine Mm.v_nx ?_ | refine Mm.v_asg ?_ | refine Mm.v_asgP ?_ | refine Mm.v_ret ?_ | refine Mm.v_retN ?_ | refine Mm.v_drop ?_ | refine Mm.v_set ?_ | refine Mm.v_aug ?_ | refine Mm.v_for ?_ | refine Mm.v_brk ?_ | refine Mm.v_ct ?_
    | refine Mm.w_con ?_ | refine Mm.w_op2 ?_ | refine Mm.w_op1 ?_ | refine Mm.w_opL ?_ | refine Mm.w_cons ?_ | refine Mm.w_nil ?_
    | refine Mm.w_add ?_ | refine Mm.w_sub ?_ | refine Mm.w_neg ?_ | refine Mm.w_lt ?_ | refine Mm.w_le ?_ | refine Mm.w_gt ?_ | refine Mm.w_ge ?_ | refine Mm.w_eqi ?_ | refine Mm.w_nei ?_ | refine Mm.w_eqs ?_ | refine Mm.w_nes ?_ | refine Mm.w_int ?_ | refine Mm.w_abs ?_ | refine Mm.w_isN ?_ | refine Mm.w_notN ?_ | refine Mm.w_min ?_ | refine Mm.w_max ?_
    | refine Mm.w_tru ?_ | refine Mm.w_blM ?_ | refine Mm.w_andB ?_ | refine Mm.w_orB ?_ | refine Mm.w_notB ?_ | refine Mm.w_ifV ?_ | refine Mm.w_andV ?_ | refine Mm.w_orV ?_ | refine Mm.w_notV ?_ | refine Mm.w_truB ?_ | refine Mm.w_truI ?_ | refine Mm.w_truN ?_ | refine Mm.w_truT ?_
    | refine Mm.w_dNewK ?_ | refine Mm.w_dNewT ?_ | refine Mm.w_iter ?_ | refine Mm.w_itmM ?_ | refine Mm.w_enm ?_ | refine Mm.w_enm2 ?_ | refine Mm.w_zip ?_ | refine Mm.w_rev ?_ | refine Mm.w_bm ?_ | refine Mm.w_lc ?_ | refine Mm.w_yes ?_ | refine Mm.br_t ?_ | refine Mm.br_f ?_ | refine Mm.w_slc ?_ | refine Mm.w_pno ?_ | refine Mm.w_pso ?_ | refine Mm.w_lenT ?_ | refine Mm.w_tupT ?_ | refine Mm.w_lstT ?_ | refine Mm.w_cutT ?_)
local macro_rules
  | `(tactic| walk_at "sto") => `(tactic| first
    | with_reducible assumption
    | with_reducible exact Mm.put_same
    | with_reducible exact Mm.add_same
    | (with_reducible refine (Mm.put_ne (by first | assumption | exact Ne.symm (by assumption) | ((try dsimp only [Mm.Sto.add, Mm.Sto.put]); omega))).trans ?_; walk_at "sto")
    | (with_reducible refine (Mm.add_ne (by first | assumption | exact Ne.symm (by assumption) | ((try dsimp only [Mm.Sto.add, Mm.Sto.put]); omega))).trans ?_; walk_at "sto")
    | fail)
local macro_rules
  | `(tactic| walk_at "wp2") => `(tactic| first
    | ((with_reducible apply Mm.w_var); · rfl)
    | ((with_reducible apply Mm.ex_mk); · with_reducible refine Mm.rng1 (by (try simp only [List.length_map]); omega))
    | ((with_reducible apply Mm.ex_mk); · with_reducible refine Mm.rng2 (by (try simp only [List.length_map]); omega))
    | ((with_reducible apply Mm.ex_mk); · rfl)
    | ((with_reducible refine Mm.br_true ?_ ?_); · rfl)
    | ((with_reducible refine Mm.br_false ?_ ?_); · rfl)
    | ((with_reducible refine Mm.w_mod ?_ ?_); · walk_at "wp side")
    | ((with_reducible refine Mm.w_div ?_ ?_ ?_); (· walk_at "wp side"); (· (first | decide | assumption)))
    | ((with_reducible refine Mm.w_mul ?_ ?_); · exact .inl (.inr (by decide)))
    | ((with_reducible refine Mm.w_mul ?_ ?_); · exact .inl (.inl (by decide)))
    | ((with_reducible refine Mm.w_mul ?_ ?_); · exact .inl (.inl (by omega)))
    | ((with_reducible refine Mm.w_mul ?_ ?_); · exact .inl (.inr (by omega)))
    | ((with_reducible refine Mm.w_pow ?_ ?_); · decide)
    | ((with_reducible refine Mm.w_lstV ?_ ?_); · (simp only [List.length_cons, List.length_nil]; decide))
    | ((with_reducible refine Mm.w_tupV ?_ ?_); · (simp only [List.length_cons, List.length_nil]; decide))
    | ((with_reducible apply Mm.w_idxL); (· walk_at "sto"); (· first | exact Mm.atI0 | exact Mm.atI1 | exact Mm.atI2 | exact Mm.atIl | rfl))
    | ((with_reducible apply Mm.w_idxC); (· walk_at "sto"); (· rfl))
    | ((with_reducible apply Mm.w_idxT); · first | exact Mm.atI0 | exact Mm.atI1 | exact Mm.atI2 | rfl)
    | ((with_reducible apply Mm.w_lenL); · walk_at "sto")
    | ((with_reducible apply Mm.w_lenC); · walk_at "sto")
    | ((with_reducible apply Mm.w_lenK); · walk_at "sto")
    | ((with_reducible apply Mm.w_tupL); · walk_at "sto")
    | ((with_reducible apply Mm.w_lstL); · walk_at "sto")
    | ((with_reducible apply Mm.w_cutL); · walk_at "sto")
    | ((with_reducible apply Mm.w_revL); · walk_at "sto")
    | ((with_reducible apply Mm.w_truL); · walk_at "sto")
    | ((with_reducible apply Mm.ex_mk); · exact Mm.it_lst (by walk_at "sto"))
    | ((with_reducible apply Mm.ex_mk); · exact Mm.it_con (by walk_at "sto"))
    | ((with_reducible apply Mm.ex_mk); · exact Mm.it_en2L (by walk_at "sto"))
    | ((with_reducible apply Mm.ex_mk); · exact Mm.it_en2C (by walk_at "sto"))
    | ((with_reducible apply Mm.ex_mk); · exact Mm.set_lst (by walk_at "sto") rfl)
    | ((with_reducible refine And.intro ?_ ?_); · exact Mm.ty_lst (by walk_at "sto"))
    | fail)
local macro_rules
  | `(tactic| walk_at "wq") => `(tactic| repeat' (first | (walk_at "wp1"; try dsimp only [List.set_cons_zero, List.set_cons_succ, Bool.not_true, Bool.not_false]) | (walk_at "wp2"; try dsimp only [Bool.not_true, Bool.not_false]) | fail))
local macro_rules
  | `(tactic| walk_at "wp") => `(tactic| repeat' (first | (with_reducible refine Mm.v_if ?_) | (walk_at "wp1"; try dsimp only [List.set_cons_zero, List.set_cons_succ, Bool.not_true, Bool.not_false]) | (walk_at "wp2"; try dsimp only [Bool.not_true, Bool.not_false]) | fail))
local macro_rules
  | `(tactic| walk_at "def") => `(tactic| (refine Mm.w_def rfl ?_; simp only [List.map_cons, List.map_nil, List.cons_append, List.nil_append, List.replicate, Nat.reduceSub, List.replicate_succ, List.replicate_zero]))
def lv (p : Int × Int) : MV := .tup [.str "leave", .int p.1, .int p.2]
def en (p : Int × Int) : MV := .tup [.str "enter", .int p.1, .int p.2]
def deeds (A B : List (Int × Int)) : List MV := (A.drop (shr A B)).reverse.map lv ++ (B.drop (shr A B)).map en
theorem deeds_len {A B : List (Int × Int)} : (deeds A B).length ≤ A.length + B.length := by
  unfold deeds; simp only [List.length_append, List.length_map, List.length_reverse, List.length_drop]; omega
/-- a comprehension over pairs that makes a thing of each -/
theorem get_map2 {al be : Type} {f : al → be} {l : List al} {i : Nat} {x : be} (h : (l.map f)[i]? = some x) : ∃ b, l[i]? = some b ∧ x = f b := by
  obtain ⟨b, h1, h2, _⟩ := get_map h; exact ⟨b, h1, h2⟩
theorem deeds_ok {S : Sto} {d : Nat} {kvs : List (Key × MV)} {p g : List Int} (hd : S.g d = .dK kvs) (hdn : d < S.n) (F : Frs kvs p) (G : Frs kvs g) (hl : p.length < 1000) (hl2 : g.length < 1000) :
    Ret (m_deeds_of_way [.tup (p.map .int), .tup (g.map .int), .ref d] S) fun x S' => x = .tup (deeds (winds (wnd kvs) p) (winds (wnd kvs) g)) ∧ Ext S S' := by
  have sz : (2000 : Nat) ≤ sizeLine := by decide
  have la := winds_len (f := wnd kvs) (l := p)
  have lb := winds_len (f := wnd kvs) (l := g)
  unfold m_deeds_of_way
  walk_at "def"
  unfold b_deeds_of_way
  walk_at "wq"
  refine (shared_ok hd hdn F G hl hl2).imp ?_
  rintro _ S1 ⟨rfl, E1⟩
  walk_at "wq"
  refine (winds_of_ok ((E1.2 _ hdn).trans hd) (Nat.lt_of_lt_of_le hdn E1.1) F hl).imp ?_
  rintro _ S2 ⟨rfl, E2⟩
  have E := E1.trans E2
  clear E1 E2
  generalize hA : winds (wnd kvs) p = A at *
  generalize hB : winds (wnd kvs) g = B at *
  have ls := shr_le A B
  walk_at "wq"
  rw [cutM_from (by omega), Int.toNat_natCast, ← List.map_drop]
  rw [← List.map_reverse]
  refine w_lc0 (fun i acc S' => S' = S2 ∧ acc = ((A.drop (shr A B)).reverse.take i).map lv) ⟨rfl, rfl⟩ ?_ ?_
  · rintro i x acc S' hx ⟨rfl, rfl⟩
    obtain ⟨a, h1, rfl⟩ := get_map2 hx
    refine ⟨ck_n, _, rfl, ?_⟩
    walk_at "wq"
    refine ⟨by rw [List.length_map, List.length_take, List.length_reverse, List.length_drop]; omega, rfl, ?_⟩
    rw [take_snoc h1, List.map_append]; rfl
  rintro acc S' ⟨rfl, rfl⟩
  rw [List.length_map, List.take_length]
  refine ⟨ck_n, ?_⟩
  walk_at "wq"
  have E2 := E.trans (Ext.refl.add (o := .lst ((A.drop (shr A B)).reverse.map lv)))
  refine (winds_of_ok ((E2.2 _ hdn).trans hd) (Nat.lt_of_lt_of_le hdn E2.1) G hl2).imp ?_
  rintro _ S3 ⟨rfl, E3⟩
  have hg : S3.g S'.n = .lst ((A.drop (shr A B)).reverse.map lv) := (E3.2 _ (Nat.lt_succ_self _)).trans add_same
  have hgn : S'.n < S3.n := E3.1
  have E4 := E2.trans E3
  clear E2 E3
  rw [hB]
  walk_at "wq"
  rw [cutM_from (by omega), Int.toNat_natCast, ← List.map_drop]
  refine w_lc0 (fun i acc S'' => S3 = S'' ∧ acc = ((B.drop (shr A B)).take i).map en) ⟨rfl, rfl⟩ ?_ ?_
  · rintro i x acc S' hx ⟨rfl, rfl⟩
    obtain ⟨a, h1, rfl⟩ := get_map2 hx
    refine ⟨ck_n, _, rfl, ?_⟩
    walk_at "wq"
    refine ⟨by rw [List.length_map, List.length_take, List.length_drop]; omega, rfl, ?_⟩
    rw [take_snoc h1, List.map_append]; rfl
  rintro acc S4 ⟨rfl, rfl⟩
  rw [List.length_map, List.take_length]
  refine ⟨ck_n, ?_⟩
  walk_at "wq"
  refine w_addl ((add_ne (Nat.ne_of_lt hgn)).trans hg) add_same (by simp only [List.length_map, List.length_reverse, List.length_drop]; omega) ?_
  walk_at "wq"
  exact ⟨rfl, E4.add.add⟩
theorem lwinds_ok {S : Sto} {d : Nat} {kvs : List (Key × MV)} {fr : List Int} (hd : S.g d = .dK kvs) (hdn : d < S.n) (F : Frs kvs fr) (hl : fr.length < 1000) :
    Ret (m__law_winds_of [.tup (fr.map .int), .ref d] S) fun x S' => x = .ref S.n ∧ S'.n = S.n + 1 ∧ S'.g S.n = .lst ((winds (wnd kvs) fr).map pr) ∧ Ext S S' := by
  have sz : (1000 : Nat) ≤ sizeLine := by decide
  unfold m__law_winds_of
  walk_at "def"
  unfold b__law_winds_of
  walk_at "wq"
  refine w_lc0 (fun i acc S' => S' = S ∧ acc = (winds (wnd kvs) (fr.take i)).map pr) ⟨rfl, rfl⟩ ?_ ?_
  · rintro i x acc S' hx ⟨rfl, rfl⟩
    obtain ⟨hi, rfl⟩ := rngL_get hx
    simp only [List.length_map, Int.toNat_natCast] at hi
    have hb : fr[i]? = some fr[i] := List.getElem?_eq_getElem hi
    generalize hbb : fr[i] = b at *
    have hm := List.mem_of_getElem? hb
    obtain ⟨w, r, hv⟩ := F b hm
    have hl2 := winds_len (f := wnd kvs) (l := fr.take i)
    rw [List.length_take] at hl2
    have hat : atI (fr.map MV.int) (0 + (i : Int)) = some (.int b) := by
      rw [Int.zero_add]; exact atI_nat (by rw [List.getElem?_map, hb]; rfl)
    refine ⟨ck_n, _, rfl, ?_⟩
    rw [winds_snoc hb]
    walk_at "wq"
    refine w_idxT hat ?_
    walk_at "wq"
    refine w_idxK hd rfl hv ?_
    walk_at "wq"
    have e : wnd kvs b = decide (w = "wind") := by rw [wnd, kdw_eq hv]
    refine br_dec (fun hw => ?_) (fun hw => ?_)
    · walk_at "wq"
      refine w_idxT hat ?_
      walk_at "wq"
      refine ⟨by rw [List.length_map]; omega, rfl, ?_⟩
      rw [e, if_pos (by simpa using hw), List.map_append, Int.zero_add]; rfl
    · refine ⟨rfl, ?_⟩
      rw [e, if_neg (by simpa using hw), List.append_nil]
  · rintro acc S' ⟨rfl, rfl⟩
    refine ⟨ck_n, ?_⟩
    rw [rngL_len, List.length_map, Int.toNat_natCast, List.take_length]
    exact ⟨rfl, rfl, add_same, Ext.refl.add⟩
end Law
end

section
namespace Law
open PySem L2 Mm
/-! the step of the pure proofs -/
local macro_rules
  | `(tactic| walk_at "wp side") => `(tactic| first | assumption | omega | decide)
local macro_rules
  | `(tactic| walk_at "wp1") => `(tactic| with_reducible first
    | refine Mm.v_seq ?_ | refine Mm.v_nx ?_ | refine Mm.v_asg ?_ | refine Mm.v_asgP ?_ | refine Mm.v_ret ?_ | refine Mm.v_retN ?_ | refine Mm.v_drop ?_ | refine Mm.v_set ?_ | refine Mm.v_aug ?_ | refine Mm.v_for ?_ | refine Mm.v_brk ?_ | refine Mm.v_ct ?_
    | refine Mm.w_con ?_ | refine Mm.w_op2 ?_ | refine Mm.w_op1 ?_ | refine Mm.w_opL ?_ | refine Mm.w_cons ?_ | refine Mm.w_nil ?_
    | refine Mm.w_add ?_ | refine Mm.w_sub ?_ | refine Mm.w_neg ?_ | refine Mm.w_lt ?_ | refine Mm.w_le ?_ | refine Mm.w_gt ?_ | refine Mm.w_ge ?_ | refine Mm.w_eqi ?_ | refine Mm.w_nei ?_ | refine Mm.w_eqs ?_ | refine Mm.w_nes ?_ | refine Mm.w_int ?_ | refine Mm.w_abs ?_ | refine Mm.w_isN ?_ | refine Mm.w_notN ?_ | refine Mm.w_min ?_ | refine Mm.w_max ?_
    | refine Mm.w_tru ?_ | refine Mm.w_blM ?_ | refine Mm.w_andB ?_ | refine Mm.w_orB ?_ | refine Mm.w_notB ?_ | refine Mm.w_ifV ?_ | refine Mm.w_andV ?_ | refine Mm.w_orV ?_ | refine Mm.w_notV ?_ | refine Mm.w_truB ?_ | refine Mm.w_truI ?_ | refine Mm.w_truN ?_ | refine Mm.w_truT ?_
    | refine Mm.w_dNewK ?_ | refine Mm.w_dNewT ?_ | refine Mm.w_iter ?_ | refine Mm.w_itmM ?_ | refine Mm.w_enm ?_ | refine Mm.w_enm2 ?_ | refine Mm.w_zip ?_ | refine Mm.w_rev ?_ | refine Mm.w_bm ?_ | refine Mm.w_lc ?_ | refine Mm.w_yes ?_ | refine Mm.br_t ?_ | refine Mm.br_f ?_ | refine Mm.w_slc ?_ | refine Mm.w_pno ?_ | refine Mm.w_pso ?_ | refine Mm.w_lenT ?_ | refine Mm.w_tupT ?_ | refine Mm.w_lstT ?_ | refine Mm.w_cutT ?_)
local macro_rules
  | `(tactic| walk_at "sto") => `(tactic| first
    | with_reducible assumption
    | with_reducible exact Mm.put_same
    | with_reducible exact Mm.add_same
    | (with_reducible refine (Mm.put_ne (by first | assumption | exact Ne.symm (by assumption) | ((try dsimp only [Mm.Sto.add, Mm.Sto.put]); omega))).trans ?_; walk_at "sto")
    | (with_reducible refine (Mm.add_ne (by first | assumption | exact Ne.symm (by assumption) | ((try dsimp only [Mm.Sto.add, Mm.Sto.put]); omega))).trans ?_; walk_at "sto")
    | fail)
local macro_rules
  | `(tactic| walk_at "wp2") => `(tactic| first
    | ((with_reducible apply Mm.w_var); · rfl)
    | ((with_reducible apply Mm.ex_mk); · with_reducible refine Mm.rng1 (by (try simp only [List.length_map]); omega))
    | ((with_reducible apply Mm.ex_mk); · with_reducible refine Mm.rng2 (by (try simp only [List.length_map]); omega))
    | ((with_reducible apply Mm.ex_mk); · rfl)
    | ((with_reducible refine Mm.br_true ?_ ?_); · rfl)
    | ((with_reducible refine Mm.br_false ?_ ?_); · rfl)
    | ((with_reducible refine Mm.w_mod ?_ ?_); · walk_at "wp side")
    | ((with_reducible refine Mm.w_div ?_ ?_ ?_); (· walk_at "wp side"); (· (first | decide | assumption)))
    | ((with_reducible refine Mm.w_mul ?_ ?_); · exact .inl (.inr (by decide)))
    | ((with_reducible refine Mm.w_mul ?_ ?_); · exact .inl (.inl (by decide)))
    | ((with_reducible refine Mm.w_mul ?_ ?_); · exact .inl (.inl (by omega)))
    | ((with_reducible refine Mm.w_mul ?_ ?_); · exact .inl (.inr (by omega)))
    | ((with_reducible refine Mm.w_pow ?_ ?_); · decide)
    | ((with_reducible refine Mm.w_lstV ?_ ?_); · (simp only [List.length_cons, List.length_nil]; decide))
    | ((with_reducible refine Mm.w_tupV ?_ ?_); · (simp only [List.length_cons, List.length_nil]; decide))
    | ((with_reducible apply Mm.w_idxL); (· walk_at "sto"); (· first | exact Mm.atI0 | exact Mm.atI1 | exact Mm.atI2 | exact Mm.atIl | rfl))
    | ((with_reducible apply Mm.w_idxC); (· walk_at "sto"); (· rfl))
    | ((with_reducible apply Mm.w_idxT); · first | exact Mm.atI0 | exact Mm.atI1 | exact Mm.atI2 | rfl)
    | ((with_reducible apply Mm.w_lenL); · walk_at "sto")
    | ((with_reducible apply Mm.w_lenC); · walk_at "sto")
    | ((with_reducible apply Mm.w_lenK); · walk_at "sto")
    | ((with_reducible apply Mm.w_tupL); · walk_at "sto")
    | ((with_reducible apply Mm.w_lstL); · walk_at "sto")
    | ((with_reducible apply Mm.w_cutL); · walk_at "sto")
    | ((with_reducible apply Mm.w_revL); · walk_at "sto")
    | ((with_reducible apply Mm.w_truL); · walk_at "sto")
    | ((with_reducible apply Mm.ex_mk); · exact Mm.it_lst (by walk_at "sto"))
    | ((with_reducible apply Mm.ex_mk); · exact Mm.it_con (by walk_at "sto"))
    | ((with_reducible apply Mm.ex_mk); · exact Mm.it_en2L (by walk_at "sto"))
    | ((with_reducible apply Mm.ex_mk); · exact Mm.it_en2C (by walk_at "sto"))
    | ((with_reducible apply Mm.ex_mk); · exact Mm.set_lst (by walk_at "sto") rfl)
    | ((with_reducible refine And.intro ?_ ?_); · exact Mm.ty_lst (by walk_at "sto"))
    | fail)
local macro_rules
  | `(tactic| walk_at "wq") => `(tactic| repeat' (first | (walk_at "wp1"; try dsimp only [List.set_cons_zero, List.set_cons_succ, Bool.not_true, Bool.not_false]) | (walk_at "wp2"; try dsimp only [Bool.not_true, Bool.not_false]) | fail))
local macro_rules
  | `(tactic| walk_at "wp") => `(tactic| repeat' (first | (with_reducible refine Mm.v_if ?_) | (walk_at "wp1"; try dsimp only [List.set_cons_zero, List.set_cons_succ, Bool.not_true, Bool.not_false]) | (walk_at "wp2"; try dsimp only [Bool.not_true, Bool.not_false]) | fail))
local macro_rules
  | `(tactic| walk_at "def") => `(tactic| (refine Mm.w_def rfl ?_; simp only [List.map_cons, List.map_nil, List.cons_append, List.nil_append, List.replicate, Nat.reduceSub, List.replicate_succ, List.replicate_zero]))
def turnM : MV → MV
  | .tup [.str w, a, b] => .tup [.str (if w = "leave" then "enter" else "leave"), a, b]
  | x => x
theorem turn_lv (p : Int × Int) : turnM (lv p) = en p := by
  simp only [turnM, lv, en, if_true]
theorem turn_en (p : Int × Int) : turnM (en p) = lv p := by
  have h : ¬(("enter" : Str) = "leave") := by decide +kernel
  simp only [turnM, lv, en, if_neg h]
theorem turned_eq (A B : List (Int × Int)) : (deeds A B).reverse.map turnM = deeds B A := by
  unfold deeds
  rw [List.reverse_append, List.map_append, ← List.map_reverse, ← List.map_reverse, List.map_map, List.map_map, List.reverse_reverse, shr_comm B A]
  rw [List.map_congr_left (f := turnM ∘ en) (g := lv) fun p _ => turn_en p, List.map_congr_left (f := turnM ∘ lv) (g := en) fun p _ => turn_lv p]
theorem deeds_mem {A B : List (Int × Int)} {x : MV} (h : x ∈ deeds A B) : ∃ p, (x = lv p ∧ p ∈ A) ∨ (x = en p ∧ p ∈ B) := by
  unfold deeds at h
  rcases List.mem_append.1 h with h | h
  · obtain ⟨p, hp, rfl⟩ := List.mem_map.1 h
    exact ⟨p, .inl ⟨rfl, List.mem_of_mem_drop (List.mem_reverse.1 hp)⟩⟩
  · obtain ⟨p, hp, rfl⟩ := List.mem_map.1 h
    exact ⟨p, .inr ⟨rfl, List.mem_of_mem_drop hp⟩⟩
/-- one behind the last of f's among the first n, or 0 -/
def mc (f : Int → Bool) (l : List Int) : Nat → Nat
  | 0 => 0
  | n + 1 => if f (l.getD n 0) = true then n + 1 else mc f l n
theorem mc_le (f : Int → Bool) (l : List Int) : ∀ n, mc f l n ≤ n
  | 0 => Nat.le_refl _
  | n + 1 => by simp only [mc]; split; exact Nat.le_refl _; exact Nat.le_succ_of_le (mc_le f l n)
theorem getD_of {l : List Int} {i : Nat} {b : Int} (h : l[i]? = some b) : l.getD i 0 = b := by
  rw [List.getD_eq_getElem?_getD, h]; rfl
theorem rng3_all {n : Nat} (h : n < 1000) : rngO3 [.int ((n : Int) - 1), .int (-1), .int (-1)] = some ⟨(List.range n).map fun k => .int ((n : Int) - 1 + (k : Nat) * (-1)), []⟩ := by
  simp only [rngO3]
  have hc : True ∧ -(2 ^ 62) ≤ (n : Int) - 1 ∧ (n : Int) - 1 < 2 ^ 62 ∧ -(2 ^ 62) ≤ (-1 : Int) ∧ (-1 : Int) < 2 ^ 62 := ⟨trivial, by omega⟩
  rw [if_pos hc]
  rw [show ((n : Int) - 1 - -1).toNat = n by omega]
theorem mark_cut_ok {S : Sto} {d : Nat} {kvs : List (Key × MV)} {fr : List Int} (hd : S.g d = .dK kvs) (F : Frs kvs fr) (hl : fr.length < 1000) :
    Ret (m_mark_cut [.tup (fr.map .int), .ref d] S) fun x S' => x = .int (mc (mrk kvs) fr fr.length) ∧ S' = S := by
  unfold m_mark_cut
  walk_at "def"
  unfold b_mark_cut
  walk_at "wq"
  rw [List.length_map]
  refine ⟨_, rng3_all hl, ?_⟩
  refine v_loop0 (fun i e S' => S' = S ∧ mc (mrk kvs) fr fr.length = mc (mrk kvs) fr (fr.length - i) ∧ ∃ x2, e = [some (.tup (fr.map .int)), some (.ref d), x2]) ⟨rfl, rfl, _, rfl⟩ ?_ ?_
  · rintro i x e S' hx ⟨rfl, hm, x2, rfl⟩
    obtain ⟨j, hj, rfl⟩ := get_map2 hx
    obtain ⟨hj1, hj2⟩ := range_get hj
    rw [hj2]
    have ei : (fr.length : Int) - 1 + (i : Nat) * (-1) = ((fr.length - i - 1 : Nat) : Int) := by omega
    rw [ei]
    have hlt : fr.length - i - 1 < fr.length := by omega
    have hb : fr[fr.length - i - 1]? = some fr[fr.length - i - 1] := List.getElem?_eq_getElem hlt
    generalize fr[fr.length - i - 1] = b at hb
    obtain ⟨w, r, hv⟩ := F b (List.mem_of_getElem? hb)
    refine ⟨ck_n, _, rfl, ?_⟩
    refine v_if ?_
    walk_at "wq"
    refine w_idxT (atI_nat (by rw [List.getElem?_map, hb]; rfl)) ?_
    walk_at "wq"
    refine w_idxK hd rfl hv ?_
    walk_at "wq"
    have e1 : fr.length - i = (fr.length - i - 1) + 1 := by omega
    have e2 : mc (mrk kvs) fr (fr.length - i) = if w = "mark" then fr.length - i - 1 + 1 else mc (mrk kvs) fr (fr.length - i - 1) := by
      rw [e1, mc, getD_of hb, mrk, kdw_eq hv]
      simp only [decide_eq_true_eq]
      rfl
    refine br_dec (fun hw => ?_) (fun hw => ?_)
    · walk_at "wq"
      refine ⟨?_, rfl⟩
      rw [hm, e2, if_pos hw]; congr 1
    · walk_at "wq"
      refine ⟨rfl, ?_, _, rfl⟩
      rw [hm, e2, if_neg hw, show fr.length - (i + 1) = fr.length - i - 1 by omega]
  · rintro e S' ⟨rfl, hm, x2, rfl⟩
    refine ⟨ck_n, ?_⟩
    walk_at "wq"
    refine ⟨?_, rfl⟩
    rw [hm]
    simp only [List.length_map, List.length_range, Nat.sub_self, mc]; rfl
end Law
end

section
namespace Law
open PySem L2 Mm
/-! the step of the pure proofs -/
local macro_rules
  | `(tactic| walk_at "wp side") => `(tactic| first | assumption | omega | decide)
local macro_rules
  | `(tactic| walk_at "wp1") => `(tactic| with_reducible first
    | refine Mm.v_seq ?_ | refine Mm.v_nx ?_ | refine Mm.v_asg ?_ | refine Mm.v_asgP ?_ | refine Mm.v_ret ?_ | refine Mm.v_retN ?_ | refine Mm.v_drop ?_ | refine Mm.v_set ?_ | refine Mm.v_aug ?_ | refine Mm.v_for ?_ | refine Mm.v_brk ?_ | refine Mm.v_ct ?_
    | refine Mm.w_con ?_ | refine Mm.w_op2 ?_ | refine Mm.w_op1 ?_ | refine Mm.w_opL ?_ | refine Mm.w_cons ?_ | refine Mm.w_nil ?_
    | refine Mm.w_add ?_ | refine Mm.w_sub ?_ | refine Mm.w_neg ?_ | refine Mm.w_lt ?_ | refine Mm.w_le ?_ | refine Mm.w_gt ?_ | refine Mm.w_ge ?_ | refine Mm.w_eqi ?_ | refine Mm.w_nei ?_ | refine Mm.w_eqs ?_ | refine Mm.w_nes ?_ | refine Mm.w_int ?_ | refine Mm.w_abs ?_ | refine Mm.w_isN ?_ | refine Mm.w_notN ?_ | refine Mm.w_min ?_ | refine Mm.w_max ?_
    | refine Mm.w_tru ?_ | refine Mm.w_blM ?_ | refine Mm.w_andB ?_ | refine Mm.w_orB ?_ | refine Mm.w_notB ?_ | refine Mm.w_ifV ?_ | refine Mm.w_andV ?_ | refine Mm.w_orV ?_ | refine Mm.w_notV ?_ | refine Mm.w_truB ?_ | refine Mm.w_truI ?_ | refine Mm.w_truN ?_ | refine Mm.w_truT ?_
    | refine Mm.w_dNewK ?_ | refine Mm.w_dNewT ?_ | refine Mm.w_iter ?_ | refine Mm.w_itmM ?_ | refine Mm.w_enm ?_ | refine Mm.w_enm2 ?_ | refine Mm.w_zip ?_ | refine Mm.w_rev ?_ | refine Mm.w_bm ?_ | refine Mm.w_lc ?_ | refine Mm.w_yes ?_ | refine Mm.br_t ?_ | refine Mm.br_f ?_ | refine Mm.w_slc ?_ | refine Mm.w_pno ?_ | refine Mm.w_pso ?_ | refine Mm.w_lenT ?_ | refine Mm.w_tupT ?_ | refine Mm.w_lstT ?_ | refine Mm.w_cutT ?_)
local macro_rules
  | `(tactic| walk_at "sto") => `(tactic| first
    | with_reducible assumption
    | with_reducible exact Mm.put_same
    | with_reducible exact Mm.add_same
    | (with_reducible refine (Mm.put_ne (by first | assumption | exact Ne.symm (by assumption) | ((try dsimp only [Mm.Sto.add, Mm.Sto.put]); omega))).trans ?_; walk_at "sto")
    | (with_reducible refine (Mm.add_ne (by first | assumption | exact Ne.symm (by assumption) | ((try dsimp only [Mm.Sto.add, Mm.Sto.put]); omega))).trans ?_; walk_at "sto")
    | fail)
local macro_rules
  | `(tactic| walk_at "wp2") => `(tactic| first
    | ((with_reducible apply Mm.w_var); · rfl)
    | ((with_reducible apply Mm.ex_mk); · with_reducible refine Mm.rng1 (by (try simp only [List.length_map]); omega))
    | ((with_reducible apply Mm.ex_mk); · with_reducible refine Mm.rng2 (by (try simp only [List.length_map]); omega))
    | ((with_reducible apply Mm.ex_mk); · rfl)
    | ((with_reducible refine Mm.br_true ?_ ?_); · rfl)
    | ((with_reducible refine Mm.br_false ?_ ?_); · rfl)
    | ((with_reducible refine Mm.w_mod ?_ ?_); · walk_at "wp side")
    | ((with_reducible refine Mm.w_div ?_ ?_ ?_); (· walk_at "wp side"); (· (first | decide | assumption)))
    | ((with_reducible refine Mm.w_mul ?_ ?_); · exact .inl (.inr (by decide)))
    | ((with_reducible refine Mm.w_mul ?_ ?_); · exact .inl (.inl (by decide)))
    | ((with_reducible refine Mm.w_mul ?_ ?_); · exact .inl (.inl (by omega)))
    | ((with_reducible refine Mm.w_mul ?_ ?_); · exact .inl (.inr (by omega)))
    | ((with_reducible refine Mm.w_pow ?_ ?_); · decide)
    | ((with_reducible refine Mm.w_lstV ?_ ?_); · (simp only [List.length_cons, List.length_nil]; decide))
    | ((with_reducible refine Mm.w_tupV ?_ ?_); · (simp only [List.length_cons, List.length_nil]; decide))
    | ((with_reducible apply Mm.w_idxL); (· walk_at "sto"); (· first | exact Mm.atI0 | exact Mm.atI1 | exact Mm.atI2 | exact Mm.atIl | rfl))
    | ((with_reducible apply Mm.w_idxC); (· walk_at "sto"); (· rfl))
    | ((with_reducible apply Mm.w_idxT); · first | exact Mm.atI0 | exact Mm.atI1 | exact Mm.atI2 | rfl)
    | ((with_reducible apply Mm.w_lenL); · walk_at "sto")
    | ((with_reducible apply Mm.w_lenC); · walk_at "sto")
    | ((with_reducible apply Mm.w_lenK); · walk_at "sto")
    | ((with_reducible apply Mm.w_tupL); · walk_at "sto")
    | ((with_reducible apply Mm.w_lstL); · walk_at "sto")
    | ((with_reducible apply Mm.w_cutL); · walk_at "sto")
    | ((with_reducible apply Mm.w_revL); · walk_at "sto")
    | ((with_reducible apply Mm.w_truL); · walk_at "sto")
    | ((with_reducible apply Mm.ex_mk); · exact Mm.it_lst (by walk_at "sto"))
    | ((with_reducible apply Mm.ex_mk); · exact Mm.it_con (by walk_at "sto"))
    | ((with_reducible apply Mm.ex_mk); · exact Mm.it_en2L (by walk_at "sto"))
    | ((with_reducible apply Mm.ex_mk); · exact Mm.it_en2C (by walk_at "sto"))
    | ((with_reducible apply Mm.ex_mk); · exact Mm.set_lst (by walk_at "sto") rfl)
    | ((with_reducible refine And.intro ?_ ?_); · exact Mm.ty_lst (by walk_at "sto"))
    | fail)
local macro_rules
  | `(tactic| walk_at "wq") => `(tactic| repeat' (first | (walk_at "wp1"; try dsimp only [List.set_cons_zero, List.set_cons_succ, Bool.not_true, Bool.not_false]) | (walk_at "wp2"; try dsimp only [Bool.not_true, Bool.not_false]) | fail))
local macro_rules
  | `(tactic| walk_at "wp") => `(tactic| repeat' (first | (with_reducible refine Mm.v_if ?_) | (walk_at "wp1"; try dsimp only [List.set_cons_zero, List.set_cons_succ, Bool.not_true, Bool.not_false]) | (walk_at "wp2"; try dsimp only [Bool.not_true, Bool.not_false]) | fail))
local macro_rules
  | `(tactic| walk_at "def") => `(tactic| (refine Mm.w_def rfl ?_; simp only [List.map_cons, List.map_nil, List.cons_append, List.nil_append, List.replicate, Nat.reduceSub, List.replicate_succ, List.replicate_zero]))
/-- a frame -/
def Fok (b : Int) (x : MV) : Prop := (∃ w r, x = .tup (.str w :: r) ∧ (w = "wind" → r = [.int (1000 + b), .int (2000 + b)])) ∧ ∃ d, Fl x d ∧ Smd 3 400 d
def k1 (m : Nat) : List Int := (List.range m).map fun (j : Nat) => (j : Int) + 1
structure Thg (S : Sto) (d : Nat) (kvs : List (Key × MV)) (m : Nat) : Prop where
  g : S.g d = .dK kvs
  n : d < S.n
  ks : kvs.map (·.1) = (k1 m).map Sum.inl
  fo : ∀ p ∈ kvs, ∀ b, p.1 = .inl b → Fok b p.2
  m0 : 0 < m
  m1 : m < 60
theorem Thg.ext {S S' : Sto} {d h m : Nat} {kvs : List (Key × MV)} (T : Thg S d kvs m) (E : ExtH h S S') (hd : d ≠ h) : Thg S' d kvs m :=
  ⟨(E.2 _ T.n hd).trans T.g, Nat.lt_of_lt_of_le T.n E.1, T.ks, T.fo, T.m0, T.m1⟩
theorem keysI_of : ∀ {kvs : List (Key × MV)} {ks : List Int}, kvs.map (·.1) = ks.map Sum.inl → keysI kvs = some ks
  | [], [], _ => rfl
  | [], _ :: _, e => by cases e
  | _ :: _, [], e => by cases e
  | (k, x) :: r, b :: ks, e => by
    simp only [List.map_cons, List.cons.injEq] at e
    obtain ⟨rfl, e⟩ := e
    simp only [keysI, keysI_of e, Option.map_some]
theorem val_mem : ∀ {kvs : List (Key × MV)} {k : Key}, k ∈ kvs.map (·.1) → ∃ x, valM kvs k = some x ∧ (k, x) ∈ kvs
  | [], _, h => by cases h
  | (k', x) :: r, k, h => by
    by_cases e : k' = k
    · subst e; exact ⟨x, by simp [valM], List.mem_cons_self⟩
    · simp only [List.map_cons, List.mem_cons] at h
      rcases h with h | h
      · exact absurd h.symm e
      · obtain ⟨y, h1, h2⟩ := val_mem h
        refine ⟨y, ?_, List.mem_cons_of_mem _ h2⟩
        unfold valM at h1 ⊢
        rw [List.find?_cons]
        simp only [e, decide_false]; exact h1
theorem Thg.at {S : Sto} {d m : Nat} {kvs : List (Key × MV)} (T : Thg S d kvs m) {b : Int} (h : b ∈ k1 m) : ∃ x, valM kvs (.inl b) = some x ∧ Fok b x := by
  obtain ⟨x, h1, h2⟩ := val_mem (kvs := kvs) (k := .inl b) (by rw [T.ks]; exact List.mem_map.2 ⟨b, h, rfl⟩)
  exact ⟨x, h1, T.fo _ h2 b rfl⟩
theorem Thg.frs {S : Sto} {d m : Nat} {kvs : List (Key × MV)} (T : Thg S d kvs m) {fr : List Int} (h : ∀ b ∈ fr, b ∈ k1 m) : Frs kvs fr := fun b hb => by
  obtain ⟨x, h1, ⟨w, r, rfl, _⟩, _⟩ := T.at (h b hb)
  exact ⟨w, r, h1⟩
theorem k1_len (m : Nat) : (k1 m).length = m := by simp [k1]
theorem k1_mem {m : Nat} {b : Int} (h : b ∈ k1 m) : 1 ≤ b ∧ b ≤ m := by
  obtain ⟨j, hj, rfl⟩ := List.mem_map.1 h
  have := List.mem_range.1 hj
  omega
theorem k1_succ (m : Nat) : k1 (m + 1) = k1 m ++ [(m : Int) + 1] := by
  unfold k1; rw [List.range_succ, List.map_append]; rfl
theorem putM_new {kvs : List (Key × MV)} {k : Key} {v : MV} (h : k ∉ kvs.map (·.1)) : putM kvs k v = kvs ++ [(k, v)] := by
  unfold putM
  rw [if_neg]
  intro q
  obtain ⟨p, hp, e⟩ := List.any_eq_true.1 q
  exact h (List.mem_map.2 ⟨p, hp, of_decide_eq_true e⟩)
/-- the data of the whole dict -/
theorem Thg.rd {S : Sto} {d m : Nat} {kvs : List (Key × MV)} (T : Thg S d kvs m) : ∃ D, (∀ S' : Sto, S'.g d = .dK kvs → rD S' (.ref d) = some D) ∧ shOk D := by
  have key : ∀ l : List (Key × MV), (∀ p ∈ l, ∃ b, Fok b p.2) → ∃ ds, toDwL (fun _ => none) (l.map (·.2)) = some ds ∧ ds.length = l.length ∧ ∀ e ∈ ds, Smd 3 400 e := by
    intro l
    induction l with
    | nil => intro _; exact ⟨[], rfl, rfl, fun e h => by cases h⟩
    | cons p l ih =>
      intro h
      obtain ⟨_, _, e, h1, h2⟩ := h p List.mem_cons_self
      obtain ⟨ds, h3, h4, h5⟩ := ih fun q hq => h q (List.mem_cons_of_mem _ hq)
      refine ⟨e :: ds, by simp only [List.map_cons, toDwL, h1 _, h3], by simp [h4], fun x hx => ?_⟩
      rcases List.mem_cons.1 hx with rfl | hx
      · exact h2
      · exact h5 x hx
  obtain ⟨ds, h1, h2, h3⟩ := key kvs fun p hp => by
    have h4 : p.1 ∈ kvs.map (·.1) := List.mem_map.2 ⟨p, hp, rfl⟩
    rw [T.ks] at h4
    obtain ⟨b, _, h5⟩ := List.mem_map.1 h4
    exact ⟨b, T.fo p hp b h5.symm⟩
  refine ⟨.dict ((kvs.map fun p => kD p.1).zip ds), fun S' hS => by simp only [rD, hS, h1, Option.map_some], ?_⟩
  have hk : kvs.length = m := by have := congrArg List.length T.ks; simpa [k1_len] using this
  have e : kvs.map (fun p => kD p.1) = (k1 m).map .int := by
    have := congrArg (List.map kD) T.ks
    simpa [Function.comp_def, kD] using this
  rw [e]
  refine (sm_dict (D := 3) (c := 400) (k := 19) (n := 60) (fun p hp => ?_) ?_).ok (by decide) (by decide)
  · obtain ⟨p1, p2⟩ := p
    obtain ⟨a, b⟩ := List.of_mem_zip hp
    refine ⟨?_, h3 _ b⟩
    obtain ⟨j, hj, e1⟩ := List.mem_map.1 a
    have hh := k1_mem hj
    have h1 := T.m1
    have e1 : p1 = .int j := e1.symm
    subst e1
    exact (sm_int (i := j) (by omega)).mono
  · rw [List.length_zip, List.length_map, k1_len]
    have h1 := T.m1
    omega
theorem fok_wind {b : Int} (h : 0 ≤ b ∧ b < 1000) : Fok b (.tup [.str "wind", .int (1000 + b), .int (2000 + b)]) := by
  refine ⟨⟨_, _, rfl, fun _ => rfl⟩, .tuple [.str "wind", .int (1000 + b), .int (2000 + b)], fl_tup (fll_cons fl_str (fll_cons fl_int (fll_cons fl_int fll_nil))), (sm_tup (D := 0) (c := 42) (n := 3) ?_ (Nat.le_refl _)).mono⟩
  intro e he
  simp only [List.mem_cons, List.not_mem_nil, or_false] at he
  rcases he with rfl | rfl | rfl
  · exact (sm_str (m := 4) (by decide +kernel) (by decide +kernel)).mono
  · exact (sm_int (by omega)).mono
  · exact (sm_int (by omega)).mono
theorem fok_wait {a b : Int} (h : 0 ≤ b ∧ b < 1000) (h2 : 0 ≤ a ∧ a < 9) : Fok b (.tup [.str "wait", .int a, .tup [.int b]]) := by
  refine ⟨⟨_, _, rfl, fun h => absurd h (by decide +kernel)⟩, .tuple [.str "wait", .int a, .tuple [.int b]], fl_tup (fll_cons fl_str (fll_cons fl_int (fll_cons (fl_tup (fll_cons fl_int fll_nil)) fll_nil))), (sm_tup (D := 1) (c := 42) (n := 3) ?_ (Nat.le_refl _)).mono⟩
  intro e he
  simp only [List.mem_cons, List.not_mem_nil, or_false] at he
  rcases he with rfl | rfl | rfl
  · exact (sm_str (m := 4) (by decide +kernel) (by decide +kernel)).mono
  · exact (sm_int (by omega)).mono
  · refine (sm_tup (D := 0) (c := 19) (n := 1) ?_ (Nat.le_refl _)).mono
    intro e he
    rw [List.mem_singleton.1 he]
    exact (sm_int (by omega)).mono
theorem fok_mark {b : Int} : Fok b (.tup [.str "mark"]) := by
  refine ⟨⟨_, _, rfl, fun h => absurd h (by decide +kernel)⟩, .tuple [.str "mark"], fl_tup (fll_cons fl_str fll_nil), (sm_tup (D := 0) (c := 42) (n := 1) ?_ (Nat.le_refl _)).mono⟩
  intro e he
  rw [List.mem_singleton.1 he]
  exact (sm_str (m := 4) (by decide +kernel) (by decide +kernel)).mono
theorem fok_pass {b : Int} : Fok b (.tup [.str "pass", .int 77]) := by
  refine ⟨⟨_, _, rfl, fun h => absurd h (by decide +kernel)⟩, .tuple [.str "pass", .int 77], fl_tup (fll_cons fl_str (fll_cons fl_int fll_nil)), (sm_tup (D := 0) (c := 42) (n := 2) ?_ (Nat.le_refl _)).mono⟩
  intro e he
  simp only [List.mem_cons, List.not_mem_nil, or_false] at he
  rcases he with rfl | rfl
  · exact (sm_str (m := 4) (by decide +kernel) (by decide +kernel)).mono
  · exact (sm_int (by decide)).mono
theorem fok_way {b : Int} : Fok b (.tup [.str "way", .tup [.str "out"], .tup [.str "give", .int 3]]) := by
  refine ⟨⟨_, _, rfl, fun h => absurd h (by decide +kernel)⟩, .tuple [.str "way", .tuple [.str "out"], .tuple [.str "give", .int 3]], fl_tup (fll_cons fl_str (fll_cons (fl_tup (fll_cons fl_str fll_nil)) (fll_cons (fl_tup (fll_cons fl_str (fll_cons fl_int fll_nil))) fll_nil))), (sm_tup (D := 1) (c := 110) (n := 3) ?_ (Nat.le_refl _)).mono⟩
  intro e he
  simp only [List.mem_cons, List.not_mem_nil, or_false] at he
  rcases he with rfl | rfl | rfl
  · exact (sm_str (m := 4) (by decide +kernel) (by decide +kernel)).mono
  · refine (sm_tup (D := 0) (c := 42) (n := 1) ?_ (Nat.le_refl _)).mono
    intro e he
    rw [List.mem_singleton.1 he]
    exact (sm_str (m := 4) (by decide +kernel) (by decide +kernel)).mono
  · refine (sm_tup (D := 0) (c := 42) (n := 2) ?_ (Nat.le_refl _)).mono
    intro e he
    simp only [List.mem_cons, List.not_mem_nil, or_false] at he
    rcases he with rfl | rfl
    · exact (sm_str (m := 4) (by decide +kernel) (by decide +kernel)).mono
    · exact (sm_int (by decide)).mono
theorem things_ok {S : Sto} {h c : Nat} {m : Nat} (H : Hd S h c) (hh : h < S.n) (hc : c < S.n) (m0 : 0 < m) (m1 : m < 60) :
    Ret (m__law_things [.ref h, .int m] S) fun x S' => x = .ref S.n ∧ Hd S' h c ∧ ExtH h S S' ∧ ∃ kvs, Thg S' S.n kvs m := by
  have sz : (60 : Nat) ≤ sizeLine := by decide
  unfold m__law_things
  walk_at "def"
  unfold b__law_things
  walk_at "wq"
  rw [show (1 + (m : Int) - 1).toNat = m by omega]
  refine v_loop0 (fun i e S' => Hd S' h c ∧ ExtH h S S' ∧ S.n < S'.n ∧ ∃ kvs x3 x4, e = [some (.ref h), some (.int m), some (.ref S.n), x3, x4] ∧ S'.g S.n = .dK kvs ∧ kvs.map (·.1) = (k1 i).map Sum.inl ∧ ∀ p ∈ kvs, ∀ b, p.1 = .inl b → Fok b p.2) ⟨H.add, ExtH.refl.add, Nat.lt_succ_self _, [], none, none, rfl, add_same, rfl, fun p h => by cases h⟩ ?_ ?_
  · rintro i x e S' hx ⟨H', E', hn, kvs, x3, x4, rfl, hg, hks, hfo⟩
    obtain ⟨hi, rfl⟩ := rngL_get hx
    have hkl : kvs.length = i := by have := congrArg List.length hks; simpa [k1_len] using this
    have hnew : (Sum.inl (1 + (i : Int)) : Key) ∉ kvs.map (·.1) := by
      rw [hks]
      intro q
      obtain ⟨j, hj, e⟩ := List.mem_map.1 q
      have := k1_mem hj
      injection e with e
      omega
    have fin : ∀ (x : MV) (S2 : Sto) (x4 : Option MV) , Fok (1 + (i : Int)) x → Hd S2 h c → ExtH h S' S2 →
        ∃ kvs2 x3 x4', [some (MV.ref h), some (.int m), some (.ref S.n), some (.int (1 + (i : Int))), x4] = [some (.ref h), some (.int m), some (.ref S.n), x3, x4'] ∧ (S2.put S.n (.dK (putM kvs (.inl (1 + (i : Int))) x))).g S.n = .dK kvs2 ∧ kvs2.map (·.1) = (k1 (i + 1)).map Sum.inl ∧ ∀ p ∈ kvs2, ∀ b, p.1 = .inl b → Fok b p.2 := by
      intro x S2 x4 hx h2 E2
      refine ⟨_, _, _, rfl, put_same, ?_, ?_⟩
      · rw [putM_new hnew, List.map_append, hks, k1_succ, List.map_append, Int.add_comm]; rfl
      · rw [putM_new hnew]
        intro p hp b hb
        rcases List.mem_append.1 hp with hp | hp
        · exact hfo p hp b hb
        · rw [List.mem_singleton.1 hp] at hb ⊢
          cases hb; exact hx
    have ne1 : S.n ≠ h := by omega
    have ne2 : S.n ≠ c := by omega
    refine ⟨ck_n, _, rfl, ?_⟩
    walk_at "wq"
    refine (draw H' (by decide) (by decide)).imp ?_
    rintro _ S2 ⟨⟨r, r0, r1, rfl⟩, H2, B2⟩
    have hg2 := (B2.2 _ ne1).trans hg
    walk_at "wq"
    refine v_if ?_
    walk_at "wq"
    refine br_dec (fun hr => ?_) (fun hr => ?_)
    · walk_at "wq"
      refine ⟨_, set_dK hg2 rfl (by omega), ?_⟩
      walk_at "wq"
      exact ⟨H2.put ne1 ne2, (E'.trans B2.h).put (Nat.le_refl _), by show S.n < S2.n; rw [B2.1]; exact hn, fin _ S2 _ (fok_wind (by omega)) H2 B2.h⟩
    refine v_if ?_
    walk_at "wq"
    refine br_dec (fun hr => ?_) (fun hr => ?_)
    · walk_at "wq"
      refine (draw H2 (by decide) (by decide)).imp ?_
      rintro _ S3 ⟨⟨r3, r30, r31, rfl⟩, H3, B3⟩
      walk_at "wq"
      refine ⟨_, set_dK ((B3.2 _ ne1).trans hg2) rfl (by omega), ?_⟩
      walk_at "wq"
      exact ⟨H3.put ne1 ne2, ((E'.trans B2.h).trans B3.h).put (Nat.le_refl _), by show S.n < S3.n; rw [B3.1, B2.1]; exact hn, fin _ S3 _ (fok_wait (by omega) (by omega)) H3 (B2.h.trans B3.h)⟩
    refine v_if ?_
    walk_at "wq"
    refine br_dec (fun hr => ?_) (fun hr => ?_)
    · walk_at "wq"
      refine ⟨_, set_dK hg2 rfl (by omega), ?_⟩
      walk_at "wq"
      exact ⟨H2.put ne1 ne2, (E'.trans B2.h).put (Nat.le_refl _), by show S.n < S2.n; rw [B2.1]; exact hn, fin _ S2 _ fok_mark H2 B2.h⟩
    walk_at "wq"
    refine (pickL H2.add add_same (by have := B2.1; omega) (by decide) (by decide)).imp ?_
    rintro x S3 ⟨hx3, H3, B3⟩
    have fx : Fok (1 + (i : Int)) x := by
      simp only [List.mem_cons, List.not_mem_nil, or_false] at hx3
      rcases hx3 with rfl | rfl | rfl
      · exact fok_pass
      · exact fok_way
      · exact fok_mark
    have n3 : S.n < S3.n := by rw [B3.1]; show S.n < S2.n + 1; rw [B2.1]; omega
    walk_at "wq"
    refine ⟨_, set_dK ((B3.2 _ ne1).trans ((add_ne (by have := B2.1; omega)).trans hg2)) rfl (by omega), ?_⟩
    walk_at "wq"
    exact ⟨H3.put ne1 ne2, ((E'.trans B2.h).add.trans B3.h).put (Nat.le_refl _), n3, fin _ S3 _ fx H3 (B2.h.add.trans B3.h)⟩
  · rintro e S' ⟨H', E', hn, kvs, x3, x4, rfl, hg, hks, hfo⟩
    refine ⟨ck_n, ?_⟩
    rw [rngL_len] at hks
    walk_at "wq"
    exact ⟨rfl, H', E', kvs, hg, hn, hks, hfo, m0, m1⟩
theorem row_ok {S : Sto} {h c d m : Nat} {kvs : List (Key × MV)} {most : Nat} (H : Hd S h c) (hh : h < S.n) (T : Thg S d kvs m) (hm : most < 900) (hdh : d ≠ h) :
    Ret (m__law_row [.ref h, .ref d, .int most] S) fun x S' => (∃ fr : List Int, x = .tup (fr.map .int) ∧ fr.length ≤ most ∧ ∀ b ∈ fr, b ∈ k1 m) ∧ Hd S' h c ∧ ExtH h S S' := by
  have sz : (1000 : Nat) ≤ sizeLine := by decide
  unfold m__law_row
  walk_at "def"
  unfold b__law_row
  walk_at "wq"
  refine w_sortK T.g (keysI_of T.ks) (by rw [k1_len]; exact Nat.lt_trans T.m1 (by decide)) ?_
  have hp := sortI_perm (k1 m)
  generalize hL : sortI (k1 m) = L at *
  have hl : L.length = m := by rw [hp.length_eq, k1_len]
  walk_at "wq"
  refine (draw H.add (by omega) (by omega)).imp ?_
  rintro _ S2 ⟨⟨r, r0, r1, rfl⟩, H2, B2⟩
  have n2 : S2.n = S.n + 1 := B2.1
  have g2 : S2.g S.n = .lst (L.map .int) := (B2.2 _ (by omega)).trans add_same
  walk_at "wq"
  refine w_lc0 (fun i acc S' => Hd S' h c ∧ But h S2 S' ∧ ∃ fr : List Int, acc = fr.map .int ∧ fr.length = i ∧ ∀ b ∈ fr, b ∈ k1 m) ⟨H2, ⟨rfl, fun _ _ => rfl⟩, [], rfl, rfl, fun b h => by cases h⟩ ?_ ?_
  · rintro i x acc S' hx ⟨H', B', fr, rfl, hf, hfm⟩
    obtain ⟨hi, rfl⟩ := rngL_get hx
    refine ⟨ck_n, _, rfl, ?_⟩
    walk_at "wq"
    refine (pickL H' ((B'.2 _ (by omega)).trans g2) (by omega) (by rw [List.length_map, hl]; exact T.m0) (by rw [List.length_map, hl]; have := T.m1; omega)).imp ?_
    rintro x S3 ⟨hx3, H3, B3⟩
    obtain ⟨b, hb, rfl⟩ := List.mem_map.1 hx3
    refine ⟨by rw [List.length_map]; omega, H3, B'.trans B3, fr ++ [b], by rw [List.map_append]; rfl, by simp [hf], fun z hz => ?_⟩
    rcases List.mem_append.1 hz with hz | hz
    · exact hfm z hz
    · rw [List.mem_singleton.1 hz]; exact hp.subset hb
  · rintro acc S' ⟨H', B', fr, rfl, hf, hfm⟩
    rw [rngL_len] at hf
    refine ⟨ck_n, ?_⟩
    walk_at "wq"
    exact ⟨⟨fr, rfl, by omega, hfm⟩, H'.add, ((ExtH.refl.add).trans (B2.trans B').h).add⟩
end Law
end

section
namespace Law
open PySem L2 Mm
/-! the step of the pure proofs -/
local macro_rules
  | `(tactic| walk_at "wp side") => `(tactic| first | assumption | omega | decide)
local macro_rules
  | `(tactic| walk_at "wp1") => `(tactic| with_reducible first
    | refine Mm.v_seq ?_ | refine Mm.v_nx ?_ | refine Mm.v_asg ?_ | refine Mm.v_asgP ?_ | refine Mm.v_ret ?_ | refine Mm.v_retN ?_ | refine Mm.v_drop ?_ | refine Mm.v_set ?_ | refine Mm.v_aug ?_ | refine Mm.v_for ?_ | refine Mm.v_brk ?_ | refine Mm.v_ct ?_
    | refine Mm.w_con ?_ | refine Mm.w_op2 ?_ | refine Mm.w_op1 ?_ | refine Mm.w_opL ?_ | refine Mm.w_cons ?_ | refine Mm.w_nil ?_
    | refine Mm.w_add ?_ | refine Mm.w_sub ?_ | refine Mm.w_neg ?_ | refine Mm.w_lt ?_ | refine Mm.w_le ?_ | refine Mm.w_gt ?_ | refine Mm.w_ge ?_ | refine Mm.w_eqi ?_ | refine Mm.w_nei ?_ | refine Mm.w_eqs ?_ | refine Mm.w_nes ?_ | refine Mm.w_int ?_ | refine Mm.w_abs ?_ | refine Mm.w_isN ?_ | refine Mm.w_notN ?_ | refine Mm.w_min ?_ | refine Mm.w_max ?_
    | refine Mm.w_tru ?_ | refine Mm.w_blM ?_ | refine Mm.w_andB ?_ | refine Mm.w_orB ?_ | refine Mm.w_notB ?_ | refine Mm.w_ifV ?_ | refine Mm.w_andV ?_ | refine Mm.w_orV ?_ | refine Mm.w_notV ?_ | refine Mm.w_truB ?_ | refine Mm.w_truI ?_ | refine Mm.w_truN ?_ | refine Mm.w_truT ?_
    | refine Mm.w_dNewK ?_ | refine Mm.w_dNewT ?_ | refine Mm.w_iter ?_ | refine Mm.w_itmM ?_ | refine Mm.w_enm ?_ | refine Mm.w_enm2 ?_ | refine Mm.w_zip ?_ | refine Mm.w_rev ?_ | refine Mm.w_bm ?_ | refine Mm.w_lc ?_ | refine Mm.w_yes ?_ | refine Mm.br_t ?_ | refine Mm.br_f ?_ | refine Mm.w_slc ?_ | refine Mm.w_pno ?_ | refine Mm.w_pso ?_ | refine Mm.w_lenT ?_ | refine Mm.w_tupT ?_ | refine Mm.w_lstT ?_ | refine Mm.w_cutT ?_)
local macro_rules
  | `(tactic| walk_at "sto") => `(tactic| first
    | with_reducible assumption
    | with_reducible exact Mm.put_same
    | with_reducible exact Mm.add_same
    | (with_reducible refine (Mm.put_ne (by first | assumption | exact Ne.symm (by assumption) | ((try dsimp only [Mm.Sto.add, Mm.Sto.put]); omega))).trans ?_; walk_at "sto")
    | (with_reducible refine (Mm.add_ne (by first | assumption | exact Ne.symm (by assumption) | ((try dsimp only [Mm.Sto.add, Mm.Sto.put]); omega))).trans ?_; walk_at "sto")
    | fail)
local macro_rules
  | `(tactic| walk_at "wp2") => `(tactic| first
    | ((with_reducible apply Mm.w_var); · rfl)
    | ((with_reducible apply Mm.ex_mk); · with_reducible refine Mm.rng1 (by (try simp only [List.length_map]); omega))
    | ((with_reducible apply Mm.ex_mk); · with_reducible refine Mm.rng2 (by (try simp only [List.length_map]); omega))
    | ((with_reducible apply Mm.ex_mk); · rfl)
    | ((with_reducible refine Mm.br_true ?_ ?_); · rfl)
    | ((with_reducible refine Mm.br_false ?_ ?_); · rfl)
    | ((with_reducible refine Mm.w_mod ?_ ?_); · walk_at "wp side")
    | ((with_reducible refine Mm.w_div ?_ ?_ ?_); (· walk_at "wp side"); (· (first | decide | assumption)))
    | ((with_reducible refine Mm.w_mul ?_ ?_); · exact .inl (.inr (by decide)))
    | ((with_reducible refine Mm.w_mul ?_ ?_); · exact .inl (.inl (by decide)))
    | ((with_reducible refine Mm.w_mul ?_ ?_); · exact .inl (.inl (by omega)))
    | ((with_reducible refine Mm.w_mul ?_ ?_); · exact .inl (.inr (by omega)))
    | ((with_reducible refine Mm.w_pow ?_ ?_); · decide)
    | ((with_reducible refine Mm.w_lstV ?_ ?_); · (simp only [List.length_cons, List.length_nil]; decide))
    | ((with_reducible refine Mm.w_tupV ?_ ?_); · (simp only [List.length_cons, List.length_nil]; decide))
    | ((with_reducible apply Mm.w_idxL); (· walk_at "sto"); (· first | exact Mm.atI0 | exact Mm.atI1 | exact Mm.atI2 | exact Mm.atIl | rfl))
    | ((with_reducible apply Mm.w_idxC); (· walk_at "sto"); (· rfl))
    | ((with_reducible apply Mm.w_idxT); · first | exact Mm.atI0 | exact Mm.atI1 | exact Mm.atI2 | rfl)
    | ((with_reducible apply Mm.w_lenL); · walk_at "sto")
    | ((with_reducible apply Mm.w_lenC); · walk_at "sto")
    | ((with_reducible apply Mm.w_lenK); · walk_at "sto")
    | ((with_reducible apply Mm.w_tupL); · walk_at "sto")
    | ((with_reducible apply Mm.w_lstL); · walk_at "sto")
    | ((with_reducible apply Mm.w_cutL); · walk_at "sto")
    | ((with_reducible apply Mm.w_revL); · walk_at "sto")
    | ((with_reducible apply Mm.w_truL); · walk_at "sto")
    | ((with_reducible apply Mm.ex_mk); · exact Mm.it_lst (by walk_at "sto"))
    | ((with_reducible apply Mm.ex_mk); · exact Mm.it_con (by walk_at "sto"))
    | ((with_reducible apply Mm.ex_mk); · exact Mm.it_en2L (by walk_at "sto"))
    | ((with_reducible apply Mm.ex_mk); · exact Mm.it_en2C (by walk_at "sto"))
    | ((with_reducible apply Mm.ex_mk); · exact Mm.set_lst (by walk_at "sto") rfl)
    | ((with_reducible refine And.intro ?_ ?_); · exact Mm.ty_lst (by walk_at "sto"))
    | fail)
local macro_rules
  | `(tactic| walk_at "wq") => `(tactic| repeat' (first | (walk_at "wp1"; try dsimp only [List.set_cons_zero, List.set_cons_succ, Bool.not_true, Bool.not_false]) | (walk_at "wp2"; try dsimp only [Bool.not_true, Bool.not_false]) | fail))
local macro_rules
  | `(tactic| walk_at "wp") => `(tactic| repeat' (first | (with_reducible refine Mm.v_if ?_) | (walk_at "wp1"; try dsimp only [List.set_cons_zero, List.set_cons_succ, Bool.not_true, Bool.not_false]) | (walk_at "wp2"; try dsimp only [Bool.not_true, Bool.not_false]) | fail))
local macro_rules
  | `(tactic| walk_at "def") => `(tactic| (refine Mm.w_def rfl ?_; simp only [List.map_cons, List.map_nil, List.cons_append, List.nil_append, List.replicate, Nat.reduceSub, List.replicate_succ, List.replicate_zero]))
theorem fll_of {l : List MV} {c D : Nat} (h : ∀ x ∈ l, ∃ d, Fl x d ∧ Smd D c d) : ∃ ds, FlL l ds ∧ ds.length = l.length ∧ ∀ d ∈ ds, Smd D c d := by
  induction l with
  | nil => exact ⟨[], fll_nil, rfl, fun d h => by cases h⟩
  | cons x l ih =>
    obtain ⟨d, h1, h2⟩ := h x List.mem_cons_self
    obtain ⟨ds, h3, h4, h5⟩ := ih fun y hy => h y (List.mem_cons_of_mem _ hy)
    refine ⟨d :: ds, fll_cons h1 h3, by simp [h4], fun e he => ?_⟩
    rcases List.mem_cons.1 he with rfl | he
    · exact h2
    · exact h5 e he
/-- a tuple of small things has a repr -/
theorem rep_tup {l : List MV} (h : ∀ x ∈ l, ∃ d, Fl x d ∧ Smd 3 400 d) (hl : l.length ≤ 5000) : ∃ D, (∀ S : Sto, rD S (.tup l) = some D) ∧ shOk D := by
  obtain ⟨ds, h1, h2, h3⟩ := fll_of h
  exact ⟨.tuple ds, fun S => toD_fl (fl_tup h1), (sm_tup (n := 5000) h3 (by omega)).ok (by decide) (by decide)⟩
theorem winds_mem {f : Int → Bool} {l : List Int} {p : Int × Int} (h : p ∈ winds f l) : 0 ≤ p.1 ∧ p.1 < l.length ∧ p.2 ∈ l := by
  unfold winds at h
  obtain ⟨q, hq, rfl⟩ := List.mem_map.1 h
  have hq := (List.mem_filter.1 hq).1
  obtain ⟨a, b, c⟩ := List.mem_zipIdx hq
  simp only [Nat.zero_add] at b
  refine ⟨by simp only; omega, by simp only; omega, ?_⟩
  simp only
  rw [c]; exact List.getElem_mem _
theorem sm_three {w : Str} {a b : Int} (hw : w = "leave" ∨ w = "enter") (ha : a.natAbs < 10 ^ 18) (hb : b.natAbs < 10 ^ 18) : ∃ d, Fl (.tup [.str w, .int a, .int b]) d ∧ Smd 3 400 d := by
  refine ⟨.tuple [.str w, .int a, .int b], fl_tup (fll_cons fl_str (fll_cons fl_int (fll_cons fl_int fll_nil))), (sm_tup (D := 0) (c := 52) (n := 3) ?_ (Nat.le_refl _)).mono⟩
  intro e he
  simp only [List.mem_cons, List.not_mem_nil, or_false] at he
  rcases he with rfl | rfl | rfl
  · rcases hw with rfl | rfl <;> exact (sm_str (m := 5) (by decide +kernel) (by decide +kernel)).mono
  · exact (sm_int ha).mono
  · exact (sm_int hb).mono
theorem sm_two {a b : Int} (ha : a.natAbs < 10 ^ 18) (hb : b.natAbs < 10 ^ 18) : ∃ d, Fl (.tup [.int a, .int b]) d ∧ Smd 3 400 d := by
  refine ⟨.tuple [.int a, .int b], fl_tup (fll_cons fl_int (fll_cons fl_int fll_nil)), (sm_tup (D := 0) (c := 52) (n := 2) ?_ (Nat.le_refl _)).mono⟩
  intro e he
  simp only [List.mem_cons, List.not_mem_nil, or_false] at he
  rcases he with rfl | rfl
  · exact (sm_int ha).mono
  · exact (sm_int hb).mono
theorem rep_deeds {f : Int → Bool} {p g : List Int} {m : Nat} (hm : m < 60) (hp : ∀ b ∈ p, b ∈ k1 m) (hg : ∀ b ∈ g, b ∈ k1 m) (lp : p.length ≤ 300) (lg : g.length ≤ 300) : ∃ D, (∀ S : Sto, rD S (.tup (deeds (winds f p) (winds f g))) = some D) ∧ shOk D := by
  refine rep_tup (fun x hx => ?_) ?_
  · obtain ⟨q, ⟨rfl, hq⟩ | ⟨rfl, hq⟩⟩ := deeds_mem hx
    · obtain ⟨a, b, c⟩ := winds_mem hq
      have := k1_mem (hp _ c)
      exact sm_three (.inl rfl) (by omega) (by omega)
    · obtain ⟨a, b, c⟩ := winds_mem hq
      have := k1_mem (hg _ c)
      exact sm_three (.inr rfl) (by omega) (by omega)
  · have := deeds_len (A := winds f p) (B := winds f g)
    have := winds_len (f := f) (l := p)
    have := winds_len (f := f) (l := g)
    omega
theorem rep_winds {f : Int → Bool} {p : List Int} {m : Nat} (hm : m < 60) (hp : ∀ b ∈ p, b ∈ k1 m) (lp : p.length ≤ 300) : ∃ D, (∀ S : Sto, rD S (.tup ((winds f p).map pr)) = some D) ∧ shOk D := by
  refine rep_tup (fun x hx => ?_) ?_
  · obtain ⟨q, hq, rfl⟩ := List.mem_map.1 hx
    obtain ⟨a, b, c⟩ := winds_mem hq
    have := k1_mem (hp _ c)
    exact sm_two (by omega) (by omega)
  · have := winds_len (f := f) (l := p)
    rw [List.length_map]; omega
theorem rep_int {i : Int} (h : i.natAbs < 10 ^ 18) : ∃ D, (∀ S : Sto, rD S (.int i) = some D) ∧ shOk D := ⟨.int i, fun _ => rfl, (sm_int h).ok (by decide) (by decide)⟩
def Row (m : Nat) (x : MV) : Prop := ∃ g : List Int, x = .tup (g.map .int) ∧ g.length ≤ 300 ∧ ∀ b ∈ g, b ∈ k1 m
end Law
end

section
namespace Law
open PySem L2 Mm
/-! the step of the pure proofs -/
local macro_rules
  | `(tactic| walk_at "wp side") => `(tactic| first | assumption | omega | decide)
local macro_rules
  | `(tactic| walk_at "wp1") => `(tactic| with_reducible first
    | refine Mm.v_seq ?_ | refine Mm.v_nx ?_ | refine Mm.v_asg ?_ | refine Mm.v_asgP ?_ | refine Mm.v_ret ?_ | refine Mm.v_retN ?_ | refine Mm.v_drop ?_ | refine Mm.v_set ?_ | refine Mm.v_aug ?_ | refine Mm.v_for ?_ | refine Mm.v_brk ?_ | refine Mm.v_ct ?_
    | refine Mm.w_con ?_ | refine Mm.w_op2 ?_ | refine Mm.w_op1 ?_ | refine Mm.w_opL ?_ | refine Mm.w_cons ?_ | refine Mm.w_nil ?_
    | refine Mm.w_add ?_ | refine Mm.w_sub ?_ | refine Mm.w_neg ?_ | refine Mm.w_lt ?_ | refine Mm.w_le ?_ | refine Mm.w_gt ?_ | refine Mm.w_ge ?_ | refine Mm.w_eqi ?_ | refine Mm.w_nei ?_ | refine Mm.w_eqs ?_ | refine Mm.w_nes ?_ | refine Mm.w_int ?_ | refine Mm.w_abs ?_ | refine Mm.w_isN ?_ | refine Mm.w_notN ?_ | refine Mm.w_min ?_ | refine Mm.w_max ?_
    | refine Mm.w_tru ?_ | refine Mm.w_blM ?_ | refine Mm.w_andB ?_ | refine Mm.w_orB ?_ | refine Mm.w_notB ?_ | refine Mm.w_ifV ?_ | refine Mm.w_andV ?_ | refine Mm.w_orV ?_ | refine Mm.w_notV ?_ | refine Mm.w_truB ?_ | refine Mm.w_truI ?_ | refine Mm.w_truN ?_ | refine Mm.w_truT ?_
    | refine Mm.w_dNewK ?_ | refine Mm.w_dNewT ?_ | refine Mm.w_iter ?_ | refine Mm.w_itmM ?_ | refine Mm.w_enm ?_ | refine Mm.w_enm2 ?_ | refine Mm.w_zip ?_ | refine Mm.w_rev ?_ | refine Mm.w_bm ?_ | refine Mm.w_lc ?_ | refine Mm.w_yes ?_ | refine Mm.br_t ?_ | refine Mm.br_f ?_ | refine Mm.w_slc ?_ | refine Mm.w_pno ?_ | refine Mm.w_pso ?_ | refine Mm.w_lenT ?_ | refine Mm.w_tupT ?_ | refine Mm.w_lstT ?_ | refine Mm.w_cutT ?_)
local macro_rules
  | `(tactic| walk_at "sto") => `(tactic| first
    | with_reducible assumption
    | with_reducible exact Mm.put_same
    | with_reducible exact Mm.add_same
    | (with_reducible refine (Mm.put_ne (by first | assumption | exact Ne.symm (by assumption) | ((try dsimp only [Mm.Sto.add, Mm.Sto.put]); omega))).trans ?_; walk_at "sto")
    | (with_reducible refine (Mm.add_ne (by first | assumption | exact Ne.symm (by assumption) | ((try dsimp only [Mm.Sto.add, Mm.Sto.put]); omega))).trans ?_; walk_at "sto")
    | fail)
local macro_rules
  | `(tactic| walk_at "wp2") => `(tactic| first
    | ((with_reducible apply Mm.w_var); · rfl)
    | ((with_reducible apply Mm.ex_mk); · with_reducible refine Mm.rng1 (by (try simp only [List.length_map]); omega))
    | ((with_reducible apply Mm.ex_mk); · with_reducible refine Mm.rng2 (by (try simp only [List.length_map]); omega))
    | ((with_reducible apply Mm.ex_mk); · rfl)
    | ((with_reducible refine Mm.br_true ?_ ?_); · rfl)
    | ((with_reducible refine Mm.br_false ?_ ?_); · rfl)
    | ((with_reducible refine Mm.w_mod ?_ ?_); · walk_at "wp side")
    | ((with_reducible refine Mm.w_div ?_ ?_ ?_); (· walk_at "wp side"); (· (first | decide | assumption)))
    | ((with_reducible refine Mm.w_mul ?_ ?_); · exact .inl (.inr (by decide)))
    | ((with_reducible refine Mm.w_mul ?_ ?_); · exact .inl (.inl (by decide)))
    | ((with_reducible refine Mm.w_mul ?_ ?_); · exact .inl (.inl (by omega)))
    | ((with_reducible refine Mm.w_mul ?_ ?_); · exact .inl (.inr (by omega)))
    | ((with_reducible refine Mm.w_pow ?_ ?_); · decide)
    | ((with_reducible refine Mm.w_lstV ?_ ?_); · (simp only [List.length_cons, List.length_nil]; decide))
    | ((with_reducible refine Mm.w_tupV ?_ ?_); · (simp only [List.length_cons, List.length_nil]; decide))
    | ((with_reducible apply Mm.w_idxL); (· walk_at "sto"); (· first | exact Mm.atI0 | exact Mm.atI1 | exact Mm.atI2 | exact Mm.atIl | rfl))
    | ((with_reducible apply Mm.w_idxC); (· walk_at "sto"); (· rfl))
    | ((with_reducible apply Mm.w_idxT); · first | exact Mm.atI0 | exact Mm.atI1 | exact Mm.atI2 | rfl)
    | ((with_reducible apply Mm.w_lenL); · walk_at "sto")
    | ((with_reducible apply Mm.w_lenC); · walk_at "sto")
    | ((with_reducible apply Mm.w_lenK); · walk_at "sto")
    | ((with_reducible apply Mm.w_tupL); · walk_at "sto")
    | ((with_reducible apply Mm.w_lstL); · walk_at "sto")
    | ((with_reducible apply Mm.w_cutL); · walk_at "sto")
    | ((with_reducible apply Mm.w_revL); · walk_at "sto")
    | ((with_reducible apply Mm.w_truL); · walk_at "sto")
    | ((with_reducible apply Mm.ex_mk); · exact Mm.it_lst (by walk_at "sto"))
    | ((with_reducible apply Mm.ex_mk); · exact Mm.it_con (by walk_at "sto"))
    | ((with_reducible apply Mm.ex_mk); · exact Mm.it_en2L (by walk_at "sto"))
    | ((with_reducible apply Mm.ex_mk); · exact Mm.it_en2C (by walk_at "sto"))
    | ((with_reducible apply Mm.ex_mk); · exact Mm.set_lst (by walk_at "sto") rfl)
    | ((with_reducible refine And.intro ?_ ?_); · exact Mm.ty_lst (by walk_at "sto"))
    | fail)
local macro_rules
  | `(tactic| walk_at "wq") => `(tactic| repeat' (first | (walk_at "wp1"; try dsimp only [List.set_cons_zero, List.set_cons_succ, Bool.not_true, Bool.not_false]) | (walk_at "wp2"; try dsimp only [Bool.not_true, Bool.not_false]) | fail))
local macro_rules
  | `(tactic| walk_at "wp") => `(tactic| repeat' (first | (with_reducible refine Mm.v_if ?_) | (walk_at "wp1"; try dsimp only [List.set_cons_zero, List.set_cons_succ, Bool.not_true, Bool.not_false]) | (walk_at "wp2"; try dsimp only [Bool.not_true, Bool.not_false]) | fail))
local macro_rules
  | `(tactic| walk_at "def") => `(tactic| (refine Mm.w_def rfl ?_; simp only [List.map_cons, List.map_nil, List.cons_append, List.nil_append, List.replicate, Nat.reduceSub, List.replicate_succ, List.replicate_zero]))
theorem winds_at {f : Int → Bool} {l : List Int} : ∀ (i : Nat), i ≤ l.length → ∀ (j : Nat) (p : Int × Int), (winds f (l.take i))[j]? = some p → ∃ pos : Nat, p.1 = pos ∧ pos < i ∧ l[pos]? = some p.2 ∧ f p.2 = true ∧ winds f (l.take pos) = (winds f (l.take i)).take j
  | 0, _, j, p, h => by simp [winds_nil] at h
  | i + 1, hi, j, p, h => by
    have hb : l[i]? = some l[i] := List.getElem?_eq_getElem (by omega)
    generalize l[i] = b at hb
    rw [winds_snoc hb] at h ⊢
    by_cases hj : j < (winds f (l.take i)).length
    · rw [List.getElem?_append_left hj] at h
      obtain ⟨pos, h1, h2, h3, h4, h5⟩ := winds_at i (by omega) j p h
      exact ⟨pos, h1, by omega, h3, h4, by rw [h5, List.take_append_of_le_length (by omega)]⟩
    · rw [List.getElem?_append_right (by omega)] at h
      split at h
      · rename_i hf
        have : j - (winds f (l.take i)).length = 0 := by
          cases q : j - (winds f (l.take i)).length with
          | zero => rfl
          | succ n => rw [q] at h; simp at h
        rw [this] at h
        cases h
        refine ⟨i, rfl, Nat.lt_succ_self _, hb, hf, ?_⟩
        have hjj : j = (winds f (l.take i)).length := by omega
        rw [hjj]; simp
      · simp at h
theorem winds_cut {f : Int → Bool} {l : List Int} {j : Nat} {p : Int × Int} (h : (winds f l)[j]? = some p) : ∃ pos : Nat, p.1 = pos ∧ pos < l.length ∧ l[pos]? = some p.2 ∧ f p.2 = true ∧ winds f (l.take pos) = (winds f l).take j ∧ winds f (l.take (pos + 1)) = (winds f l).take (j + 1) := by
  have h' : (winds f (l.take l.length))[j]? = some p := by rw [List.take_length]; exact h
  obtain ⟨pos, h1, h2, h3, h4, h5⟩ := winds_at l.length (Nat.le_refl _) j p h'
  rw [List.take_length] at h5
  refine ⟨pos, h1, h2, h3, h4, h5, ?_⟩
  rw [winds_snoc h3, if_pos h4, h5, take_snoc h, ← h1]
theorem sh_of_all {l : List MV} {D : Nat} (h : ∀ x ∈ l, ∃ d, Fl x d ∧ ShD D d) : ∃ ds, FlL l ds ∧ ds.length = l.length ∧ ShL D ds := by
  induction l with
  | nil => exact ⟨[], fll_nil, rfl, shl_nil⟩
  | cons x l ih =>
    obtain ⟨d, h1, h2⟩ := h x List.mem_cons_self
    obtain ⟨ds, h3, h4, h5⟩ := ih fun y hy => h y (List.mem_cons_of_mem _ hy)
    exact ⟨d :: ds, fll_cons h1 h3, by simp [h4], shl_cons h2 h5⟩
theorem deeds_sh (A B : List (Int × Int)) : ∃ ds, FlL (deeds A B) ds ∧ ds.length = (deeds A B).length ∧ ShL 1 ds := by
  refine sh_of_all fun x hx => ?_
  obtain ⟨q, ⟨rfl, _⟩ | ⟨rfl, _⟩⟩ := deeds_mem hx
  · exact ⟨_, fl_tup (fll_cons fl_str (fll_cons fl_int (fll_cons fl_int fll_nil))), shd_tup (n := 0) (shl_cons (shd_str (by decide +kernel)) (shl_cons shd_int (shl_cons shd_int shl_nil)))⟩
  · exact ⟨_, fl_tup (fll_cons fl_str (fll_cons fl_int (fll_cons fl_int fll_nil))), shd_tup (n := 0) (shl_cons (shd_str (by decide +kernel)) (shl_cons shd_int (shl_cons shd_int shl_nil)))⟩
theorem w_eq0 {S : Sto} {l : List MV} {ds : List PyData} {D : Nat} {Q : MV → Sto → Prop} (h : FlL l ds) (s : ShL D ds) (hD : D + 1 ≤ 64) (q : Q (.bl (decide (ds = []))) S) : Ret (eqV (.tup l) (.tup []) S) Q := by
  refine w_eqA (toD_fl (fl_tup h)) (toD_fl (fl_tup fll_nil)) (sh_of (shd_tup s) hD) (sh_of (shd_tup (n := 0) shl_nil) (by decide)) ?_
  have : PyData.eqv (.tuple ds) (.tuple []) = decide (ds = []) := by
    cases ds with
    | nil => rfl
    | cons a l => simp [PyData.eqv, PyData.eqvAll]
  rw [this]; exact q
def tuI (l : List Int) : MV := .tup (l.map .int)
def roadTo (F : List Int) (n : Nat) : MV := .tup [.str "to", tuI F, .int n]
def leaveR (b : Int) (P : List Int) (pos : Nat) (F : List Int) : MV := .tup [.str "leave", .int (2000 + b), tuI (P.take pos), roadTo F 0]
def enterR (b : Int) (F : List Int) (pos : Nat) (n : Nat) : MV := .tup [.str "enter", .int (1000 + b), tuI (F.take pos), roadTo F n]
def arriveR (F : List Int) : MV := .tup [.str "arrive", .non, tuI F, .non]
/-- the step of go_to, from the present row P to F -/
def goR (f : Int → Bool) (P F : List Int) : MV :=
  match ((winds f P).drop (shr (winds f P) (winds f F))).getLast?, ((winds f F).drop (shr (winds f P) (winds f F)))[0]? with
  | some p, _ => leaveR p.2 P p.1.toNat F
  | none, some p => enterR p.2 F p.1.toNat (shr (winds f P) (winds f F) + 1)
  | none, none => arriveR F
theorem wind_val {S : Sto} {d m : Nat} {kvs : List (Key × MV)} (T : Thg S d kvs m) {l : List Int} (hl : ∀ b ∈ l, b ∈ k1 m) {p : Int × Int} (h : p ∈ winds (wnd kvs) l) : valM kvs (.inl p.2) = some (.tup [.str "wind", .int (1000 + p.2), .int (2000 + p.2)]) := by
  obtain ⟨j, hj⟩ := List.getElem?_of_mem h
  obtain ⟨pos, _, _, h3, h4, _⟩ := winds_cut hj
  obtain ⟨x, h5, ⟨w, r, rfl, h6⟩, _⟩ := T.at (hl _ (List.mem_of_getElem? h3))
  have hw : w = "wind" := by
    have := of_decide_eq_true h4
    rwa [kdw_eq h5] at this
  rw [h5, h6 hw, hw]
theorem go_ok {S : Sto} {d m : Nat} {kvs : List (Key × MV)} {P F P2 : List Int} {n : Nat} (T : Thg S d kvs m) (hP : ∀ b ∈ P, b ∈ k1 m) (hF : ∀ b ∈ F, b ∈ k1 m) (lP : P.length < 900) (lF : F.length < 900)
    (h0 : n = 0 → P2 = P) (h1 : ∀ k, n = k + 1 → ∃ p, (winds (wnd kvs) F)[k]? = some p ∧ P2 = F.take (p.1.toNat + 1)) :
    Ret (m_go_to [tuI P, tuI F, .int n, .ref d] S) fun x S' => x = goR (wnd kvs) P2 F ∧ Ext S S' := by
  unfold m_go_to
  walk_at "def"
  unfold b_go_to tuI
  walk_at "wq"
  refine v_mid (fun e S' => Ext S S' ∧ e = [some (tuI P), some (tuI F), some (.int n), some (.ref d), some (tuI P2), none, none, none, none]) ?_ ?_
  · refine v_if ?_
    walk_at "wq"
    refine br_dec (fun hn => ?_) (fun hn => ?_)
    · obtain ⟨k, rfl⟩ : ∃ k, n = k + 1 := ⟨n - 1, by omega⟩
      obtain ⟨p, hp, hp2⟩ := h1 k rfl
      walk_at "wq"
      refine (winds_of_ok T.g T.n (T.frs hF) (by omega)).imp ?_
      rintro _ S1 ⟨rfl, E1⟩
      walk_at "wq"
      refine w_idxT (i := ((k + 1 : Nat) : Int) - 1) (x := pr p) ?_ ?_
      · rw [show ((k + 1 : Nat) : Int) - 1 = (k : Nat) by omega]
        exact atI_nat (by rw [List.getElem?_map, hp]; rfl)
      unfold pr
      walk_at "wq"
      obtain ⟨pos, q1, q2, _⟩ := winds_cut hp
      rw [cutM_to (by omega)]
      refine ⟨E1, ?_⟩
      rw [hp2]
      unfold tuI
      rw [List.map_take, show (p.1 + 1).toNat = p.1.toNat + 1 by omega]
    · walk_at "wq"
      rw [h0 (by omega)]
      exact ⟨Ext.refl, rfl⟩
  rintro e S1 ⟨E1, rfl⟩
  have l2 : P2.length < 900 ∧ ∀ b ∈ P2, b ∈ k1 m := by
    cases n with
    | zero => rw [h0 rfl]; exact ⟨lP, hP⟩
    | succ k =>
      obtain ⟨p, hp, hp2⟩ := h1 k rfl
      rw [hp2]
      exact ⟨by rw [List.length_take]; omega, fun b hb => hF b (List.mem_of_mem_take hb)⟩
  obtain ⟨l2, m2⟩ := l2
  unfold tuI
  walk_at "wq"
  refine (deeds_ok ((E1.2 _ T.n).trans T.g) (Nat.lt_of_lt_of_le T.n E1.1) (T.frs m2) (T.frs hF) (by omega) (by omega)).imp ?_
  rintro _ S2 ⟨rfl, E2⟩
  have E := E1.trans E2
  have hd := (E.2 _ T.n).trans T.g
  have hn := Nat.lt_of_lt_of_le T.n E.1
  obtain ⟨ds, hfl, hdl, hsh⟩ := deeds_sh (winds (wnd kvs) P2) (winds (wnd kvs) F)
  walk_at "wq"
  refine v_if ?_
  walk_at "wq"
  refine w_eq0 hfl hsh (by decide) ?_
  walk_at "wq"
  have gl : ∀ (l : List (Int × Int)), l.getLast? = l.reverse.head? := fun l => by simp
  have hgo : goR (wnd kvs) P2 F = match ((winds (wnd kvs) P2).drop (shr (winds (wnd kvs) P2) (winds (wnd kvs) F))).reverse, (winds (wnd kvs) F).drop (shr (winds (wnd kvs) P2) (winds (wnd kvs) F)) with
      | p :: _, _ => leaveR p.2 P2 p.1.toNat F
      | [], p :: _ => enterR p.2 F p.1.toNat (shr (winds (wnd kvs) P2) (winds (wnd kvs) F) + 1)
      | [], [] => arriveR F := by
    unfold goR
    rw [gl]
    cases ((winds (wnd kvs) P2).drop (shr (winds (wnd kvs) P2) (winds (wnd kvs) F))).reverse with
    | cons a l => rfl
    | nil => cases (winds (wnd kvs) F).drop (shr (winds (wnd kvs) P2) (winds (wnd kvs) F)) <;> rfl
  rw [hgo]
  have hdd : deeds (winds (wnd kvs) P2) (winds (wnd kvs) F) = ((winds (wnd kvs) P2).drop (shr (winds (wnd kvs) P2) (winds (wnd kvs) F))).reverse.map lv ++ ((winds (wnd kvs) F).drop (shr (winds (wnd kvs) P2) (winds (wnd kvs) F))).map en := rfl
  have memA : ∀ p ∈ ((winds (wnd kvs) P2).drop (shr (winds (wnd kvs) P2) (winds (wnd kvs) F))).reverse, p ∈ winds (wnd kvs) P2 := fun p hp => List.mem_of_mem_drop (List.mem_reverse.1 hp)
  have memB : ∀ p ∈ (winds (wnd kvs) F).drop (shr (winds (wnd kvs) P2) (winds (wnd kvs) F)), p ∈ winds (wnd kvs) F := fun p hp => List.mem_of_mem_drop hp
  have hshd := fun S3 (E3 : Ext S2 S3) => shared_ok (p := P2) (g := F) ((E3.2 _ hn).trans hd) (Nat.lt_of_lt_of_le hn E3.1) (T.frs m2) (T.frs hF) (by omega) (by omega)
  rw [hdd] at hdl ⊢
  generalize ((winds (wnd kvs) P2).drop (shr (winds (wnd kvs) P2) (winds (wnd kvs) F))).reverse = LA at *
  generalize (winds (wnd kvs) F).drop (shr (winds (wnd kvs) P2) (winds (wnd kvs) F)) = LB at *
  refine br_dec (fun he => ?_) (fun he => ?_)
  · subst he
    simp only [List.length_nil, List.length_append, List.length_map] at hdl
    have a0 : LA = [] := List.eq_nil_of_length_eq_zero (by omega)
    have b0 : LB = [] := List.eq_nil_of_length_eq_zero (by omega)
    subst a0 b0
    walk_at "wq"
    exact ⟨rfl, E⟩
  · walk_at "wq"
    cases LA with
    | cons p l =>
      obtain ⟨j, hj⟩ := List.getElem?_of_mem (memA p List.mem_cons_self)
      obtain ⟨pos, q1, q2, _⟩ := winds_cut hj
      have hv := wind_val T m2 (memA p List.mem_cons_self)
      simp only [List.map_cons, List.cons_append]
      walk_at "wq"
      refine v_if ?_
      walk_at "wq"
      refine w_idxK hd rfl hv ?_
      walk_at "wq"
      rw [cutM_to (by omega)]
      walk_at "wq"
      refine ⟨?_, E⟩
      unfold leaveR roadTo tuI
      rw [List.map_take]; rfl
    | nil =>
      cases LB with
      | nil =>
        simp only [List.map_nil, List.append_nil, List.length_nil] at hdl
        exact absurd (List.eq_nil_of_length_eq_zero hdl) he
      | cons p l =>
        obtain ⟨j, hj⟩ := List.getElem?_of_mem (memB p List.mem_cons_self)
        obtain ⟨pos, q1, q2, _⟩ := winds_cut hj
        have hv := wind_val T hF (memB p List.mem_cons_self)
        simp only [List.map_cons, List.map_nil, List.nil_append]
        walk_at "wq"
        refine v_if ?_
        walk_at "wq"
        refine (hshd S2 Ext.refl).imp ?_
        rintro _ S3 ⟨rfl, E3⟩
        walk_at "wq"
        refine w_idxK ((E3.2 _ hn).trans hd) rfl hv ?_
        walk_at "wq"
        rw [cutM_to (by omega)]
        walk_at "wq"
        refine ⟨?_, E.trans E3⟩
        unfold enterR roadTo tuI
        rw [List.map_take]; rfl
end Law
end

section
namespace Law
open PySem L2 Mm
/-! the step of the pure proofs -/
local macro_rules
  | `(tactic| walk_at "wp side") => `(tactic| first | assumption | omega | decide)
local macro_rules
  | `(tactic| walk_at "wp1") => `(tactic| with_reducible first
    | refine Mm.v_seq ?_ | refine Mm.v_nx ?_ | refine Mm.v_asg ?_ | refine Mm.v_asgP ?_ | refine Mm.v_ret ?_ | refine Mm.v_retN ?_ | refine Mm.v_drop ?_ | refine Mm.v_set ?_ | refine Mm.v_aug ?_ | refine Mm.v_for ?_ | refine Mm.v_brk ?_ | refine Mm.v_ct ?_
    | refine Mm.w_con ?_ | refine Mm.w_op2 ?_ | refine Mm.w_op1 ?_ | refine Mm.w_opL ?_ | refine Mm.w_cons ?_ | refine Mm.w_nil ?_
    | refine Mm.w_add ?_ | refine Mm.w_sub ?_ | refine Mm.w_neg ?_ | refine Mm.w_lt ?_ | refine Mm.w_le ?_ | refine Mm.w_gt ?_ | refine Mm.w_ge ?_ | refine Mm.w_eqi ?_ | refine Mm.w_nei ?_ | refine Mm.w_eqs ?_ | refine Mm.w_nes ?_ | refine Mm.w_int ?_ | refine Mm.w_abs ?_ | refine Mm.w_isN ?_ | refine Mm.w_notN ?_ | refine Mm.w_min ?_ | refine Mm.w_max ?_
    | refine Mm.w_tru ?_ | refine Mm.w_blM ?_ | refine Mm.w_andB ?_ | refine Mm.w_orB ?_ | refine Mm.w_notB ?_ | refine Mm.w_ifV ?_ | refine Mm.w_andV ?_ | refine Mm.w_orV ?_ | refine Mm.w_notV ?_ | refine Mm.w_truB ?_ | refine Mm.w_truI ?_ | refine Mm.w_truN ?_ | refine Mm.w_truT ?_
    | refine Mm.w_dNewK ?_ | refine Mm.w_dNewT ?_ | refine Mm.w_iter ?_ | refine Mm.w_itmM ?_ | refine Mm.w_enm ?_ | refine Mm.w_enm2 ?_ | refine Mm.w_zip ?_ | refine Mm.w_rev ?_ | refine Mm.w_bm ?_ | refine Mm.w_lc ?_ | refine Mm.w_yes ?_ | refine Mm.br_t ?_ | refine Mm.br_f ?_ | refine Mm.w_slc ?_ | refine Mm.w_pno ?_ | refine Mm.w_pso ?_ | refine Mm.w_lenT ?_ | refine Mm.w_tupT ?_ | refine Mm.w_lstT ?_ | refine Mm.w_cutT ?_)
local macro_rules
  | `(tactic| walk_at "sto") => `(tactic| first
    | with_reducible assumption
    | with_reducible exact Mm.put_same
    | with_reducible exact Mm.add_same
    | (with_reducible refine (Mm.put_ne (by first | assumption | exact Ne.symm (by assumption) | ((try dsimp only [Mm.Sto.add, Mm.Sto.put]); omega))).trans ?_; walk_at "sto")
    | (with_reducible refine (Mm.add_ne (by first | assumption | exact Ne.symm (by assumption) | ((try dsimp only [Mm.Sto.add, Mm.Sto.put]); omega))).trans ?_; walk_at "sto")
    | fail)
local macro_rules
  | `(tactic| walk_at "wp2") => `(tactic| first
    | ((with_reducible apply Mm.w_var); · rfl)
    | ((with_reducible apply Mm.ex_mk); · with_reducible refine Mm.rng1 (by (try simp only [List.length_map]); omega))
    | ((with_reducible apply Mm.ex_mk); · with_reducible refine Mm.rng2 (by (try simp only [List.length_map]); omega))
    | ((with_reducible apply Mm.ex_mk); · rfl)
    | ((with_reducible refine Mm.br_true ?_ ?_); · rfl)
    | ((with_reducible refine Mm.br_false ?_ ?_); · rfl)
    | ((with_reducible refine Mm.w_mod ?_ ?_); · walk_at "wp side")
    | ((with_reducible refine Mm.w_div ?_ ?_ ?_); (· walk_at "wp side"); (· (first | decide | assumption)))
    | ((with_reducible refine Mm.w_mul ?_ ?_); · exact .inl (.inr (by decide)))
    | ((with_reducible refine Mm.w_mul ?_ ?_); · exact .inl (.inl (by decide)))
    | ((with_reducible refine Mm.w_mul ?_ ?_); · exact .inl (.inl (by omega)))
    | ((with_reducible refine Mm.w_mul ?_ ?_); · exact .inl (.inr (by omega)))
    | ((with_reducible refine Mm.w_pow ?_ ?_); · decide)
    | ((with_reducible refine Mm.w_lstV ?_ ?_); · (simp only [List.length_cons, List.length_nil]; decide))
    | ((with_reducible refine Mm.w_tupV ?_ ?_); · (simp only [List.length_cons, List.length_nil]; decide))
    | ((with_reducible apply Mm.w_idxL); (· walk_at "sto"); (· first | exact Mm.atI0 | exact Mm.atI1 | exact Mm.atI2 | exact Mm.atIl | rfl))
    | ((with_reducible apply Mm.w_idxC); (· walk_at "sto"); (· rfl))
    | ((with_reducible apply Mm.w_idxT); · first | exact Mm.atI0 | exact Mm.atI1 | exact Mm.atI2 | rfl)
    | ((with_reducible apply Mm.w_lenL); · walk_at "sto")
    | ((with_reducible apply Mm.w_lenC); · walk_at "sto")
    | ((with_reducible apply Mm.w_lenK); · walk_at "sto")
    | ((with_reducible apply Mm.w_tupL); · walk_at "sto")
    | ((with_reducible apply Mm.w_lstL); · walk_at "sto")
    | ((with_reducible apply Mm.w_cutL); · walk_at "sto")
    | ((with_reducible apply Mm.w_revL); · walk_at "sto")
    | ((with_reducible apply Mm.w_truL); · walk_at "sto")
    | ((with_reducible apply Mm.ex_mk); · exact Mm.it_lst (by walk_at "sto"))
    | ((with_reducible apply Mm.ex_mk); · exact Mm.it_con (by walk_at "sto"))
    | ((with_reducible apply Mm.ex_mk); · exact Mm.it_en2L (by walk_at "sto"))
    | ((with_reducible apply Mm.ex_mk); · exact Mm.it_en2C (by walk_at "sto"))
    | ((with_reducible apply Mm.ex_mk); · exact Mm.set_lst (by walk_at "sto") rfl)
    | ((with_reducible refine And.intro ?_ ?_); · exact Mm.ty_lst (by walk_at "sto"))
    | fail)
local macro_rules
  | `(tactic| walk_at "wq") => `(tactic| repeat' (first | (walk_at "wp1"; try dsimp only [List.set_cons_zero, List.set_cons_succ, Bool.not_true, Bool.not_false]) | (walk_at "wp2"; try dsimp only [Bool.not_true, Bool.not_false]) | fail))
local macro_rules
  | `(tactic| walk_at "wp") => `(tactic| repeat' (first | (with_reducible refine Mm.v_if ?_) | (walk_at "wp1"; try dsimp only [List.set_cons_zero, List.set_cons_succ, Bool.not_true, Bool.not_false]) | (walk_at "wp2"; try dsimp only [Bool.not_true, Bool.not_false]) | fail))
local macro_rules
  | `(tactic| walk_at "def") => `(tactic| (refine Mm.w_def rfl ?_; simp only [List.map_cons, List.map_nil, List.cons_append, List.nil_append, List.replicate, Nat.reduceSub, List.replicate_succ, List.replicate_zero]))
def births (W : List (Int × Int)) : List Int := W.map (·.2)
theorem shr_take {A B : List (Int × Int)} {n : Nat} (h : shr A B ≤ n) : shr (A.take n) B = shr A B := by
  have h1 := shr_alike A B
  refine shr_eq _ _ _ (fun i hi => ?_) fun a b ha hb => ?_
  · obtain ⟨a, b, g1, g2, g3⟩ := h1 i hi
    exact ⟨a, b, by rw [List.getElem?_take]; rw [if_pos (by omega)]; exact g1, g2, g3⟩
  · intro e
    rw [List.getElem?_take] at ha
    split at ha
    · have : Alike (shr A B + 1) A B := fun i hi => by
        by_cases hk : i < shr A B
        · exact h1 i hk
        · have : i = shr A B := by omega
          subst this; exact ⟨a, b, ha, hb, e⟩
      have key : ∀ (k : Nat) (A B : List (Int × Int)), Alike k A B → k ≤ shr A B := by
        intro k
        induction k with
        | zero => intro _ _ _; exact Nat.zero_le _
        | succ k ih =>
          intro A B h
          obtain ⟨a, b, g1, g2, g3⟩ := h 0 (Nat.succ_pos _)
          cases A with
          | nil => cases g1
          | cons a' A =>
            cases B with
            | nil => cases g2
            | cons b' B =>
              cases g1; cases g2
              simp only [shr, if_pos g3]
              exact Nat.succ_le_succ (ih A B fun i hi => h (i + 1) (by omega))
      have := key _ A B this
      omega
    · cases ha
theorem shr_self (B : List (Int × Int)) : shr B B = B.length := by
  induction B with
  | nil => rfl
  | cons b B ih => simp [shr, ih]
theorem shr_pre {B : List (Int × Int)} {n : Nat} (h : n ≤ B.length) : shr (B.take n) B = n := by
  refine shr_eq _ _ _ (fun i hi => ?_) fun a b ha hb => ?_
  · have : B[i]? = some B[i] := List.getElem?_eq_getElem (by omega)
    exact ⟨_, _, by rw [List.getElem?_take, if_pos hi]; exact this, this, rfl⟩
  · rw [List.getElem?_take, if_neg (by omega)] at ha; cases ha
theorem goR_leave {f : Int → Bool} {Q F : List Int} {p : Int × Int} (h : shr (winds f Q) (winds f F) < (winds f Q).length) (hp : (winds f Q)[(winds f Q).length - 1]? = some p) : goR f Q F = leaveR p.2 Q p.1.toNat F := by
  unfold goR
  have : ((winds f Q).drop (shr (winds f Q) (winds f F))).getLast? = some p := by
    rw [List.getLast?_eq_getElem?, List.getElem?_drop, List.length_drop, ← hp]
    congr 1; omega
  rw [this]
theorem goR_enter {f : Int → Bool} {Q F : List Int} {p : Int × Int} {k : Nat} (h : shr (winds f Q) (winds f F) = k) (hk : (winds f Q).length = k) (hp : (winds f F)[k]? = some p) : goR f Q F = enterR p.2 F p.1.toNat (k + 1) := by
  unfold goR
  rw [h, List.drop_of_length_le (by omega)]
  have : ((winds f F).drop k)[0]? = some p := by rw [List.getElem?_drop]; simpa using hp
  rw [this]; rfl
theorem goR_arrive {f : Int → Bool} {Q F : List Int} {k : Nat} (h : shr (winds f Q) (winds f F) = k) (hk : (winds f Q).length = k) (hp : (winds f F).length ≤ k) : goR f Q F = arriveR F := by
  unfold goR
  rw [h, List.drop_of_length_le (by omega), List.drop_of_length_le hp]; rfl
theorem sm_tuI {m : Nat} {l : List Int} (hm : m < 60) (h : ∀ b ∈ l, b ∈ k1 m) (hl : l.length ≤ 900) : Fl (tuI l) (.tuple (l.map .int)) ∧ Smd 1 18903 (.tuple (l.map .int)) := by
  refine ⟨fl_tup (fll_ints l), sm_tup (D := 0) (c := 19) (n := 900) (fun d hd => ?_) (by rw [List.length_map]; exact hl)⟩
  obtain ⟨b, hb, rfl⟩ := List.mem_map.1 hd
  have := k1_mem (h b hb)
  exact sm_int (by omega)
theorem sm_road {m : Nat} {l : List Int} {n : Nat} (hm : m < 60) (h : ∀ b ∈ l, b ∈ k1 m) (hl : l.length ≤ 900) (hn : n ≤ 10000) : ∃ d, Fl (roadTo l n) d ∧ Smd 2 57000 d := by
  obtain ⟨h1, h2⟩ := sm_tuI hm h hl
  refine ⟨_, fl_tup (fll_cons fl_str (fll_cons h1 (fll_cons fl_int fll_nil))), (sm_tup (D := 1) (c := 18903) (n := 3) ?_ (Nat.le_refl _)).mono⟩
  intro e he
  simp only [List.mem_cons, List.not_mem_nil, or_false] at he
  rcases he with rfl | rfl | rfl
  · exact (sm_str (m := 2) (by decide +kernel) (by decide +kernel)).mono
  · exact h2
  · exact (sm_int (by omega)).mono
theorem rep_four {w : Str} {x y z : MV} {dx dy dz : PyData} (hw : PyData.strOk w = true) (hl : w.length ≤ 10) (hx : Fl x dx) (hy : Fl y dy) (hz : Fl z dz) (sx : Smd 2 57000 dx) (sy : Smd 2 57000 dy) (sz : Smd 2 57000 dz) : ∃ D, (∀ S : Sto, rD S (.tup [.str w, x, y, z]) = some D) ∧ shOk D := by
  refine ⟨_, fun S => toD_fl (fl_tup (fll_cons fl_str (fll_cons hx (fll_cons hy (fll_cons hz fll_nil))))), (sm_tup (D := 2) (c := 57000) (n := 4) ?_ (Nat.le_refl _)).ok (by decide) (by decide)⟩
  intro e he
  simp only [List.mem_cons, List.not_mem_nil, or_false] at he
  rcases he with rfl | rfl | rfl | rfl
  · exact (sm_str (m := 10) hw hl).mono
  · exact sx
  · exact sy
  · exact sz
theorem sm_non : Smd 0 4 .none := ⟨rfl, Nat.le_refl _, by decide +kernel⟩
theorem rep_leave {m : Nat} {b : Int} {P F : List Int} {pos : Nat} (hm : m < 60) (hb : b ∈ k1 m) (hP : ∀ b ∈ P, b ∈ k1 m) (hF : ∀ b ∈ F, b ∈ k1 m) (lP : P.length ≤ 900) (lF : F.length ≤ 900) : ∃ D, (∀ S : Sto, rD S (leaveR b P pos F) = some D) ∧ shOk D := by
  have := k1_mem hb
  obtain ⟨h1, h2⟩ := sm_tuI (l := P.take pos) hm (fun b hb => hP b (List.mem_of_mem_take hb)) (by rw [List.length_take]; omega)
  obtain ⟨d, h3, h4⟩ := sm_road (n := 0) hm hF lF (by decide)
  exact rep_four (by decide +kernel) (by decide +kernel) fl_int h1 h3 (sm_int (by omega)).mono h2.mono h4
theorem rep_enter {m : Nat} {b : Int} {F : List Int} {pos n : Nat} (hm : m < 60) (hb : b ∈ k1 m) (hF : ∀ b ∈ F, b ∈ k1 m) (lF : F.length ≤ 900) (hn : n ≤ 10000) : ∃ D, (∀ S : Sto, rD S (enterR b F pos n) = some D) ∧ shOk D := by
  have := k1_mem hb
  obtain ⟨h1, h2⟩ := sm_tuI (l := F.take pos) hm (fun b hb => hF b (List.mem_of_mem_take hb)) (by rw [List.length_take]; omega)
  obtain ⟨d, h3, h4⟩ := sm_road (n := n) hm hF lF hn
  exact rep_four (by decide +kernel) (by decide +kernel) fl_int h1 h3 (sm_int (by omega)).mono h2.mono h4
theorem rep_arrive {m : Nat} {F : List Int} (hm : m < 60) (hF : ∀ b ∈ F, b ∈ k1 m) (lF : F.length ≤ 900) : ∃ D, (∀ S : Sto, rD S (arriveR F) = some D) ∧ shOk D := by
  obtain ⟨h1, h2⟩ := sm_tuI (l := F) hm hF lF
  exact rep_four (by decide +kernel) (by decide +kernel) fl_non h1 fl_non sm_non.mono h2.mono sm_non.mono
/-- the births of the winds, as a list of its own -/
theorem deeds_get {A B : List (Int × Int)} {i : Nat} {x : MV} (h : (deeds A B)[i]? = some x) :
    (i < A.length - shr A B ∧ ∃ p, A[A.length - i - 1]? = some p ∧ x = lv p) ∨ (A.length - shr A B ≤ i ∧ ∃ p, B[shr A B + (i - (A.length - shr A B))]? = some p ∧ x = en p) := by
  unfold deeds at h
  have hl : ((A.drop (shr A B)).reverse.map lv).length = A.length - shr A B := by simp
  have hle := (shr_le A B).1
  rw [List.getElem?_append] at h
  split at h
  · rename_i hi
    rw [hl] at hi
    refine .inl ⟨hi, ?_⟩
    obtain ⟨p, h1, h2⟩ := get_map2 h
    refine ⟨p, ?_, h2⟩
    rw [List.getElem?_reverse (by rw [List.length_drop]; omega), List.getElem?_drop, List.length_drop] at h1
    rw [← h1]; congr 1; omega
  · rename_i hi
    rw [hl] at hi h
    refine .inr ⟨by omega, ?_⟩
    obtain ⟨p, h1, h2⟩ := get_map2 h
    rw [List.getElem?_drop] at h1
    exact ⟨p, h1, h2⟩
end Law
end

section
namespace Law
open PySem L2 Mm
/-! the step of the pure proofs -/
local macro_rules
  | `(tactic| walk_at "wp side") => `(tactic| first | assumption | omega | decide)
local macro_rules
  | `(tactic| walk_at "wp1") => `(tactic| with_reducible first
    | refine Mm.v_seq ?_ | refine Mm.v_nx ?_ | refine Mm.v_asg ?_ | refine Mm.v_asgP ?_ | refine Mm.v_ret ?_ | refine Mm.v_retN ?_ | refine Mm.v_drop ?_ | refine Mm.v_set ?_ | refine Mm.v_aug ?_ | refine Mm.v_for ?_ | refine Mm.v_brk ?_ | refine Mm.v_ct ?_
    | refine Mm.w_con ?_ | refine Mm.w_op2 ?_ | refine Mm.w_op1 ?_ | refine Mm.w_opL ?_ | refine Mm.w_cons ?_ | refine Mm.w_nil ?_
    | refine Mm.w_add ?_ | refine Mm.w_sub ?_ | refine Mm.w_neg ?_ | refine Mm.w_lt ?_ | refine Mm.w_le ?_ | refine Mm.w_gt ?_ | refine Mm.w_ge ?_ | refine Mm.w_eqi ?_ | refine Mm.w_nei ?_ | refine Mm.w_eqs ?_ | refine Mm.w_nes ?_ | refine Mm.w_int ?_ | refine Mm.w_abs ?_ | refine Mm.w_isN ?_ | refine Mm.w_notN ?_ | refine Mm.w_min ?_ | refine Mm.w_max ?_
    | refine Mm.w_tru ?_ | refine Mm.w_blM ?_ | refine Mm.w_andB ?_ | refine Mm.w_orB ?_ | refine Mm.w_notB ?_ | refine Mm.w_ifV ?_ | refine Mm.w_andV ?_ | refine Mm.w_orV ?_ | refine Mm.w_notV ?_ | refine Mm.w_truB ?_ | refine Mm.w_truI ?_ | refine Mm.w_truN ?_ | refine Mm.w_truT ?_
    | refine Mm.w_dNewK ?_ | refine Mm.w_dNewT ?_ | refine Mm.w_iter ?_ | refine Mm.w_itmM ?_ | refine Mm.w_enm ?_ | refine Mm.w_enm2 ?_ | refine Mm.w_zip ?_ | refine Mm.w_rev ?_ | refine Mm.w_bm ?_ | refine Mm.w_lc ?_ | refine Mm.w_yes ?_ | refine Mm.br_t ?_ | refine Mm.br_f ?_ | refine Mm.w_slc ?_ | refine Mm.w_pno ?_ | refine Mm.w_pso ?_ | refine Mm.w_lenT ?_ | refine Mm.w_tupT ?_ | refine Mm.w_lstT ?_ | refine Mm.w_cutT ?_)
local macro_rules
  | `(tactic| walk_at "sto") => `(tactic| first
    | with_reducible assumption
    | with_reducible exact Mm.put_same
    | with_reducible exact Mm.add_same
    | (with_reducible refine (Mm.put_ne (by first | assumption | exact Ne.symm (by assumption) | ((try dsimp only [Mm.Sto.add, Mm.Sto.put]); omega))).trans ?_; walk_at "sto")
    | (with_reducible refine (Mm.add_ne (by first | assumption | exact Ne.symm (by assumption) | ((try dsimp only [Mm.Sto.add, Mm.Sto.put]); omega))).trans ?_; walk_at "sto")
    | fail)
local macro_rules
  | `(tactic| walk_at "wp2") => `(tactic| first
    | ((with_reducible apply Mm.w_var); · rfl)
    | ((with_reducible apply Mm.ex_mk); · with_reducible refine Mm.rng1 (by (try simp only [List.length_map]); omega))
    | ((with_reducible apply Mm.ex_mk); · with_reducible refine Mm.rng2 (by (try simp only [List.length_map]); omega))
    | ((with_reducible apply Mm.ex_mk); · rfl)
    | ((with_reducible refine Mm.br_true ?_ ?_); · rfl)
    | ((with_reducible refine Mm.br_false ?_ ?_); · rfl)
    | ((with_reducible refine Mm.w_mod ?_ ?_); · walk_at "wp side")
    | ((with_reducible refine Mm.w_div ?_ ?_ ?_); (· walk_at "wp side"); (· (first | decide | assumption)))
    | ((with_reducible refine Mm.w_mul ?_ ?_); · exact .inl (.inr (by decide)))
    | ((with_reducible refine Mm.w_mul ?_ ?_); · exact .inl (.inl (by decide)))
    | ((with_reducible refine Mm.w_mul ?_ ?_); · exact .inl (.inl (by omega)))
    | ((with_reducible refine Mm.w_mul ?_ ?_); · exact .inl (.inr (by omega)))
    | ((with_reducible refine Mm.w_pow ?_ ?_); · decide)
    | ((with_reducible refine Mm.w_lstV ?_ ?_); · (simp only [List.length_cons, List.length_nil]; decide))
    | ((with_reducible refine Mm.w_tupV ?_ ?_); · (simp only [List.length_cons, List.length_nil]; decide))
    | ((with_reducible apply Mm.w_idxL); (· walk_at "sto"); (· first | exact Mm.atI0 | exact Mm.atI1 | exact Mm.atI2 | exact Mm.atIl | rfl))
    | ((with_reducible apply Mm.w_idxC); (· walk_at "sto"); (· rfl))
    | ((with_reducible apply Mm.w_idxT); · first | exact Mm.atI0 | exact Mm.atI1 | exact Mm.atI2 | rfl)
    | ((with_reducible apply Mm.w_lenL); · walk_at "sto")
    | ((with_reducible apply Mm.w_lenC); · walk_at "sto")
    | ((with_reducible apply Mm.w_lenK); · walk_at "sto")
    | ((with_reducible apply Mm.w_tupL); · walk_at "sto")
    | ((with_reducible apply Mm.w_lstL); · walk_at "sto")
    | ((with_reducible apply Mm.w_cutL); · walk_at "sto")
    | ((with_reducible apply Mm.w_revL); · walk_at "sto")
    | ((with_reducible apply Mm.w_truL); · walk_at "sto")
    | ((with_reducible apply Mm.ex_mk); · exact Mm.it_lst (by walk_at "sto"))
    | ((with_reducible apply Mm.ex_mk); · exact Mm.it_con (by walk_at "sto"))
    | ((with_reducible apply Mm.ex_mk); · exact Mm.it_en2L (by walk_at "sto"))
    | ((with_reducible apply Mm.ex_mk); · exact Mm.it_en2C (by walk_at "sto"))
    | ((with_reducible apply Mm.ex_mk); · exact Mm.set_lst (by walk_at "sto") rfl)
    | ((with_reducible refine And.intro ?_ ?_); · exact Mm.ty_lst (by walk_at "sto"))
    | fail)
local macro_rules
  | `(tactic| walk_at "wq") => `(tactic| repeat' (first | (walk_at "wp1"; try dsimp only [List.set_cons_zero, List.set_cons_succ, Bool.not_true, Bool.not_false]) | (walk_at "wp2"; try dsimp only [Bool.not_true, Bool.not_false]) | fail))
local macro_rules
  | `(tactic| walk_at "wp") => `(tactic| repeat' (first | (with_reducible refine Mm.v_if ?_) | (walk_at "wp1"; try dsimp only [List.set_cons_zero, List.set_cons_succ, Bool.not_true, Bool.not_false]) | (walk_at "wp2"; try dsimp only [Bool.not_true, Bool.not_false]) | fail))
local macro_rules
  | `(tactic| walk_at "def") => `(tactic| (refine Mm.w_def rfl ?_; simp only [List.map_cons, List.map_nil, List.cons_append, List.nil_append, List.replicate, Nat.reduceSub, List.replicate_succ, List.replicate_zero]))
/-! ### k11: laying on and taking off -/
def onR (b : Int) (below fr : List Int) : MV := .tup [.str "enter", .int (1000 + b), tuI below, .tup [.str "on", tuI fr]]
/-- the steps of laying fr on below -/
def onS (f : Int → Bool) : List Int → List Int → List MV
  | below, [] => [arriveR below]
  | below, b :: r => if f b = true then onR b below (b :: r) :: onS f (below ++ [b]) r else onS f (below ++ [b]) r
def onH (f : Int → Bool) : List Int → List Int → MV
  | below, [] => arriveR below
  | below, b :: r => if f b = true then onR b below (b :: r) else onH f (below ++ [b]) r
theorem onS_head (f : Int → Bool) : ∀ (fr below : List Int), (onS f below fr)[0]? = some (onH f below fr)
  | [], below => rfl
  | b :: r, below => by
    simp only [onS, onH]
    split
    · rfl
    · exact onS_head f r _
theorem onH_skip {f : Int → Bool} : ∀ (i : Nat) (fr below : List Int), (∀ b ∈ fr.take i, f b = false) → onH f below fr = onH f (below ++ fr.take i) (fr.drop i)
  | 0, fr, below, _ => by simp
  | i + 1, [], below, _ => by simp
  | i + 1, b :: r, below, h => by
    have hb : f b = false := h b (by simp)
    simp only [onH, hb, Bool.false_eq_true, if_false]
    rw [onH_skip i r (below ++ [b]) fun z hz => h z (by simp [hz])]
    simp
theorem lay_ok {S : Sto} {d m : Nat} {kvs : List (Key × MV)} {P F : List Int} (T : Thg S d kvs m) (hF : ∀ b ∈ F, b ∈ k1 m) (lP : P.length < 900) (lF : F.length < 900) :
    Ret (m_lay_on [tuI P, tuI F, .ref d] S) fun x S' => x = onH (wnd kvs) P F ∧ S' = S := by
  have sz : (2000 : Nat) ≤ sizeLine := by decide
  unfold m_lay_on
  walk_at "def"
  unfold b_lay_on tuI
  walk_at "wq"
  refine v_loop0 (fun i e S' => S' = S ∧ (∀ b ∈ F.take i, wnd kvs b = false) ∧ ∃ x3 x4, e = [some (tuI P), some (tuI F), some (.ref d), x3, x4]) ⟨rfl, fun b h => by simp at h, _, _, rfl⟩ ?_ ?_
  · rintro i x e S' hx ⟨rfl, hn, x3, x4, rfl⟩
    obtain ⟨y, hy, rfl⟩ := prI_get hx
    obtain ⟨b, hb, rfl, hm⟩ := get_int hy
    obtain ⟨v, hv, ⟨w, r, rfl, hw⟩, _⟩ := T.at (hF b hm)
    have hi := (List.getElem?_eq_some_iff.1 hb).1
    have e1 : wnd kvs b = decide (w = "wind") := by rw [wnd, kdw_eq hv]
    have hs := onH_skip (f := wnd kvs) i F P hn
    have hd : F.drop i = b :: F.drop (i + 1) := by
      rw [List.drop_eq_getElem_cons hi]
      have := (List.getElem?_eq_some_iff.1 hb).2
      rw [this]
    refine ⟨ck_n, _, rfl, ?_⟩
    refine v_if ?_
    walk_at "wq"
    refine w_idxK T.g rfl hv ?_
    walk_at "wq"
    refine br_dec (fun hq => ?_) (fun hq => ?_)
    · have hr := hw hq
      subst hr hq
      walk_at "wq"
      refine w_idxK T.g rfl hv ?_
      unfold tuI
      walk_at "wq"
      rw [cutM_to (by omega), Int.toNat_natCast]
      refine w_addt (by simp only [List.length_map, List.length_take]; omega) ?_
      walk_at "wq"
      rw [cutM_from (by omega), Int.toNat_natCast]
      walk_at "wq"
      refine ⟨?_, rfl⟩
      rw [hs, hd]
      simp only [onH, e1, decide_true, if_true, onR, tuI]
      rw [← hd, List.map_append, List.map_take, List.map_drop]
    · walk_at "wq"
      refine ⟨rfl, fun z hz => ?_, _, _, rfl⟩
      rw [take_snoc hb] at hz
      rcases List.mem_append.1 hz with hz | hz
      · exact hn z hz
      · rw [List.mem_singleton.1 hz, e1]; simpa using hq
  · rintro e S' ⟨rfl, hn, x3, x4, rfl⟩
    refine ⟨ck_n, ?_⟩
    rw [prI_len, List.length_map] at hn
    unfold tuI
    walk_at "wq"
    refine w_addt (by simp only [List.length_map]; omega) ?_
    walk_at "wq"
    refine ⟨?_, rfl⟩
    rw [onH_skip (f := wnd kvs) F.length F P hn, List.take_length, List.drop_length]
    simp only [onH, arriveR, tuI, List.map_append]
end Law
end

section
namespace Law
open PySem L2 Mm
/-! the step of the pure proofs -/
local macro_rules
  | `(tactic| walk_at "wp side") => `(tactic| first | assumption | omega | decide)
local macro_rules
  | `(tactic| walk_at "wp1") => `(tactic| with_reducible first
    | refine Mm.v_seq ?_ | refine Mm.v_nx ?_ | refine Mm.v_asg ?_ | refine Mm.v_asgP ?_ | refine Mm.v_ret ?_ | refine Mm.v_retN ?_ | refine Mm.v_drop ?_ | refine Mm.v_set ?_ | refine Mm.v_aug ?_ | refine Mm.v_for ?_ | refine Mm.v_brk ?_ | refine Mm.v_ct ?_
    | refine Mm.w_con ?_ | refine Mm.w_op2 ?_ | refine Mm.w_op1 ?_ | refine Mm.w_opL ?_ | refine Mm.w_cons ?_ | refine Mm.w_nil ?_
    | refine Mm.w_add ?_ | refine Mm.w_sub ?_ | refine Mm.w_neg ?_ | refine Mm.w_lt ?_ | refine Mm.w_le ?_ | refine Mm.w_gt ?_ | refine Mm.w_ge ?_ | refine Mm.w_eqi ?_ | refine Mm.w_nei ?_ | refine Mm.w_eqs ?_ | refine Mm.w_nes ?_ | refine Mm.w_int ?_ | refine Mm.w_abs ?_ | refine Mm.w_isN ?_ | refine Mm.w_notN ?_ | refine Mm.w_min ?_ | refine Mm.w_max ?_
    | refine Mm.w_tru ?_ | refine Mm.w_blM ?_ | refine Mm.w_andB ?_ | refine Mm.w_orB ?_ | refine Mm.w_notB ?_ | refine Mm.w_ifV ?_ | refine Mm.w_andV ?_ | refine Mm.w_orV ?_ | refine Mm.w_notV ?_ | refine Mm.w_truB ?_ | refine Mm.w_truI ?_ | refine Mm.w_truN ?_ | refine Mm.w_truT ?_
    | refine Mm.w_dNewK ?_ | refine Mm.w_dNewT ?_ | refine Mm.w_iter ?_ | refine Mm.w_itmM ?_ | refine Mm.w_enm ?_ | refine Mm.w_enm2 ?_ | refine Mm.w_zip ?_ | refine Mm.w_rev ?_ | refine Mm.w_bm ?_ | refine Mm.w_lc ?_ | refine Mm.w_yes ?_ | refine Mm.br_t ?_ | refine Mm.br_f ?_ | refine Mm.w_slc ?_ | refine Mm.w_pno ?_ | refine Mm.w_pso ?_ | refine Mm.w_lenT ?_ | refine Mm.w_tupT ?_ | refine Mm.w_lstT ?_ | refine Mm.w_cutT ?_)
local macro_rules
  | `(tactic| walk_at "sto") => `(tactic| first
    | with_reducible assumption
    | with_reducible exact Mm.put_same
    | with_reducible exact Mm.add_same
    | (with_reducible refine (Mm.put_ne (by first | assumption | exact Ne.symm (by assumption) | ((try dsimp only [Mm.Sto.add, Mm.Sto.put]); omega))).trans ?_; walk_at "sto")
    | (with_reducible refine (Mm.add_ne (by first | assumption | exact Ne.symm (by assumption) | ((try dsimp only [Mm.Sto.add, Mm.Sto.put]); omega))).trans ?_; walk_at "sto")
    | fail)
local macro_rules
  | `(tactic| walk_at "wp2") => `(tactic| first
    | ((with_reducible apply Mm.w_var); · rfl)
    | ((with_reducible apply Mm.ex_mk); · with_reducible refine Mm.rng1 (by (try simp only [List.length_map]); omega))
    | ((with_reducible apply Mm.ex_mk); · with_reducible refine Mm.rng2 (by (try simp only [List.length_map]); omega))
    | ((with_reducible apply Mm.ex_mk); · rfl)
    | ((with_reducible refine Mm.br_true ?_ ?_); · rfl)
    | ((with_reducible refine Mm.br_false ?_ ?_); · rfl)
    | ((with_reducible refine Mm.w_mod ?_ ?_); · walk_at "wp side")
    | ((with_reducible refine Mm.w_div ?_ ?_ ?_); (· walk_at "wp side"); (· (first | decide | assumption)))
    | ((with_reducible refine Mm.w_mul ?_ ?_); · exact .inl (.inr (by decide)))
    | ((with_reducible refine Mm.w_mul ?_ ?_); · exact .inl (.inl (by decide)))
    | ((with_reducible refine Mm.w_mul ?_ ?_); · exact .inl (.inl (by omega)))
    | ((with_reducible refine Mm.w_mul ?_ ?_); · exact .inl (.inr (by omega)))
    | ((with_reducible refine Mm.w_pow ?_ ?_); · decide)
    | ((with_reducible refine Mm.w_lstV ?_ ?_); · (simp only [List.length_cons, List.length_nil]; decide))
    | ((with_reducible refine Mm.w_tupV ?_ ?_); · (simp only [List.length_cons, List.length_nil]; decide))
    | ((with_reducible apply Mm.w_idxL); (· walk_at "sto"); (· first | exact Mm.atI0 | exact Mm.atI1 | exact Mm.atI2 | exact Mm.atIl | rfl))
    | ((with_reducible apply Mm.w_idxC); (· walk_at "sto"); (· rfl))
    | ((with_reducible apply Mm.w_idxT); · first | exact Mm.atI0 | exact Mm.atI1 | exact Mm.atI2 | rfl)
    | ((with_reducible apply Mm.w_lenL); · walk_at "sto")
    | ((with_reducible apply Mm.w_lenC); · walk_at "sto")
    | ((with_reducible apply Mm.w_lenK); · walk_at "sto")
    | ((with_reducible apply Mm.w_tupL); · walk_at "sto")
    | ((with_reducible apply Mm.w_lstL); · walk_at "sto")
    | ((with_reducible apply Mm.w_cutL); · walk_at "sto")
    | ((with_reducible apply Mm.w_revL); · walk_at "sto")
    | ((with_reducible apply Mm.w_truL); · walk_at "sto")
    | ((with_reducible apply Mm.ex_mk); · exact Mm.it_lst (by walk_at "sto"))
    | ((with_reducible apply Mm.ex_mk); · exact Mm.it_con (by walk_at "sto"))
    | ((with_reducible apply Mm.ex_mk); · exact Mm.it_en2L (by walk_at "sto"))
    | ((with_reducible apply Mm.ex_mk); · exact Mm.it_en2C (by walk_at "sto"))
    | ((with_reducible apply Mm.ex_mk); · exact Mm.set_lst (by walk_at "sto") rfl)
    | ((with_reducible refine And.intro ?_ ?_); · exact Mm.ty_lst (by walk_at "sto"))
    | fail)
local macro_rules
  | `(tactic| walk_at "wq") => `(tactic| repeat' (first | (walk_at "wp1"; try dsimp only [List.set_cons_zero, List.set_cons_succ, Bool.not_true, Bool.not_false]) | (walk_at "wp2"; try dsimp only [Bool.not_true, Bool.not_false]) | fail))
local macro_rules
  | `(tactic| walk_at "wp") => `(tactic| repeat' (first | (with_reducible refine Mm.v_if ?_) | (walk_at "wp1"; try dsimp only [List.set_cons_zero, List.set_cons_succ, Bool.not_true, Bool.not_false]) | (walk_at "wp2"; try dsimp only [Bool.not_true, Bool.not_false]) | fail))
local macro_rules
  | `(tactic| walk_at "def") => `(tactic| (refine Mm.w_def rfl ?_; simp only [List.map_cons, List.map_nil, List.cons_append, List.nil_append, List.replicate, Nat.reduceSub, List.replicate_succ, List.replicate_zero]))
def roadOn (fr : List Int) : MV := .tup [.str "on", tuI fr]
theorem next_on_ok {S : Sto} {d m : Nat} {kvs : List (Key × MV)} {P F : List Int} {b : Int} (T : Thg S d kvs m) (hF : ∀ b ∈ F, b ∈ k1 m) (lP : P.length < 800) (lF : F.length < 800) :
    Ret (m_next_step [tuI P, roadOn (b :: F), .ref d] S) fun x S' => x = onH (wnd kvs) (P ++ [b]) F ∧ S' = S := by
  have sz : (2000 : Nat) ≤ sizeLine := by decide
  unfold m_next_step
  walk_at "def"
  unfold b_next_step roadOn tuI
  walk_at "wq"
  refine v_if ?_
  walk_at "wq"
  refine v_if ?_
  walk_at "wq"
  rw [cutM_to (by decide)]
  refine w_addt (by simp only [List.length_map, List.length_take]; omega) ?_
  walk_at "wq"
  rw [cutM_from (by decide)]
  have e1 : List.map MV.int P ++ (List.map MV.int (b :: F)).take (1 : Int).toNat = (P ++ [b]).map MV.int := by simp
  have e2 : (List.map MV.int (b :: F)).drop (1 : Int).toNat = F.map MV.int := by simp
  rw [e1, e2]
  walk_at "wq"
  refine (lay_ok (P := P ++ [b]) T hF (by simp; omega) (by omega)).imp ?_
  rintro x S' ⟨rfl, rfl⟩
  exact ⟨rfl, rfl⟩
theorem next_out_ok {S : Sto} {d : Nat} {P : List Int} :
    Ret (m_next_step [tuI P, .tup [.str "out"], .ref d] S) fun x S' => x = arriveR P ∧ S' = S := by
  unfold m_next_step
  walk_at "def"
  unfold b_next_step
  walk_at "wq"
  refine v_if ?_
  walk_at "wq"
  refine v_if ?_
  walk_at "wq"
  refine v_if ?_
  walk_at "wq"
  exact ⟨rfl, rfl⟩
/-- the last wind among the places cut .. n-1 -/
def LastW (f : Int → Bool) (B : List Int) (cut : Nat) (p : Int) : Prop :=
  (p = -1 ∧ ∀ q b, cut ≤ q → B[q]? = some b → f b = false) ∨ ∃ pos b, p = (pos : Nat) ∧ cut ≤ pos ∧ B[pos]? = some b ∧ f b = true ∧ ∀ q c, pos < q → B[q]? = some c → f c = false
theorem rng3_cut {n c : Nat} (h : n < 30000) (hc : c ≤ n) : rngO3 [.int ((n : Int) - 1), .int ((c : Int) - 1), .int (-1)] = some ⟨(List.range (n - c)).map fun k => .int ((n : Int) - 1 + (k : Nat) * (-1)), []⟩ := by
  simp only [rngO3]
  have hc : True ∧ -(2 ^ 62) ≤ (n : Int) - 1 ∧ (n : Int) - 1 < 2 ^ 62 ∧ -(2 ^ 62) ≤ (c : Int) - 1 ∧ (c : Int) - 1 < 2 ^ 62 := ⟨trivial, by omega⟩
  rw [if_pos hc]
  rw [show ((n : Int) - 1 - ((c : Int) - 1)).toNat = n - c by omega]
theorem last_wind_ok {S : Sto} {d : Nat} {kvs : List (Key × MV)} {B : List Int} {cut : Nat} (hd : S.g d = .dK kvs) (F : Frs kvs B) (hl : B.length < 1000) (hc : cut ≤ B.length) :
    Ret (m_last_wind [tuI B, .int cut, .ref d] S) fun x S' => (∃ p, x = .int p ∧ LastW (wnd kvs) B cut p) ∧ S' = S := by
  unfold m_last_wind
  walk_at "def"
  unfold b_last_wind tuI
  walk_at "wq"
  rw [List.length_map]
  refine ⟨_, rng3_cut (by omega) hc, ?_⟩
  refine v_loop0 (fun i e S' => S' = S ∧ (∀ q b, B.length - i ≤ q → B[q]? = some b → wnd kvs b = false) ∧ ∃ x3, e = [some (.tup (B.map .int)), some (.int cut), some (.ref d), x3]) ⟨rfl, fun q b h1 h2 => by have := (List.getElem?_eq_some_iff.1 h2).1; omega, _, rfl⟩ ?_ ?_
  · rintro i x e S' hx ⟨rfl, hm, x3, rfl⟩
    obtain ⟨j, hj, rfl⟩ := get_map2 hx
    obtain ⟨hj1, hj2⟩ := range_get hj
    rw [hj2]
    have ei : (B.length : Int) - 1 + (i : Nat) * (-1) = ((B.length - i - 1 : Nat) : Int) := by omega
    rw [ei]
    have hlt : B.length - i - 1 < B.length := by omega
    have hb : B[B.length - i - 1]? = some B[B.length - i - 1] := List.getElem?_eq_getElem hlt
    generalize B[B.length - i - 1] = b at hb
    obtain ⟨w, r, hv⟩ := F b (List.mem_of_getElem? hb)
    have e1 : wnd kvs b = decide (w = "wind") := by rw [wnd, kdw_eq hv]
    refine ⟨ck_n, _, rfl, ?_⟩
    refine v_if ?_
    walk_at "wq"
    refine w_idxT (atI_nat (by rw [List.getElem?_map, hb]; rfl)) ?_
    walk_at "wq"
    refine w_idxK hd rfl hv ?_
    walk_at "wq"
    refine br_dec (fun hw => ?_) (fun hw => ?_)
    · walk_at "wq"
      exact ⟨⟨_, rfl, .inr ⟨_, b, rfl, by omega, hb, by rw [e1]; simpa using hw, fun q c h1 h2 => hm q c (by omega) h2⟩⟩, rfl⟩
    · walk_at "wq"
      refine ⟨rfl, fun q c h1 h2 => ?_, _, rfl⟩
      by_cases hq : q = B.length - i - 1
      · subst hq
        rw [hb] at h2; cases h2
        rw [e1]; simpa using hw
      · exact hm q c (by omega) h2
  · rintro e S' ⟨rfl, hm, x3, rfl⟩
    refine ⟨ck_n, ?_⟩
    walk_at "wq"
    refine ⟨⟨_, rfl, .inl ⟨rfl, fun q b h1 h2 => hm q b ?_ h2⟩⟩, rfl⟩
    simp only [List.length_map, List.length_range]; omega
end Law
end

section
namespace Law
open PySem L2 Mm
/-! the step of the pure proofs -/
local macro_rules
  | `(tactic| walk_at "wp side") => `(tactic| first | assumption | omega | decide)
local macro_rules
  | `(tactic| walk_at "wp1") => `(tactic| with_reducible first
    | refine Mm.v_seq ?_ | refine Mm.v_nx ?_ | refine Mm.v_asg ?_ | refine Mm.v_asgP ?_ | refine Mm.v_ret ?_ | refine Mm.v_retN ?_ | refine Mm.v_drop ?_ | refine Mm.v_set ?_ | refine Mm.v_aug ?_ | refine Mm.v_for ?_ | refine Mm.v_brk ?_ | refine Mm.v_ct ?_
    | refine Mm.w_con ?_ | refine Mm.w_op2 ?_ | refine Mm.w_op1 ?_ | refine Mm.w_opL ?_ | refine Mm.w_cons ?_ | refine Mm.w_nil ?_
    | refine Mm.w_add ?_ | refine Mm.w_sub ?_ | refine Mm.w_neg ?_ | refine Mm.w_lt ?_ | refine Mm.w_le ?_ | refine Mm.w_gt ?_ | refine Mm.w_ge ?_ | refine Mm.w_eqi ?_ | refine Mm.w_nei ?_ | refine Mm.w_eqs ?_ | refine Mm.w_nes ?_ | refine Mm.w_int ?_ | refine Mm.w_abs ?_ | refine Mm.w_isN ?_ | refine Mm.w_notN ?_ | refine Mm.w_min ?_ | refine Mm.w_max ?_
    | refine Mm.w_tru ?_ | refine Mm.w_blM ?_ | refine Mm.w_andB ?_ | refine Mm.w_orB ?_ | refine Mm.w_notB ?_ | refine Mm.w_ifV ?_ | refine Mm.w_andV ?_ | refine Mm.w_orV ?_ | refine Mm.w_notV ?_ | refine Mm.w_truB ?_ | refine Mm.w_truI ?_ | refine Mm.w_truN ?_ | refine Mm.w_truT ?_
    | refine Mm.w_dNewK ?_ | refine Mm.w_dNewT ?_ | refine Mm.w_iter ?_ | refine Mm.w_itmM ?_ | refine Mm.w_enm ?_ | refine Mm.w_enm2 ?_ | refine Mm.w_zip ?_ | refine Mm.w_rev ?_ | refine Mm.w_bm ?_ | refine Mm.w_lc ?_ | refine Mm.w_yes ?_ | refine Mm.br_t ?_ | refine Mm.br_f ?_ | refine Mm.w_slc ?_ | refine Mm.w_pno ?_ | refine Mm.w_pso ?_ | refine Mm.w_lenT ?_ | refine Mm.w_tupT ?_ | refine Mm.w_lstT ?_ | refine Mm.w_cutT ?_)
local macro_rules
  | `(tactic| walk_at "sto") => `(tactic| first
    | with_reducible assumption
    | with_reducible exact Mm.put_same
    | with_reducible exact Mm.add_same
    | (with_reducible refine (Mm.put_ne (by first | assumption | exact Ne.symm (by assumption) | ((try dsimp only [Mm.Sto.add, Mm.Sto.put]); omega))).trans ?_; walk_at "sto")
    | (with_reducible refine (Mm.add_ne (by first | assumption | exact Ne.symm (by assumption) | ((try dsimp only [Mm.Sto.add, Mm.Sto.put]); omega))).trans ?_; walk_at "sto")
    | fail)
local macro_rules
  | `(tactic| walk_at "wp2") => `(tactic| first
    | ((with_reducible apply Mm.w_var); · rfl)
    | ((with_reducible apply Mm.ex_mk); · with_reducible refine Mm.rng1 (by (try simp only [List.length_map]); omega))
    | ((with_reducible apply Mm.ex_mk); · with_reducible refine Mm.rng2 (by (try simp only [List.length_map]); omega))
    | ((with_reducible apply Mm.ex_mk); · rfl)
    | ((with_reducible refine Mm.br_true ?_ ?_); · rfl)
    | ((with_reducible refine Mm.br_false ?_ ?_); · rfl)
    | ((with_reducible refine Mm.w_mod ?_ ?_); · walk_at "wp side")
    | ((with_reducible refine Mm.w_div ?_ ?_ ?_); (· walk_at "wp side"); (· (first | decide | assumption)))
    | ((with_reducible refine Mm.w_mul ?_ ?_); · exact .inl (.inr (by decide)))
    | ((with_reducible refine Mm.w_mul ?_ ?_); · exact .inl (.inl (by decide)))
    | ((with_reducible refine Mm.w_mul ?_ ?_); · exact .inl (.inl (by omega)))
    | ((with_reducible refine Mm.w_mul ?_ ?_); · exact .inl (.inr (by omega)))
    | ((with_reducible refine Mm.w_pow ?_ ?_); · decide)
    | ((with_reducible refine Mm.w_lstV ?_ ?_); · (simp only [List.length_cons, List.length_nil]; decide))
    | ((with_reducible refine Mm.w_tupV ?_ ?_); · (simp only [List.length_cons, List.length_nil]; decide))
    | ((with_reducible apply Mm.w_idxL); (· walk_at "sto"); (· first | exact Mm.atI0 | exact Mm.atI1 | exact Mm.atI2 | exact Mm.atIl | rfl))
    | ((with_reducible apply Mm.w_idxC); (· walk_at "sto"); (· rfl))
    | ((with_reducible apply Mm.w_idxT); · first | exact Mm.atI0 | exact Mm.atI1 | exact Mm.atI2 | rfl)
    | ((with_reducible apply Mm.w_lenL); · walk_at "sto")
    | ((with_reducible apply Mm.w_lenC); · walk_at "sto")
    | ((with_reducible apply Mm.w_lenK); · walk_at "sto")
    | ((with_reducible apply Mm.w_tupL); · walk_at "sto")
    | ((with_reducible apply Mm.w_lstL); · walk_at "sto")
    | ((with_reducible apply Mm.w_cutL); · walk_at "sto")
    | ((with_reducible apply Mm.w_revL); · walk_at "sto")
    | ((with_reducible apply Mm.w_truL); · walk_at "sto")
    | ((with_reducible apply Mm.ex_mk); · exact Mm.it_lst (by walk_at "sto"))
    | ((with_reducible apply Mm.ex_mk); · exact Mm.it_con (by walk_at "sto"))
    | ((with_reducible apply Mm.ex_mk); · exact Mm.it_en2L (by walk_at "sto"))
    | ((with_reducible apply Mm.ex_mk); · exact Mm.it_en2C (by walk_at "sto"))
    | ((with_reducible apply Mm.ex_mk); · exact Mm.set_lst (by walk_at "sto") rfl)
    | ((with_reducible refine And.intro ?_ ?_); · exact Mm.ty_lst (by walk_at "sto"))
    | fail)
local macro_rules
  | `(tactic| walk_at "wq") => `(tactic| repeat' (first | (walk_at "wp1"; try dsimp only [List.set_cons_zero, List.set_cons_succ, Bool.not_true, Bool.not_false]) | (walk_at "wp2"; try dsimp only [Bool.not_true, Bool.not_false]) | fail))
local macro_rules
  | `(tactic| walk_at "wp") => `(tactic| repeat' (first | (with_reducible refine Mm.v_if ?_) | (walk_at "wp1"; try dsimp only [List.set_cons_zero, List.set_cons_succ, Bool.not_true, Bool.not_false]) | (walk_at "wp2"; try dsimp only [Bool.not_true, Bool.not_false]) | fail))
local macro_rules
  | `(tactic| walk_at "def") => `(tactic| (refine Mm.w_def rfl ?_; simp only [List.map_cons, List.map_nil, List.cons_append, List.nil_append, List.replicate, Nat.reduceSub, List.replicate_succ, List.replicate_zero]))
def leaveO (b : Int) (P : List Int) : MV := .tup [.str "leave", .int (2000 + b), tuI P, .tup [.str "off"]]
/-- the steps of taking off, the row from its top (R is the row turned round) -/
def offS (f g : Int → Bool) : List Int → List MV
  | [] => [arriveR []]
  | b :: r => if g b = true then [arriveR (r.reverse ++ [b])] else if f b = true then leaveO b r.reverse :: offS f g r else offS f g r
def offH (f g : Int → Bool) : List Int → MV
  | [] => arriveR []
  | b :: r => if g b = true then arriveR (r.reverse ++ [b]) else if f b = true then leaveO b r.reverse else offH f g r
theorem offS_head (f g : Int → Bool) : ∀ R : List Int, (offS f g R)[0]? = some (offH f g R)
  | [] => rfl
  | b :: r => by
    simp only [offS, offH]
    split
    · rfl
    · split
      · rfl
      · exact offS_head f g r
theorem offH_skip {f g : Int → Bool} : ∀ (R1 R2 : List Int), (∀ b ∈ R1, f b = false ∧ g b = false) → offH f g (R1 ++ R2) = offH f g R2
  | [], R2, _ => rfl
  | b :: r, R2, h => by
    obtain ⟨h1, h2⟩ := h b List.mem_cons_self
    simp only [List.cons_append, offH, h1, h2, Bool.false_eq_true, if_false]
    exact offH_skip r R2 fun z hz => h z (List.mem_cons_of_mem _ hz)
/-- the cut, as mark_cut finds it -/
theorem mc_spec (g : Int → Bool) (l : List Int) : ∀ n, n ≤ l.length → (∀ q b, mc g l n ≤ q → q < n → l[q]? = some b → g b = false) ∧ (mc g l n = 0 ∨ ∃ b, l[mc g l n - 1]? = some b ∧ g b = true)
  | 0, _ => ⟨fun q b _ h => absurd h (Nat.not_lt_zero _), .inl rfl⟩
  | n + 1, h => by
    obtain ⟨h1, h2⟩ := mc_spec g l n (by omega)
    have hb : l[n]? = some l[n] := List.getElem?_eq_getElem (by omega)
    simp only [mc]
    rw [getD_of hb]
    split
    · rename_i hg
      exact ⟨fun q b a c _ => by omega, .inr ⟨l[n], by simpa using hb, hg⟩⟩
    · rename_i hg
      refine ⟨fun q b a c e => ?_, h2⟩
      by_cases hq : q = n
      · subst hq; rw [hb] at e; cases e; simpa using hg
      · exact h1 q b a (by omega) e
/-- the head by the place of the last wind above the cut -/
theorem offH_at {f g : Int → Bool} {B : List Int} {p : Int} (hp : LastW f B (mc g B B.length) p) (hne : ∀ b, f b = true → g b = false) :
    offH f g B.reverse = if p < 0 then arriveR (B.take (mc g B B.length)) else leaveO (B.getD p.toNat 0) (B.take p.toNat) := by
  obtain ⟨c1, c2⟩ := mc_spec g B B.length (Nat.le_refl _)
  have cl := mc_le g B B.length
  generalize mc g B B.length = cut at *
  have split_at : ∀ k, B.reverse = (B.drop k).reverse ++ (B.take k).reverse := fun k => by rw [← List.reverse_append, List.take_append_drop]
  have above : ∀ k, (∀ q b, k ≤ q → B[q]? = some b → f b = false ∧ g b = false) → offH f g B.reverse = offH f g (B.take k).reverse := fun k h => by
    rw [split_at k]
    refine offH_skip _ _ fun b hb => ?_
    obtain ⟨j, hj⟩ := List.getElem?_of_mem (List.mem_reverse.1 hb)
    rw [List.getElem?_drop] at hj
    exact h _ b (by omega) hj
  rcases hp with ⟨rfl, h⟩ | ⟨pos, b, rfl, h1, h2, h3, h4⟩
  · rw [if_pos (by decide), above cut fun q b hq hb => ⟨h q b hq hb, c1 q b hq (List.getElem?_eq_some_iff.1 hb).1 hb⟩]
    rcases c2 with rfl | ⟨b, hb, hg⟩
    · simp [offH]
    · have hpos : 0 < cut := by
        rcases Nat.eq_zero_or_pos cut with z | z
        · subst z
          exfalso
          have := c1 0 b (Nat.le_refl _) (List.getElem?_eq_some_iff.1 hb).1 hb
          rw [hg] at this; cases this
        · exact z
      have e : B.take cut = B.take (cut - 1) ++ [b] := by
        have := take_snoc hb
        rwa [show cut - 1 + 1 = cut by omega] at this
      rw [e, List.reverse_append]
      simp [offH, hg]
  · rw [if_neg (by omega), Int.toNat_natCast, getD_of h2]
    rw [above (pos + 1) fun q c hq hc => ⟨h4 q c (by omega) hc, c1 q c (by omega) (List.getElem?_eq_some_iff.1 hc).1 hc⟩]
    rw [take_snoc h2, List.reverse_append]
    simp [offH, h3, hne b h3]
theorem take_off_ok {S : Sto} {d m : Nat} {kvs : List (Key × MV)} {B : List Int} (T : Thg S d kvs m) (hB : ∀ b ∈ B, b ∈ k1 m) (hl : B.length < 900) :
    Ret (m_take_off [tuI B, .ref d] S) fun x S' => x = offH (wnd kvs) (mrk kvs) B.reverse ∧ S' = S := by
  have F := T.frs hB
  unfold m_take_off
  walk_at "def"
  unfold b_take_off tuI
  walk_at "wq"
  refine (mark_cut_ok T.g F (by omega)).imp ?_
  rintro _ S' ⟨rfl, rfl⟩
  have cl := mc_le (mrk kvs) B B.length
  walk_at "wq"
  refine (last_wind_ok T.g F (by omega) cl).imp ?_
  rintro _ S'' ⟨⟨p, rfl, hp⟩, rfl⟩
  have hne : ∀ b, wnd kvs b = true → mrk kvs b = false := fun b h => by
    have h := of_decide_eq_true h
    rw [mrk, h]; decide +kernel
  rw [offH_at hp hne]
  walk_at "wq"
  refine v_if ?_
  walk_at "wq"
  refine br_dec (fun hq => ?_) (fun hq => ?_)
  · walk_at "wq"
    rw [cutM_to (by omega), Int.toNat_natCast]
    walk_at "wq"
    refine ⟨?_, rfl⟩
    rw [if_pos hq, arriveR, tuI, List.map_take]
  · rcases hp with ⟨rfl, _⟩ | ⟨pos, b, rfl, h1, h2, h3, h4⟩
    · exact absurd (by decide) hq
    have hv := wind_val (l := B) T hB (p := ((pos : Int), b)) (by
      have : winds (wnd kvs) (B.take (pos + 1)) = winds (wnd kvs) (B.take pos) ++ [((pos : Int), b)] := by rw [winds_snoc h2, if_pos h3]
      have hm : ((pos : Int), b) ∈ winds (wnd kvs) (B.take (pos + 1)) := by rw [this]; simp
      unfold winds at hm ⊢
      obtain ⟨q, hq1, hq2⟩ := List.mem_map.1 hm
      refine List.mem_map.2 ⟨q, ?_, hq2⟩
      have := List.mem_filter.1 hq1
      refine List.mem_filter.2 ⟨?_, this.2⟩
      have e := this.1
      rw [List.mk_mem_zipIdx_iff_getElem?] at e
      rw [List.mk_mem_zipIdx_iff_getElem?]
      rw [List.getElem?_take] at e
      split at e
      · exact e
      · cases e)
    walk_at "wq"
    refine w_idxT (atI_nat (by rw [List.getElem?_map, h2]; rfl)) ?_
    walk_at "wq"
    refine w_idxK T.g rfl hv ?_
    walk_at "wq"
    rw [cutM_to (by omega), Int.toNat_natCast]
    walk_at "wq"
    refine ⟨?_, rfl⟩
    rw [if_neg hq, getD_of h2, leaveO, tuI, List.map_take]
end Law
end

section
namespace Law
open PySem L2 Mm
/-! the step of the pure proofs -/
local macro_rules
  | `(tactic| walk_at "wp side") => `(tactic| first | assumption | omega | decide)
local macro_rules
  | `(tactic| walk_at "wp1") => `(tactic| with_reducible first
    | refine Mm.v_seq ?_ | refine Mm.v_nx ?_ | refine Mm.v_asg ?_ | refine Mm.v_asgP ?_ | refine Mm.v_ret ?_ | refine Mm.v_retN ?_ | refine Mm.v_drop ?_ | refine Mm.v_set ?_ | refine Mm.v_aug ?_ | refine Mm.v_for ?_ | refine Mm.v_brk ?_ | refine Mm.v_ct ?_
    | refine Mm.w_con ?_ | refine Mm.w_op2 ?_ | refine Mm.w_op1 ?_ | refine Mm.w_opL ?_ | refine Mm.w_cons ?_ | refine Mm.w_nil ?_
    | refine Mm.w_add ?_ | refine Mm.w_sub ?_ | refine Mm.w_neg ?_ | refine Mm.w_lt ?_ | refine Mm.w_le ?_ | refine Mm.w_gt ?_ | refine Mm.w_ge ?_ | refine Mm.w_eqi ?_ | refine Mm.w_nei ?_ | refine Mm.w_eqs ?_ | refine Mm.w_nes ?_ | refine Mm.w_int ?_ | refine Mm.w_abs ?_ | refine Mm.w_isN ?_ | refine Mm.w_notN ?_ | refine Mm.w_min ?_ | refine Mm.w_max ?_
    | refine Mm.w_tru ?_ | refine Mm.w_blM ?_ | refine Mm.w_andB ?_ | refine Mm.w_orB ?_ | refine Mm.w_notB ?_ | refine Mm.w_ifV ?_ | refine Mm.w_andV ?_ | refine Mm.w_orV ?_ | refine Mm.w_notV ?_ | refine Mm.w_truB ?_ | refine Mm.w_truI ?_ | refine Mm.w_truN ?_ | refine Mm.w_truT ?_
    | refine Mm.w_dNewK ?_ | refine Mm.w_dNewT ?_ | refine Mm.w_iter ?_ | refine Mm.w_itmM ?_ | refine Mm.w_enm ?_ | refine Mm.w_enm2 ?_ | refine Mm.w_zip ?_ | refine Mm.w_rev ?_ | refine Mm.w_bm ?_ | refine Mm.w_lc ?_ | refine Mm.w_yes ?_ | refine Mm.br_t ?_ | refine Mm.br_f ?_ | refine Mm.w_slc ?_ | refine Mm.w_pno ?_ | refine Mm.w_pso ?_ | refine Mm.w_lenT ?_ | refine Mm.w_tupT ?_ | refine Mm.w_lstT ?_ | refine Mm.w_cutT ?_)
local macro_rules
  | `(tactic| walk_at "sto") => `(tactic| first
    | with_reducible assumption
    | with_reducible exact Mm.put_same
    | with_reducible exact Mm.add_same
    | (with_reducible refine (Mm.put_ne (by first | assumption | exact Ne.symm (by assumption) | ((try dsimp only [Mm.Sto.add, Mm.Sto.put]); omega))).trans ?_; walk_at "sto")
    | (with_reducible refine (Mm.add_ne (by first | assumption | exact Ne.symm (by assumption) | ((try dsimp only [Mm.Sto.add, Mm.Sto.put]); omega))).trans ?_; walk_at "sto")
    | fail)
local macro_rules
  | `(tactic| walk_at "wp2") => `(tactic| first
    | ((with_reducible apply Mm.w_var); · rfl)
    | ((with_reducible apply Mm.ex_mk); · with_reducible refine Mm.rng1 (by (try simp only [List.length_map]); omega))
    | ((with_reducible apply Mm.ex_mk); · with_reducible refine Mm.rng2 (by (try simp only [List.length_map]); omega))
    | ((with_reducible apply Mm.ex_mk); · rfl)
    | ((with_reducible refine Mm.br_true ?_ ?_); · rfl)
    | ((with_reducible refine Mm.br_false ?_ ?_); · rfl)
    | ((with_reducible refine Mm.w_mod ?_ ?_); · walk_at "wp side")
    | ((with_reducible refine Mm.w_div ?_ ?_ ?_); (· walk_at "wp side"); (· (first | decide | assumption)))
    | ((with_reducible refine Mm.w_mul ?_ ?_); · exact .inl (.inr (by decide)))
    | ((with_reducible refine Mm.w_mul ?_ ?_); · exact .inl (.inl (by decide)))
    | ((with_reducible refine Mm.w_mul ?_ ?_); · exact .inl (.inl (by omega)))
    | ((with_reducible refine Mm.w_mul ?_ ?_); · exact .inl (.inr (by omega)))
    | ((with_reducible refine Mm.w_pow ?_ ?_); · decide)
    | ((with_reducible refine Mm.w_lstV ?_ ?_); · (simp only [List.length_cons, List.length_nil]; decide))
    | ((with_reducible refine Mm.w_tupV ?_ ?_); · (simp only [List.length_cons, List.length_nil]; decide))
    | ((with_reducible apply Mm.w_idxL); (· walk_at "sto"); (· first | exact Mm.atI0 | exact Mm.atI1 | exact Mm.atI2 | exact Mm.atIl | rfl))
    | ((with_reducible apply Mm.w_idxC); (· walk_at "sto"); (· rfl))
    | ((with_reducible apply Mm.w_idxT); · first | exact Mm.atI0 | exact Mm.atI1 | exact Mm.atI2 | rfl)
    | ((with_reducible apply Mm.w_lenL); · walk_at "sto")
    | ((with_reducible apply Mm.w_lenC); · walk_at "sto")
    | ((with_reducible apply Mm.w_lenK); · walk_at "sto")
    | ((with_reducible apply Mm.w_tupL); · walk_at "sto")
    | ((with_reducible apply Mm.w_lstL); · walk_at "sto")
    | ((with_reducible apply Mm.w_cutL); · walk_at "sto")
    | ((with_reducible apply Mm.w_revL); · walk_at "sto")
    | ((with_reducible apply Mm.w_truL); · walk_at "sto")
    | ((with_reducible apply Mm.ex_mk); · exact Mm.it_lst (by walk_at "sto"))
    | ((with_reducible apply Mm.ex_mk); · exact Mm.it_con (by walk_at "sto"))
    | ((with_reducible apply Mm.ex_mk); · exact Mm.it_en2L (by walk_at "sto"))
    | ((with_reducible apply Mm.ex_mk); · exact Mm.it_en2C (by walk_at "sto"))
    | ((with_reducible apply Mm.ex_mk); · exact Mm.set_lst (by walk_at "sto") rfl)
    | ((with_reducible refine And.intro ?_ ?_); · exact Mm.ty_lst (by walk_at "sto"))
    | fail)
local macro_rules
  | `(tactic| walk_at "wq") => `(tactic| repeat' (first | (walk_at "wp1"; try dsimp only [List.set_cons_zero, List.set_cons_succ, Bool.not_true, Bool.not_false]) | (walk_at "wp2"; try dsimp only [Bool.not_true, Bool.not_false]) | fail))
local macro_rules
  | `(tactic| walk_at "wp") => `(tactic| repeat' (first | (with_reducible refine Mm.v_if ?_) | (walk_at "wp1"; try dsimp only [List.set_cons_zero, List.set_cons_succ, Bool.not_true, Bool.not_false]) | (walk_at "wp2"; try dsimp only [Bool.not_true, Bool.not_false]) | fail))
local macro_rules
  | `(tactic| walk_at "def") => `(tactic| (refine Mm.w_def rfl ?_; simp only [List.map_cons, List.map_nil, List.cons_append, List.nil_append, List.replicate, Nat.reduceSub, List.replicate_succ, List.replicate_zero]))
theorem next_off_ok {S : Sto} {d m : Nat} {kvs : List (Key × MV)} {B : List Int} (T : Thg S d kvs m) (hB : ∀ b ∈ B, b ∈ k1 m) (hl : B.length < 900) :
    Ret (m_next_step [tuI B, .tup [.str "off"], .ref d] S) fun x S' => x = offH (wnd kvs) (mrk kvs) B.reverse ∧ S' = S := by
  unfold m_next_step
  walk_at "def"
  unfold b_next_step
  walk_at "wq"
  refine v_if ?_
  walk_at "wq"
  refine v_if ?_
  walk_at "wq"
  refine v_if ?_
  walk_at "wq"
  refine (take_off_ok T hB hl).imp ?_
  rintro x S' ⟨rfl, rfl⟩
  exact ⟨rfl, rfl⟩
/-- a list of steps, each from the one before; the last arrives -/
structure Steps (kvs : List (Key × MV)) (m d : Nat) (L : List MV) : Prop where
  ne : L ≠ []
  go : ∀ (i : Nat) (x y : MV), L[i]? = some x → L[i + 1]? = some y → ∃ (w : Str) (u b r : MV), x = .tup [.str w, u, b, r] ∧ w ≠ "arrive" ∧ ∀ S : Sto, Thg S d kvs m → Ret (m_next_step [b, r, .ref d] S) fun z S' => z = y ∧ Ext S S'
  last : ∀ (i : Nat) (x : MV), L[i]? = some x → L[i + 1]? = none → ∃ (u b r : MV), x = .tup [.str "arrive", u, b, r]
theorem Steps.cons {kvs : List (Key × MV)} {m d : Nat} {L : List MV} {w : Str} {u b r : MV} (h : Steps kvs m d L) (hw : w ≠ "arrive") (hn : ∀ S : Sto, Thg S d kvs m → Ret (m_next_step [b, r, .ref d] S) fun z S' => L[0]? = some z ∧ Ext S S') : Steps kvs m d (.tup [.str w, u, b, r] :: L) := by
  refine ⟨by simp, fun i x y h1 h2 => ?_, fun i x h1 h2 => ?_⟩
  · cases i with
    | zero =>
      cases h1
      refine ⟨w, u, b, r, rfl, hw, fun S T => (hn S T).imp fun z S' hz => ⟨?_, hz.2⟩⟩
      have : L[0]? = some y := by simpa using h2
      rw [hz.1] at this; exact Option.some.inj this
    | succ i => exact h.go i x y (by simpa using h1) (by simpa using h2)
  · cases i with
    | zero =>
      have : L[0]? = none := by simpa using h2
      exact absurd (List.getElem?_eq_none_iff.1 this) (by have := List.length_pos_iff.2 h.ne; omega)
    | succ i => exact h.last i x (by simpa using h1) (by simpa using h2)
theorem Steps.one {kvs : List (Key × MV)} {m d : Nat} {P : List Int} : Steps kvs m d [arriveR P] :=
  ⟨by simp, fun i x y _ h => by simp at h, fun i x h _ => by
    cases i with
    | zero => cases h; exact ⟨_, _, _, rfl⟩
    | succ i => simp at h⟩
theorem onS_steps {kvs : List (Key × MV)} {m d : Nat} : ∀ (fr below : List Int), (∀ b ∈ fr, b ∈ k1 m) → below.length + fr.length < 700 → Steps kvs m d (onS (wnd kvs) below fr)
  | [], below, _, _ => Steps.one
  | b :: r, below, h, hl => by
    have ih := onS_steps (kvs := kvs) (d := d) r (below ++ [b]) (fun z hz => h z (List.mem_cons_of_mem _ hz)) (by simp at hl ⊢; omega)
    simp only [onS]
    split
    · refine Steps.cons ih (by decide +kernel) fun S T => ?_
      refine (next_on_ok (P := below) T (fun z hz => h z (List.mem_cons_of_mem _ hz)) (by simp at hl; omega) (by simp at hl; omega)).imp ?_
      rintro z S' ⟨rfl, rfl⟩
      exact ⟨onS_head _ _ _, Ext.refl⟩
    · exact ih
theorem offS_steps {kvs : List (Key × MV)} {m d : Nat} : ∀ (R : List Int), (∀ b ∈ R, b ∈ k1 m) → R.length < 700 → Steps kvs m d (offS (wnd kvs) (mrk kvs) R)
  | [], _, _ => Steps.one
  | b :: r, h, hl => by
    have ih := offS_steps (kvs := kvs) (d := d) r (fun z hz => h z (List.mem_cons_of_mem _ hz)) (by simp at hl; omega)
    simp only [offS]
    split
    · exact Steps.one
    · split
      · refine Steps.cons ih (by decide +kernel) fun S T => ?_
        refine (next_off_ok (B := r.reverse) T (fun z hz => h z (List.mem_cons_of_mem _ (List.mem_reverse.1 hz))) (by simp at hl ⊢; omega)).imp ?_
        rintro z S' ⟨rfl, rfl⟩
        rw [List.reverse_reverse]
        exact ⟨offS_head _ _ _, Ext.refl⟩
      · exact ih
theorem walked_ok {S : Sto} {d m : Nat} {kvs : List (Key × MV)} {L : List MV} {x : MV} (T : Thg S d kvs m) (h : Steps kvs m d L) (h0 : L[0]? = some x) (hl : L.length ≤ 70) :
    Ret (m__law_walked [x, .ref d, .int 70] S) fun y S' => (∃ k, y = .ref k ∧ S.n ≤ k ∧ k < S'.n ∧ S'.g k = .lst L) ∧ Ext S S' := by
  have sz : (2000 : Nat) ≤ sizeLine := by decide
  unfold m__law_walked
  walk_at "def"
  unfold b__law_walked
  walk_at "wq"
  refine v_loop0 (fun i e S' => Ext S S' ∧ S.n < S'.n ∧ S'.g S.n = .lst (L.take i) ∧ ∃ y x4, L[i]? = some y ∧ e = [some y, some (.ref d), some (.int 70), some (.ref S.n), x4]) ⟨Ext.refl.add, Nat.lt_succ_self _, add_same, x, _, h0, rfl⟩ ?_ ?_
  · rintro i z e S' hz ⟨E, hn, hg, y, x4, hy, rfl⟩
    have hi := (List.getElem?_eq_some_iff.1 hy).1
    refine ⟨ck_n, _, rfl, ?_⟩
    walk_at "wq"
    refine w_append hg (by rw [List.length_take]; omega) ?_
    rw [← take_snoc hy]
    have E2 := E.put (o := .lst (L.take (i + 1))) (Nat.le_refl _)
    have n2 : S.n < (S'.put S.n (.lst (L.take (i + 1)))).n := hn
    have g2 : (S'.put S.n (.lst (L.take (i + 1)))).g S.n = .lst (L.take (i + 1)) := put_same
    generalize S'.put S.n (.lst (L.take (i + 1))) = U at *
    cases q : L[i + 1]? with
    | none =>
      obtain ⟨u, b, r, rfl⟩ := h.last i y hy q
      walk_at "wq"
      refine v_if ?_
      walk_at "wq"
      refine w_isi rfl rfl ?_
      walk_at "wq"
      refine ⟨⟨_, rfl, Nat.le_refl _, n2, ?_⟩, E2⟩
      rw [g2, List.take_of_length_le (by have := List.getElem?_eq_none_iff.1 q; omega)]
    | some y2 =>
      obtain ⟨w, u, b, r, rfl, hw, hnx⟩ := h.go i y y2 hy q
      walk_at "wq"
      refine v_if ?_
      walk_at "wq"
      refine w_isi rfl rfl ?_
      walk_at "wq"
      refine br_dec (fun hq => absurd hq hw) (fun _ => ?_)
      walk_at "wq"
      refine (hnx U (T.ext E2.h (h := S.n) (Nat.ne_of_lt T.n))).imp ?_
      rintro z2 S3 ⟨rfl, E3⟩
      exact ⟨E2.trans E3, Nat.lt_of_lt_of_le n2 E3.1, (E3.2 _ n2).trans g2, _, _, rfl, rfl⟩
  · rintro e S' ⟨E, hn, hg, y, x4, hy, rfl⟩
    have hi := (List.getElem?_eq_some_iff.1 hy).1
    rw [rngL_len] at hi
    have : (70 : Int).toNat = 70 := rfl
    omega
end Law
end

section
namespace Law
open PySem L2 Mm
/-! the step of the pure proofs -/
local macro_rules
  | `(tactic| walk_at "wp side") => `(tactic| first | assumption | omega | decide)
local macro_rules
  | `(tactic| walk_at "wp1") => `(tactic| with_reducible first
    | refine Mm.v_seq ?_ | refine Mm.v_nx ?_ | refine Mm.v_asg ?_ | refine Mm.v_asgP ?_ | refine Mm.v_ret ?_ | refine Mm.v_retN ?_ | refine Mm.v_drop ?_ | refine Mm.v_set ?_ | refine Mm.v_aug ?_ | refine Mm.v_for ?_ | refine Mm.v_brk ?_ | refine Mm.v_ct ?_
    | refine Mm.w_con ?_ | refine Mm.w_op2 ?_ | refine Mm.w_op1 ?_ | refine Mm.w_opL ?_ | refine Mm.w_cons ?_ | refine Mm.w_nil ?_
    | refine Mm.w_add ?_ | refine Mm.w_sub ?_ | refine Mm.w_neg ?_ | refine Mm.w_lt ?_ | refine Mm.w_le ?_ | refine Mm.w_gt ?_ | refine Mm.w_ge ?_ | refine Mm.w_eqi ?_ | refine Mm.w_nei ?_ | refine Mm.w_eqs ?_ | refine Mm.w_nes ?_ | refine Mm.w_int ?_ | refine Mm.w_abs ?_ | refine Mm.w_isN ?_ | refine Mm.w_notN ?_ | refine Mm.w_min ?_ | refine Mm.w_max ?_
    | refine Mm.w_tru ?_ | refine Mm.w_blM ?_ | refine Mm.w_andB ?_ | refine Mm.w_orB ?_ | refine Mm.w_notB ?_ | refine Mm.w_ifV ?_ | refine Mm.w_andV ?_ | refine Mm.w_orV ?_ | refine Mm.w_notV ?_ | refine Mm.w_truB ?_ | refine Mm.w_truI ?_ | refine Mm.w_truN ?_ | refine Mm.w_truT ?_
    | refine Mm.w_dNewK ?_ | refine Mm.w_dNewT ?_ | refine Mm.w_iter ?_ | refine Mm.w_itmM ?_ | refine Mm.w_enm ?_ | refine Mm.w_enm2 ?_ | refine Mm.w_zip ?_ | refine Mm.w_rev ?_ | refine Mm.w_bm ?_ | refine Mm.w_lc ?_ | refine Mm.w_yes ?_ | refine Mm.br_t ?_ | refine Mm.br_f ?_ | refine Mm.w_slc ?_ | refine Mm.w_pno ?_ | refine Mm.w_pso ?_ | refine Mm.w_lenT ?_ | refine Mm.w_tupT ?_ | refine Mm.w_lstT ?_ | refine Mm.w_cutT ?_)
local macro_rules
  | `(tactic| walk_at "sto") => `(tactic| first
    | with_reducible assumption
    | with_reducible exact Mm.put_same
    | with_reducible exact Mm.add_same
    | (with_reducible refine (Mm.put_ne (by first | assumption | exact Ne.symm (by assumption) | ((try dsimp only [Mm.Sto.add, Mm.Sto.put]); omega))).trans ?_; walk_at "sto")
    | (with_reducible refine (Mm.add_ne (by first | assumption | exact Ne.symm (by assumption) | ((try dsimp only [Mm.Sto.add, Mm.Sto.put]); omega))).trans ?_; walk_at "sto")
    | fail)
local macro_rules
  | `(tactic| walk_at "wp2") => `(tactic| first
    | ((with_reducible apply Mm.w_var); · rfl)
    | ((with_reducible apply Mm.ex_mk); · with_reducible refine Mm.rng1 (by (try simp only [List.length_map]); omega))
    | ((with_reducible apply Mm.ex_mk); · with_reducible refine Mm.rng2 (by (try simp only [List.length_map]); omega))
    | ((with_reducible apply Mm.ex_mk); · rfl)
    | ((with_reducible refine Mm.br_true ?_ ?_); · rfl)
    | ((with_reducible refine Mm.br_false ?_ ?_); · rfl)
    | ((with_reducible refine Mm.w_mod ?_ ?_); · walk_at "wp side")
    | ((with_reducible refine Mm.w_div ?_ ?_ ?_); (· walk_at "wp side"); (· (first | decide | assumption)))
    | ((with_reducible refine Mm.w_mul ?_ ?_); · exact .inl (.inr (by decide)))
    | ((with_reducible refine Mm.w_mul ?_ ?_); · exact .inl (.inl (by decide)))
    | ((with_reducible refine Mm.w_mul ?_ ?_); · exact .inl (.inl (by omega)))
    | ((with_reducible refine Mm.w_mul ?_ ?_); · exact .inl (.inr (by omega)))
    | ((with_reducible refine Mm.w_pow ?_ ?_); · decide)
    | ((with_reducible refine Mm.w_lstV ?_ ?_); · (simp only [List.length_cons, List.length_nil]; decide))
    | ((with_reducible refine Mm.w_tupV ?_ ?_); · (simp only [List.length_cons, List.length_nil]; decide))
    | ((with_reducible apply Mm.w_idxL); (· walk_at "sto"); (· first | exact Mm.atI0 | exact Mm.atI1 | exact Mm.atI2 | exact Mm.atIl | rfl))
    | ((with_reducible apply Mm.w_idxC); (· walk_at "sto"); (· rfl))
    | ((with_reducible apply Mm.w_idxT); · first | exact Mm.atI0 | exact Mm.atI1 | exact Mm.atI2 | rfl)
    | ((with_reducible apply Mm.w_lenL); · walk_at "sto")
    | ((with_reducible apply Mm.w_lenC); · walk_at "sto")
    | ((with_reducible apply Mm.w_lenK); · walk_at "sto")
    | ((with_reducible apply Mm.w_tupL); · walk_at "sto")
    | ((with_reducible apply Mm.w_lstL); · walk_at "sto")
    | ((with_reducible apply Mm.w_cutL); · walk_at "sto")
    | ((with_reducible apply Mm.w_revL); · walk_at "sto")
    | ((with_reducible apply Mm.w_truL); · walk_at "sto")
    | ((with_reducible apply Mm.ex_mk); · exact Mm.it_lst (by walk_at "sto"))
    | ((with_reducible apply Mm.ex_mk); · exact Mm.it_con (by walk_at "sto"))
    | ((with_reducible apply Mm.ex_mk); · exact Mm.it_en2L (by walk_at "sto"))
    | ((with_reducible apply Mm.ex_mk); · exact Mm.it_en2C (by walk_at "sto"))
    | ((with_reducible apply Mm.ex_mk); · exact Mm.set_lst (by walk_at "sto") rfl)
    | ((with_reducible refine And.intro ?_ ?_); · exact Mm.ty_lst (by walk_at "sto"))
    | fail)
local macro_rules
  | `(tactic| walk_at "wq") => `(tactic| repeat' (first | (walk_at "wp1"; try dsimp only [List.set_cons_zero, List.set_cons_succ, Bool.not_true, Bool.not_false]) | (walk_at "wp2"; try dsimp only [Bool.not_true, Bool.not_false]) | fail))
local macro_rules
  | `(tactic| walk_at "wp") => `(tactic| repeat' (first | (with_reducible refine Mm.v_if ?_) | (walk_at "wp1"; try dsimp only [List.set_cons_zero, List.set_cons_succ, Bool.not_true, Bool.not_false]) | (walk_at "wp2"; try dsimp only [Bool.not_true, Bool.not_false]) | fail))
local macro_rules
  | `(tactic| walk_at "def") => `(tactic| (refine Mm.w_def rfl ?_; simp only [List.map_cons, List.map_nil, List.cons_append, List.nil_append, List.replicate, Nat.reduceSub, List.replicate_succ, List.replicate_zero]))
theorem winds_cons (f : Int → Bool) (b : Int) (r : List Int) : winds f (b :: r) = (if f b = true then [((0 : Int), b)] else []) ++ (winds f r).map fun p => (p.1 + 1, p.2) := by
  unfold winds
  rw [List.zipIdx_cons, List.zipIdx_succ, List.filter_cons, List.filter_map, List.map_map]
  have e : ((fun (p : Int × Nat) => f p.1) ∘ fun (x : Int × Nat) => (x.1, x.2 + 1)) = fun p => f p.1 := rfl
  cases q : f b
  · simp [e, Function.comp_def]
  · simp [e, Function.comp_def]
theorem onS_eq {f : Int → Bool} : ∀ (fr below : List Int), onS f below fr = ((winds f fr).map fun p => onR p.2 (below ++ fr.take p.1.toNat) (fr.drop p.1.toNat)) ++ [arriveR (below ++ fr)]
  | [], below => by simp [onS, winds_nil]
  | b :: r, below => by
    rw [onS, onS_eq r (below ++ [b]), winds_cons]
    have e : (winds f r).map (fun p => onR p.2 (below ++ [b] ++ r.take p.1.toNat) (r.drop p.1.toNat)) = ((winds f r).map fun p => (p.1 + 1, p.2)).map fun p => onR p.2 (below ++ (b :: r).take p.1.toNat) ((b :: r).drop p.1.toNat) := by
      rw [List.map_map]
      refine List.map_congr_left fun p hp => ?_
      have h0 : 0 ≤ p.1 := by
        obtain ⟨j, hj⟩ := List.getElem?_of_mem hp
        obtain ⟨pos, h, _⟩ := winds_cut hj
        omega
      simp only [Function.comp_def]
      rw [show (p.1 + 1).toNat = p.1.toNat + 1 by omega, List.take_succ_cons, List.drop_succ_cons]
      simp
    rw [e]
    split <;> simp
theorem lon_ok {S : Sto} {d m : Nat} {kvs : List (Key × MV)} {P F : List Int} (T : Thg S d kvs m) (hF : ∀ b ∈ F, b ∈ k1 m) (lP : P.length < 900) (lF : F.length < 900) :
    Ret (m__law_on_steps [tuI P, tuI F, .ref d] S) fun x S' => (∃ k, x = .ref k ∧ S.n ≤ k ∧ k < S'.n ∧ S'.g k = .lst (onS (wnd kvs) P F)) ∧ Ext S S' := by
  have sz : (2000 : Nat) ≤ sizeLine := by decide
  have wl := winds_len (f := wnd kvs) (l := F)
  unfold m__law_on_steps
  walk_at "def"
  unfold b__law_on_steps tuI
  walk_at "wq"
  refine (lwinds_ok T.g T.n (T.frs hF) (by omega)).imp ?_
  rintro _ S1 ⟨rfl, n1, g1, E1⟩
  walk_at "wq"
  refine w_lc0 (fun i acc S' => S1 = S' ∧ acc = ((winds (wnd kvs) F).take i).map fun p => onR p.2 (P ++ F.take p.1.toNat) (F.drop p.1.toNat)) ⟨rfl, rfl⟩ ?_ ?_
  · rintro i x acc S' hx ⟨rfl, rfl⟩
    obtain ⟨p, hp, rfl⟩ := get_map2 hx
    obtain ⟨pos, q1, _⟩ := winds_cut hp
    refine ⟨ck_l g1, _, rfl, ?_⟩
    walk_at "wq"
    rw [cutM_to (by omega)]
    refine w_addt (by simp only [List.length_map, List.length_take]; omega) ?_
    walk_at "wq"
    rw [cutM_from (by omega)]
    walk_at "wq"
    refine ⟨by rw [List.length_map, List.length_take]; omega, rfl, ?_⟩
    rw [take_snoc hp, List.map_append, List.map_singleton]
    simp only [onR, tuI, List.map_append, List.map_take, List.map_drop]
  · rintro acc S' ⟨rfl, rfl⟩
    rw [List.length_map, List.take_length]
    refine ⟨ck_l g1, ?_⟩
    walk_at "wq"
    refine w_addt (by simp only [List.length_map]; omega) ?_
    walk_at "wq"
    refine w_addl ((add_ne (Nat.ne_of_lt (Nat.lt_succ_self _))).trans add_same) add_same (by simp only [List.length_map, List.length_cons, List.length_nil]; omega) ?_
    walk_at "wq"
    refine ⟨⟨_, rfl, by have := E1.1; show S.n ≤ S1.n + 1 + 1; omega, Nat.lt_succ_self _, add_same.trans ?_⟩, E1.add.add.add⟩
    rw [onS_eq]
    simp only [arriveR, tuI, List.map_append]
end Law
end

section
namespace Law
open PySem L2 Mm
/-! the step of the pure proofs -/
local macro_rules
  | `(tactic| walk_at "wp side") => `(tactic| first | assumption | omega | decide)
local macro_rules
  | `(tactic| walk_at "wp1") => `(tactic| with_reducible first
    | refine Mm.v_seq ?_ | refine Mm.v_nx ?_ | refine Mm.v_asg ?_ | refine Mm.v_asgP ?_ | refine Mm.v_ret ?_ | refine Mm.v_retN ?_ | refine Mm.v_drop ?_ | refine Mm.v_set ?_ | refine Mm.v_aug ?_ | refine Mm.v_for ?_ | refine Mm.v_brk ?_ | refine Mm.v_ct ?_
    | refine Mm.w_con ?_ | refine Mm.w_op2 ?_ | refine Mm.w_op1 ?_ | refine Mm.w_opL ?_ | refine Mm.w_cons ?_ | refine Mm.w_nil ?_
    | refine Mm.w_add ?_ | refine Mm.w_sub ?_ | refine Mm.w_neg ?_ | refine Mm.w_lt ?_ | refine Mm.w_le ?_ | refine Mm.w_gt ?_ | refine Mm.w_ge ?_ | refine Mm.w_eqi ?_ | refine Mm.w_nei ?_ | refine Mm.w_eqs ?_ | refine Mm.w_nes ?_ | refine Mm.w_int ?_ | refine Mm.w_abs ?_ | refine Mm.w_isN ?_ | refine Mm.w_notN ?_ | refine Mm.w_min ?_ | refine Mm.w_max ?_
    | refine Mm.w_tru ?_ | refine Mm.w_blM ?_ | refine Mm.w_andB ?_ | refine Mm.w_orB ?_ | refine Mm.w_notB ?_ | refine Mm.w_ifV ?_ | refine Mm.w_andV ?_ | refine Mm.w_orV ?_ | refine Mm.w_notV ?_ | refine Mm.w_truB ?_ | refine Mm.w_truI ?_ | refine Mm.w_truN ?_ | refine Mm.w_truT ?_
    | refine Mm.w_dNewK ?_ | refine Mm.w_dNewT ?_ | refine Mm.w_iter ?_ | refine Mm.w_itmM ?_ | refine Mm.w_enm ?_ | refine Mm.w_enm2 ?_ | refine Mm.w_zip ?_ | refine Mm.w_rev ?_ | refine Mm.w_bm ?_ | refine Mm.w_lc ?_ | refine Mm.w_yes ?_ | refine Mm.br_t ?_ | refine Mm.br_f ?_ | refine Mm.w_slc ?_ | refine Mm.w_pno ?_ | refine Mm.w_pso ?_ | refine Mm.w_lenT ?_ | refine Mm.w_tupT ?_ | refine Mm.w_lstT ?_ | refine Mm.w_cutT ?_)
local macro_rules
  | `(tactic| walk_at "sto") => `(tactic| first
    | with_reducible assumption
    | with_reducible exact Mm.put_same
    | with_reducible exact Mm.add_same
    | (with_reducible refine (Mm.put_ne (by first | assumption | exact Ne.symm (by assumption) | ((try dsimp only [Mm.Sto.add, Mm.Sto.put]); omega))).trans ?_; walk_at "sto")
    | (with_reducible refine (Mm.add_ne (by first | assumption | exact Ne.symm (by assumption) | ((try dsimp only [Mm.Sto.add, Mm.Sto.put]); omega))).trans ?_; walk_at "sto")
    | fail)
local macro_rules
  | `(tactic| walk_at "wp2") => `(tactic| first
    | ((with_reducible apply Mm.w_var); · rfl)
    | ((with_reducible apply Mm.ex_mk); · with_reducible refine Mm.rng1 (by (try simp only [List.length_map]); omega))
    | ((with_reducible apply Mm.ex_mk); · with_reducible refine Mm.rng2 (by (try simp only [List.length_map]); omega))
    | ((with_reducible apply Mm.ex_mk); · rfl)
    | ((with_reducible refine Mm.br_true ?_ ?_); · rfl)
    | ((with_reducible refine Mm.br_false ?_ ?_); · rfl)
    | ((with_reducible refine Mm.w_mod ?_ ?_); · walk_at "wp side")
    | ((with_reducible refine Mm.w_div ?_ ?_ ?_); (· walk_at "wp side"); (· (first | decide | assumption)))
    | ((with_reducible refine Mm.w_mul ?_ ?_); · exact .inl (.inr (by decide)))
    | ((with_reducible refine Mm.w_mul ?_ ?_); · exact .inl (.inl (by decide)))
    | ((with_reducible refine Mm.w_mul ?_ ?_); · exact .inl (.inl (by omega)))
    | ((with_reducible refine Mm.w_mul ?_ ?_); · exact .inl (.inr (by omega)))
    | ((with_reducible refine Mm.w_pow ?_ ?_); · decide)
    | ((with_reducible refine Mm.w_lstV ?_ ?_); · (simp only [List.length_cons, List.length_nil]; decide))
    | ((with_reducible refine Mm.w_tupV ?_ ?_); · (simp only [List.length_cons, List.length_nil]; decide))
    | ((with_reducible apply Mm.w_idxL); (· walk_at "sto"); (· first | exact Mm.atI0 | exact Mm.atI1 | exact Mm.atI2 | exact Mm.atIl | rfl))
    | ((with_reducible apply Mm.w_idxC); (· walk_at "sto"); (· rfl))
    | ((with_reducible apply Mm.w_idxT); · first | exact Mm.atI0 | exact Mm.atI1 | exact Mm.atI2 | rfl)
    | ((with_reducible apply Mm.w_lenL); · walk_at "sto")
    | ((with_reducible apply Mm.w_lenC); · walk_at "sto")
    | ((with_reducible apply Mm.w_lenK); · walk_at "sto")
    | ((with_reducible apply Mm.w_tupL); · walk_at "sto")
    | ((with_reducible apply Mm.w_lstL); · walk_at "sto")
    | ((with_reducible apply Mm.w_cutL); · walk_at "sto")
    | ((with_reducible apply Mm.w_revL); · walk_at "sto")
    | ((with_reducible apply Mm.w_truL); · walk_at "sto")
    | ((with_reducible apply Mm.ex_mk); · exact Mm.it_lst (by walk_at "sto"))
    | ((with_reducible apply Mm.ex_mk); · exact Mm.it_con (by walk_at "sto"))
    | ((with_reducible apply Mm.ex_mk); · exact Mm.it_en2L (by walk_at "sto"))
    | ((with_reducible apply Mm.ex_mk); · exact Mm.it_en2C (by walk_at "sto"))
    | ((with_reducible apply Mm.ex_mk); · exact Mm.set_lst (by walk_at "sto") rfl)
    | ((with_reducible refine And.intro ?_ ?_); · exact Mm.ty_lst (by walk_at "sto"))
    | fail)
local macro_rules
  | `(tactic| walk_at "wq") => `(tactic| repeat' (first | (walk_at "wp1"; try dsimp only [List.set_cons_zero, List.set_cons_succ, Bool.not_true, Bool.not_false]) | (walk_at "wp2"; try dsimp only [Bool.not_true, Bool.not_false]) | fail))
local macro_rules
  | `(tactic| walk_at "wp") => `(tactic| repeat' (first | (with_reducible refine Mm.v_if ?_) | (walk_at "wp1"; try dsimp only [List.set_cons_zero, List.set_cons_succ, Bool.not_true, Bool.not_false]) | (walk_at "wp2"; try dsimp only [Bool.not_true, Bool.not_false]) | fail))
local macro_rules
  | `(tactic| walk_at "def") => `(tactic| (refine Mm.w_def rfl ?_; simp only [List.map_cons, List.map_nil, List.cons_append, List.nil_append, List.replicate, Nat.reduceSub, List.replicate_succ, List.replicate_zero]))
theorem maxI_of : ∀ {l : List Int} {M : Int}, M ∈ l → (∀ y ∈ l, y ≤ M) → maxI l = some M
  | [], _, h, _ => by cases h
  | [a], M, h, _ => by rw [List.mem_singleton.1 h]; rfl
  | a :: b :: r, M, h, hM => by
    have ex : ∃ x, maxI (b :: r) = some x := by
      have : ∀ (l : List Int) (b : Int), ∃ x, maxI (b :: l) = some x := by
        intro l
        induction l with
        | nil => intro b; exact ⟨b, rfl⟩
        | cons c l ih => intro b; obtain ⟨x, hx⟩ := ih c; exact ⟨if x > b then x else b, by simp only [maxI, hx, Option.map_some]⟩
      exact this r b
    obtain ⟨x, hx⟩ := ex
    have e : maxI (a :: b :: r) = some (if x > a then x else a) := by simp only [maxI, hx, Option.map_some]
    rw [e, ← maxI_uniq e h hM]
theorem intsOf_ints : ∀ l : List Int, intsOf (l.map .int) = some l
  | [] => rfl
  | i :: l => by simp only [List.map_cons, intsOf, intsOf_ints l, Option.map_some]
def abv (c : Nat) (p : Int × Int) : Bool := decide (p.1 ≥ (c : Int))
theorem offS_eq {f g : Int → Bool} {B : List Int} (hne : ∀ b, f b = true → g b = false) : ∀ n, n ≤ B.length → offS f g (B.take n).reverse = (((winds f (B.take n)).filter (abv (mc g B n))).reverse.map fun p => leaveO p.2 (B.take p.1.toNat)) ++ [arriveR (B.take (mc g B n))]
  | 0, _ => by simp [offS, winds_nil, mc]
  | n + 1, hn => by
    have hb : B[n]? = some B[n] := List.getElem?_eq_getElem (by omega)
    generalize B[n] = b at hb
    have ih := offS_eq (B := B) hne n (by omega)
    rw [winds_snoc hb, take_snoc hb, List.reverse_append, List.reverse_singleton, List.singleton_append, offS, List.reverse_reverse, ih]
    have hmc : mc g B (n + 1) = if g b = true then n + 1 else mc g B n := by rw [mc, getD_of hb]
    have hle := mc_le g B n
    by_cases hg : g b = true
    · have hf : f b = false := by
        cases q : f b with
        | false => rfl
        | true => rw [hne b q] at hg; cases hg
      rw [hmc, if_pos hg, if_pos hg, hf]
      have : (winds f (B.take n) ++ if false = true then [((n : Int), b)] else []).filter (abv (n + 1)) = [] := by
        rw [if_neg (by decide), List.append_nil]
        refine List.filter_eq_nil_iff.2 fun p hp => ?_
        obtain ⟨j, hj⟩ := List.getElem?_of_mem hp
        obtain ⟨pos, h1, h2, _⟩ := winds_cut hj
        rw [List.length_take] at h2
        simp only [abv, decide_eq_true_eq]; omega
      rw [this, take_snoc hb]; rfl
    · rw [hmc, if_neg hg, if_neg hg]
      by_cases hf : f b = true
      · rw [if_pos hf, if_pos hf, List.filter_append]
        have : [((n : Int), b)].filter (abv (mc g B n)) = [((n : Int), b)] := by
          simp [abv]; omega
        rw [this, List.reverse_append]
        simp
      · rw [if_neg hf, if_neg hf, List.append_nil]
theorem loff_ok {S : Sto} {d m : Nat} {kvs : List (Key × MV)} {B : List Int} (T : Thg S d kvs m) (hB : ∀ b ∈ B, b ∈ k1 m) (lB : B.length < 900) :
    Ret (m__law_off_steps [tuI B, .ref d] S) fun x S' => (∃ k, x = .ref k ∧ S.n ≤ k ∧ k < S'.n ∧ S'.g k = .lst (offS (wnd kvs) (mrk kvs) B.reverse)) ∧ Ext S S' := by
  have sz : (2000 : Nat) ≤ sizeLine := by decide
  have F := T.frs hB
  have wl := winds_len (f := wnd kvs) (l := B)
  have cl := mc_le (mrk kvs) B B.length
  have hne : ∀ b, wnd kvs b = true → mrk kvs b = false := fun b h => by
    have h := of_decide_eq_true h
    rw [mrk, h]; decide +kernel
  unfold m__law_off_steps
  walk_at "def"
  unfold b__law_off_steps tuI
  walk_at "wq"
  refine w_lc0 (fun i acc S' => S.add (.lst [.int 0]) = S' ∧ ∃ L : List Int, acc = L.map .int ∧ L.length ≤ i ∧ (∀ y ∈ L, y ≤ (mc (mrk kvs) B i : Nat)) ∧ (mc (mrk kvs) B i = 0 ∨ ((mc (mrk kvs) B i : Nat) : Int) ∈ L)) ⟨rfl, [], rfl, Nat.le_refl _, fun y h => (by cases h), .inl rfl⟩ ?_ ?_
  · rintro i x acc S' hx ⟨rfl, L, rfl, hL, h1, h2⟩
    obtain ⟨y, hy, rfl⟩ := prI_get hx
    obtain ⟨b, hb, rfl, hm⟩ := get_int hy
    obtain ⟨w, r, hv⟩ := F b hm
    have hi : i < B.length := (List.getElem?_eq_some_iff.1 hb).1
    have hle := mc_le (mrk kvs) B i
    have e2 : mc (mrk kvs) B (i + 1) = if w = "mark" then i + 1 else mc (mrk kvs) B i := by
      rw [mc, getD_of hb, mrk, kdw_eq hv]
      simp only [decide_eq_true_eq]
    refine ⟨ck_n, _, rfl, ?_⟩
    walk_at "wq"
    refine w_idxK ((add_ne (Nat.ne_of_lt T.n)).trans T.g) rfl hv ?_
    walk_at "wq"
    refine br_dec (fun hw => ?_) (fun hw => ?_)
    · rw [e2, if_pos hw]
      walk_at "wq"
      refine ⟨by rw [List.length_map]; omega, rfl, L ++ [(i : Int) + 1], by rw [List.map_append]; rfl, by simp; omega, fun y hy => ?_, .inr (by simp)⟩
      rcases List.mem_append.1 hy with hy | hy
      · have := h1 y hy; omega
      · rw [List.mem_singleton.1 hy]; omega
    · rw [e2, if_neg hw]
      exact ⟨rfl, L, rfl, by omega, h1, h2⟩
  · rintro acc S' ⟨rfl, L, rfl, hL, h1, h2⟩
    rw [prI_len, List.length_map] at h1 h2 hL
    refine ⟨ck_n, ?_⟩
    walk_at "wq"
    refine w_addl ((add_ne (Nat.ne_of_lt (Nat.lt_succ_self _))).trans add_same) add_same (by simp only [List.length_cons, List.length_nil, List.length_map]; omega) ?_
    walk_at "wq"
    refine w_maxL (ns := 0 :: L) (m := (mc (mrk kvs) B B.length : Nat)) (by rw [add_same]; rfl) ?_ (maxI_of ?_ ?_) ?_
    · exact intsOf_ints (0 :: L)
    · rcases h2 with h2 | h2
      · rw [h2]; exact List.mem_cons_self
      · exact List.mem_cons_of_mem _ h2
    · intro y hy
      rcases List.mem_cons.1 hy with rfl | hy
      · omega
      · exact h1 y hy
    generalize hX : ((S.add (.lst [.int 0])).add _).add _ = X
    have EX : Ext S X := by rw [← hX]; exact Ext.refl.add.add.add
    clear hX
    have TX := T.ext EX.h (h := S.n) (Nat.ne_of_lt T.n)
    walk_at "wq"
    refine (lwinds_ok TX.g TX.n F (by omega)).imp ?_
    rintro _ S1 ⟨rfl, n1, g1, E1⟩
    walk_at "wq"
    generalize hc : mc (mrk kvs) B B.length = c at *
    have hoff := offS_eq (B := B) hne B.length (Nat.le_refl _)
    rw [List.take_length, hc] at hoff
    generalize hW : winds (wnd kvs) B = W at *
    refine w_lc0 (fun i acc S' => S1 = S' ∧ acc = ((W.take i).filter (abv c)).map pr) ⟨rfl, rfl⟩ ?_ ?_
    · rintro i x acc S' hx ⟨rfl, rfl⟩
      obtain ⟨p, hp, rfl⟩ := get_map2 hx
      have hl := List.length_filter_le (abv c) (W.take i)
      rw [List.length_take] at hl
      refine ⟨ck_l g1, _, rfl, ?_⟩
      rw [take_snoc hp, List.filter_append]
      walk_at "wq"
      refine br_dec (fun hq => ?_) (fun hq => ?_)
      · walk_at "wq"
        refine ⟨by rw [List.length_map]; omega, rfl, ?_⟩
        rw [show [p].filter (abv c) = [p] by simp [abv]; omega, List.map_append]; rfl
      · refine ⟨rfl, ?_⟩
        rw [show [p].filter (abv c) = [] by simp [abv]; omega, List.append_nil]
    · rintro acc S' ⟨rfl, rfl⟩
      rw [List.length_map, List.take_length]
      refine ⟨ck_l g1, ?_⟩
      have hl := List.length_filter_le (abv c) W
      have hmem : ∀ p ∈ W.filter (abv c), 0 ≤ p.1 := fun p hp => by
        have hp := (List.mem_filter.1 hp).1
        rw [← hW] at hp
        obtain ⟨j, hj⟩ := List.getElem?_of_mem hp
        obtain ⟨pos, q1, _⟩ := winds_cut hj
        omega
      generalize W.filter (abv c) = V at *
      walk_at "wq"
      rw [← List.map_reverse]
      generalize hY : (S1.add _).add _ = Y
      have EY : Ext S Y := by rw [← hY]; exact (EX.trans E1).add.add
      have gY : Y.g (S1.n + 1) = .lst (V.reverse.map pr) := by rw [← hY]; exact add_same
      clear hY
      refine w_lc0 (fun i acc S' => Y = S' ∧ acc = (V.reverse.take i).map fun p => leaveO p.2 (B.take p.1.toNat)) ⟨rfl, rfl⟩ ?_ ?_
      · rintro i x acc S' hx ⟨rfl, rfl⟩
        obtain ⟨p, hp, rfl⟩ := get_map2 hx
        have h0 := hmem p (List.mem_reverse.1 (List.mem_of_getElem? hp))
        refine ⟨ck_l gY, _, rfl, ?_⟩
        walk_at "wq"
        rw [cutM_to (by omega)]
        walk_at "wq"
        refine ⟨by rw [List.length_map, List.length_take, List.length_reverse]; omega, rfl, ?_⟩
        rw [take_snoc hp, List.map_append, List.map_singleton]
        simp only [leaveO, tuI, List.map_take]
      · rintro acc S' ⟨rfl, rfl⟩
        rw [List.length_map, List.take_length]
        refine ⟨ck_l gY, ?_⟩
        walk_at "wq"
        rw [cutM_to (by omega), Int.toNat_natCast]
        walk_at "wq"
        refine w_addl ((add_ne (Nat.ne_of_lt (Nat.lt_succ_self _))).trans add_same) add_same (by simp only [List.length_map, List.length_reverse, List.length_cons, List.length_nil]; omega) ?_
        walk_at "wq"
        refine ⟨⟨_, rfl, by have := EY.1; show S.n ≤ Y.n + 1 + 1; omega, Nat.lt_succ_self _, add_same.trans ?_⟩, EY.add.add.add⟩
        rw [hoff]
        simp only [arriveR, tuI, List.map_take]
end Law
end

section
namespace Law
open PySem L2 Mm
/-! the step of the pure proofs -/
local macro_rules
  | `(tactic| walk_at "wp side") => `(tactic| first | assumption | omega | decide)
local macro_rules
  | `(tactic| walk_at "wp1") => `(tactic| with_reducible first
    | refine Mm.v_seq ?_ | refine Mm.v_nx ?_ | refine Mm.v_asg ?_ | refine Mm.v_asgP ?_ | refine Mm.v_ret ?_ | refine Mm.v_retN ?_ | refine Mm.v_drop ?_ | refine Mm.v_set ?_ | refine Mm.v_aug ?_ | refine Mm.v_for ?_ | refine Mm.v_brk ?_ | refine Mm.v_ct ?_
    | refine Mm.w_con ?_ | refine Mm.w_op2 ?_ | refine Mm.w_op1 ?_ | refine Mm.w_opL ?_ | refine Mm.w_cons ?_ | refine Mm.w_nil ?_
    | refine Mm.w_add ?_ | refine Mm.w_sub ?_ | refine Mm.w_neg ?_ | refine Mm.w_lt ?_ | refine Mm.w_le ?_ | refine Mm.w_gt ?_ | refine Mm.w_ge ?_ | refine Mm.w_eqi ?_ | refine Mm.w_nei ?_ | refine Mm.w_eqs ?_ | refine Mm.w_nes ?_ | refine Mm.w_int ?_ | refine Mm.w_abs ?_ | refine Mm.w_isN ?_ | refine Mm.w_notN ?_ | refine Mm.w_min ?_ | refine Mm.w_max ?_
    | refine Mm.w_tru ?_ | refine Mm.w_blM ?_ | refine Mm.w_andB ?_ | refine Mm.w_orB ?_ | refine Mm.w_notB ?_ | refine Mm.w_ifV ?_ | refine Mm.w_andV ?_ | refine Mm.w_orV ?_ | refine Mm.w_notV ?_ | refine Mm.w_truB ?_ | refine Mm.w_truI ?_ | refine Mm.w_truN ?_ | refine Mm.w_truT ?_
    | refine Mm.w_dNewK ?_ | refine Mm.w_dNewT ?_ | refine Mm.w_iter ?_ | refine Mm.w_itmM ?_ | refine Mm.w_enm ?_ | refine Mm.w_enm2 ?_ | refine Mm.w_zip ?_ | refine Mm.w_rev ?_ | refine Mm.w_bm ?_ | refine Mm.w_lc ?_ | refine Mm.w_yes ?_ | refine Mm.br_t ?_ | refine Mm.br_f ?_ | refine Mm.w_slc ?_ | refine Mm.w_pno ?_ | refine Mm.w_pso ?_ | refine Mm.w_lenT ?_ | refine Mm.w_tupT ?_ | refine Mm.w_lstT ?_ | refine Mm.w_cutT ?_)
local macro_rules
  | `(tactic| walk_at "sto") => `(tactic| first
    | with_reducible assumption
    | with_reducible exact Mm.put_same
    | with_reducible exact Mm.add_same
    | (with_reducible refine (Mm.put_ne (by first | assumption | exact Ne.symm (by assumption) | ((try dsimp only [Mm.Sto.add, Mm.Sto.put]); omega))).trans ?_; walk_at "sto")
    | (with_reducible refine (Mm.add_ne (by first | assumption | exact Ne.symm (by assumption) | ((try dsimp only [Mm.Sto.add, Mm.Sto.put]); omega))).trans ?_; walk_at "sto")
    | fail)
local macro_rules
  | `(tactic| walk_at "wp2") => `(tactic| first
    | ((with_reducible apply Mm.w_var); · rfl)
    | ((with_reducible apply Mm.ex_mk); · with_reducible refine Mm.rng1 (by (try simp only [List.length_map]); omega))
    | ((with_reducible apply Mm.ex_mk); · with_reducible refine Mm.rng2 (by (try simp only [List.length_map]); omega))
    | ((with_reducible apply Mm.ex_mk); · rfl)
    | ((with_reducible refine Mm.br_true ?_ ?_); · rfl)
    | ((with_reducible refine Mm.br_false ?_ ?_); · rfl)
    | ((with_reducible refine Mm.w_mod ?_ ?_); · walk_at "wp side")
    | ((with_reducible refine Mm.w_div ?_ ?_ ?_); (· walk_at "wp side"); (· (first | decide | assumption)))
    | ((with_reducible refine Mm.w_mul ?_ ?_); · exact .inl (.inr (by decide)))
    | ((with_reducible refine Mm.w_mul ?_ ?_); · exact .inl (.inl (by decide)))
    | ((with_reducible refine Mm.w_mul ?_ ?_); · exact .inl (.inl (by omega)))
    | ((with_reducible refine Mm.w_mul ?_ ?_); · exact .inl (.inr (by omega)))
    | ((with_reducible refine Mm.w_pow ?_ ?_); · decide)
    | ((with_reducible refine Mm.w_lstV ?_ ?_); · (simp only [List.length_cons, List.length_nil]; decide))
    | ((with_reducible refine Mm.w_tupV ?_ ?_); · (simp only [List.length_cons, List.length_nil]; decide))
    | ((with_reducible apply Mm.w_idxL); (· walk_at "sto"); (· first | exact Mm.atI0 | exact Mm.atI1 | exact Mm.atI2 | exact Mm.atIl | rfl))
    | ((with_reducible apply Mm.w_idxC); (· walk_at "sto"); (· rfl))
    | ((with_reducible apply Mm.w_idxT); · first | exact Mm.atI0 | exact Mm.atI1 | exact Mm.atI2 | rfl)
    | ((with_reducible apply Mm.w_lenL); · walk_at "sto")
    | ((with_reducible apply Mm.w_lenC); · walk_at "sto")
    | ((with_reducible apply Mm.w_lenK); · walk_at "sto")
    | ((with_reducible apply Mm.w_tupL); · walk_at "sto")
    | ((with_reducible apply Mm.w_lstL); · walk_at "sto")
    | ((with_reducible apply Mm.w_cutL); · walk_at "sto")
    | ((with_reducible apply Mm.w_revL); · walk_at "sto")
    | ((with_reducible apply Mm.w_truL); · walk_at "sto")
    | ((with_reducible apply Mm.ex_mk); · exact Mm.it_lst (by walk_at "sto"))
    | ((with_reducible apply Mm.ex_mk); · exact Mm.it_con (by walk_at "sto"))
    | ((with_reducible apply Mm.ex_mk); · exact Mm.it_en2L (by walk_at "sto"))
    | ((with_reducible apply Mm.ex_mk); · exact Mm.it_en2C (by walk_at "sto"))
    | ((with_reducible apply Mm.ex_mk); · exact Mm.set_lst (by walk_at "sto") rfl)
    | ((with_reducible refine And.intro ?_ ?_); · exact Mm.ty_lst (by walk_at "sto"))
    | fail)
local macro_rules
  | `(tactic| walk_at "wq") => `(tactic| repeat' (first | (walk_at "wp1"; try dsimp only [List.set_cons_zero, List.set_cons_succ, Bool.not_true, Bool.not_false]) | (walk_at "wp2"; try dsimp only [Bool.not_true, Bool.not_false]) | fail))
local macro_rules
  | `(tactic| walk_at "wp") => `(tactic| repeat' (first | (with_reducible refine Mm.v_if ?_) | (walk_at "wp1"; try dsimp only [List.set_cons_zero, List.set_cons_succ, Bool.not_true, Bool.not_false]) | (walk_at "wp2"; try dsimp only [Bool.not_true, Bool.not_false]) | fail))
local macro_rules
  | `(tactic| walk_at "def") => `(tactic| (refine Mm.w_def rfl ?_; simp only [List.map_cons, List.map_nil, List.cons_append, List.nil_append, List.replicate, Nat.reduceSub, List.replicate_succ, List.replicate_zero]))
theorem sm_tuI' {m n : Nat} {l : List Int} (hm : m < 60) (h : ∀ b ∈ l, b ∈ k1 m) (hl : l.length ≤ n) : Fl (tuI l) (.tuple (l.map .int)) ∧ Smd 1 (n * 21 + 3) (.tuple (l.map .int)) := by
  refine ⟨fl_tup (fll_ints l), sm_tup (D := 0) (c := 19) (n := n) (fun d hd => ?_) (by rw [List.length_map]; exact hl)⟩
  obtain ⟨b, hb, rfl⟩ := List.mem_map.1 hd
  have := k1_mem (h b hb)
  exact sm_int (by omega)
/-- a step of a short row has a short repr -/
def Sml (x : MV) : Prop := ∃ d, Fl x d ∧ Smd 3 20000 d
theorem sml_four {w : Str} {x y z : MV} {dx dy dz : PyData} (hw : PyData.strOk w = true) (hl : w.length ≤ 10) (hx : Fl x dx) (hy : Fl y dy) (hz : Fl z dz) (sx : Smd 2 4500 dx) (sy : Smd 2 4500 dy) (sz : Smd 2 4500 dz) : Sml (.tup [.str w, x, y, z]) := by
  refine ⟨_, fl_tup (fll_cons fl_str (fll_cons hx (fll_cons hy (fll_cons hz fll_nil)))), (sm_tup (D := 2) (c := 4500) (n := 4) ?_ (Nat.le_refl _)).mono⟩
  intro e he
  simp only [List.mem_cons, List.not_mem_nil, or_false] at he
  rcases he with rfl | rfl | rfl | rfl
  · exact (sm_str (m := 10) hw hl).mono
  · exact sx
  · exact sy
  · exact sz
theorem sml_arrive {m : Nat} {P : List Int} (hm : m < 60) (h : ∀ b ∈ P, b ∈ k1 m) (hl : P.length ≤ 200) : Sml (arriveR P) := by
  obtain ⟨h1, h2⟩ := sm_tuI' hm h hl
  exact sml_four (by decide +kernel) (by decide +kernel) fl_non h1 fl_non sm_non.mono h2.mono sm_non.mono
theorem textFrom_le : ∀ (ts : List Str) (k : Nat) (acc : Str), (textFrom k acc ts).length ≤ acc.length + piled ts
  | [], k, acc => by simp [textFrom, piled]
  | t :: r, k, acc => by
    have ih := textFrom_le r (k + 1) (acc ++ (if k > 0 then ", " else "" : String) ++ t)
    have e : ((((if k > 0 then ", " else "" : String) : Str))).length ≤ 2 := by split <;> decide
    rw [strLen_append, strLen_append] at ih
    show (textFrom (k + 1) (acc ++ (if k > 0 then ", " else "" : String) ++ t) r).length ≤ _
    rw [piled_cons]
    omega
theorem rep_steps {L : List MV} (h : ∀ x ∈ L, Sml x) (hl : L.length ≤ 500) : ∃ D, (∀ (S : Sto) (k : Nat), S.g k = .lst L → rD S (.ref k) = some D) ∧ shOk D := by
  obtain ⟨ds, h1, h2, h3⟩ := fll_of h
  refine ⟨.list ds, fun S k hk => by simp only [rD, hk]; exact toD_lst hk h1, ?_⟩
  obtain ⟨a, b, c⟩ := sm_all h3
  have j := piledLe _ _ c
  rw [shownAll_len, h2] at j
  refine ⟨by simpa [PyData.showable] using a, by simp only [PyData.depth]; omega, ?_⟩
  have t := textFrom_le (PyData.shownAll ds) 0 "["
  show (listText (PyData.shownAll ds)).length ≤ _
  unfold listText
  rw [strLen_append]
  have e1 : (("[" : Str)).length = 1 := rfl
  have e2 : (("]" : Str)).length = 1 := rfl
  have e3 : L.length * (20000 + 2) ≤ 500 * (20000 + 2) := Nat.mul_le_mul_right _ hl
  have sz : (16000000 : Nat) ≤ sizeLine := by decide
  omega
end Law
end

section
namespace Law
open PySem L2 Mm
/-! the step of the pure proofs -/
local macro_rules
  | `(tactic| walk_at "wp side") => `(tactic| first | assumption | omega | decide)
local macro_rules
  | `(tactic| walk_at "wp1") => `(tactic| with_reducible first
    | refine Mm.v_seq ?_ | refine Mm.v_nx ?_ | refine Mm.v_asg ?_ | refine Mm.v_asgP ?_ | refine Mm.v_ret ?_ | refine Mm.v_retN ?_ | refine Mm.v_drop ?_ | refine Mm.v_set ?_ | refine Mm.v_aug ?_ | refine Mm.v_for ?_ | refine Mm.v_brk ?_ | refine Mm.v_ct ?_
    | refine Mm.w_con ?_ | refine Mm.w_op2 ?_ | refine Mm.w_op1 ?_ | refine Mm.w_opL ?_ | refine Mm.w_cons ?_ | refine Mm.w_nil ?_
    | refine Mm.w_add ?_ | refine Mm.w_sub ?_ | refine Mm.w_neg ?_ | refine Mm.w_lt ?_ | refine Mm.w_le ?_ | refine Mm.w_gt ?_ | refine Mm.w_ge ?_ | refine Mm.w_eqi ?_ | refine Mm.w_nei ?_ | refine Mm.w_eqs ?_ | refine Mm.w_nes ?_ | refine Mm.w_int ?_ | refine Mm.w_abs ?_ | refine Mm.w_isN ?_ | refine Mm.w_notN ?_ | refine Mm.w_min ?_ | refine Mm.w_max ?_
    | refine Mm.w_tru ?_ | refine Mm.w_blM ?_ | refine Mm.w_andB ?_ | refine Mm.w_orB ?_ | refine Mm.w_notB ?_ | refine Mm.w_ifV ?_ | refine Mm.w_andV ?_ | refine Mm.w_orV ?_ | refine Mm.w_notV ?_ | refine Mm.w_truB ?_ | refine Mm.w_truI ?_ | refine Mm.w_truN ?_ | refine Mm.w_truT ?_
    | refine Mm.w_dNewK ?_ | refine Mm.w_dNewT ?_ | refine Mm.w_iter ?_ | refine Mm.w_itmM ?_ | refine Mm.w_enm ?_ | refine Mm.w_enm2 ?_ | refine Mm.w_zip ?_ | refine Mm.w_rev ?_ | refine Mm.w_bm ?_ | refine Mm.w_lc ?_ | refine Mm.w_yes ?_ | refine Mm.br_t ?_ | refine Mm.br_f ?_ | refine Mm.w_slc ?_ | refine Mm.w_pno ?_ | refine Mm.w_pso ?_ | refine Mm.w_lenT ?_ | refine Mm.w_tupT ?_ | refine Mm.w_lstT ?_ | refine Mm.w_cutT ?_)
local macro_rules
  | `(tactic| walk_at "sto") => `(tactic| first
    | with_reducible assumption
    | with_reducible exact Mm.put_same
    | with_reducible exact Mm.add_same
    | (with_reducible refine (Mm.put_ne (by first | assumption | exact Ne.symm (by assumption) | ((try dsimp only [Mm.Sto.add, Mm.Sto.put]); omega))).trans ?_; walk_at "sto")
    | (with_reducible refine (Mm.add_ne (by first | assumption | exact Ne.symm (by assumption) | ((try dsimp only [Mm.Sto.add, Mm.Sto.put]); omega))).trans ?_; walk_at "sto")
    | fail)
local macro_rules
  | `(tactic| walk_at "wp2") => `(tactic| first
    | ((with_reducible apply Mm.w_var); · rfl)
    | ((with_reducible apply Mm.ex_mk); · with_reducible refine Mm.rng1 (by (try simp only [List.length_map]); omega))
    | ((with_reducible apply Mm.ex_mk); · with_reducible refine Mm.rng2 (by (try simp only [List.length_map]); omega))
    | ((with_reducible apply Mm.ex_mk); · rfl)
    | ((with_reducible refine Mm.br_true ?_ ?_); · rfl)
    | ((with_reducible refine Mm.br_false ?_ ?_); · rfl)
    | ((with_reducible refine Mm.w_mod ?_ ?_); · walk_at "wp side")
    | ((with_reducible refine Mm.w_div ?_ ?_ ?_); (· walk_at "wp side"); (· (first | decide | assumption)))
    | ((with_reducible refine Mm.w_mul ?_ ?_); · exact .inl (.inr (by decide)))
    | ((with_reducible refine Mm.w_mul ?_ ?_); · exact .inl (.inl (by decide)))
    | ((with_reducible refine Mm.w_mul ?_ ?_); · exact .inl (.inl (by omega)))
    | ((with_reducible refine Mm.w_mul ?_ ?_); · exact .inl (.inr (by omega)))
    | ((with_reducible refine Mm.w_pow ?_ ?_); · decide)
    | ((with_reducible refine Mm.w_lstV ?_ ?_); · (simp only [List.length_cons, List.length_nil]; decide))
    | ((with_reducible refine Mm.w_tupV ?_ ?_); · (simp only [List.length_cons, List.length_nil]; decide))
    | ((with_reducible apply Mm.w_idxL); (· walk_at "sto"); (· first | exact Mm.atI0 | exact Mm.atI1 | exact Mm.atI2 | exact Mm.atIl | rfl))
    | ((with_reducible apply Mm.w_idxC); (· walk_at "sto"); (· rfl))
    | ((with_reducible apply Mm.w_idxT); · first | exact Mm.atI0 | exact Mm.atI1 | exact Mm.atI2 | rfl)
    | ((with_reducible apply Mm.w_lenL); · walk_at "sto")
    | ((with_reducible apply Mm.w_lenC); · walk_at "sto")
    | ((with_reducible apply Mm.w_lenK); · walk_at "sto")
    | ((with_reducible apply Mm.w_tupL); · walk_at "sto")
    | ((with_reducible apply Mm.w_lstL); · walk_at "sto")
    | ((with_reducible apply Mm.w_cutL); · walk_at "sto")
    | ((with_reducible apply Mm.w_revL); · walk_at "sto")
    | ((with_reducible apply Mm.w_truL); · walk_at "sto")
    | ((with_reducible apply Mm.ex_mk); · exact Mm.it_lst (by walk_at "sto"))
    | ((with_reducible apply Mm.ex_mk); · exact Mm.it_con (by walk_at "sto"))
    | ((with_reducible apply Mm.ex_mk); · exact Mm.it_en2L (by walk_at "sto"))
    | ((with_reducible apply Mm.ex_mk); · exact Mm.it_en2C (by walk_at "sto"))
    | ((with_reducible apply Mm.ex_mk); · exact Mm.set_lst (by walk_at "sto") rfl)
    | ((with_reducible refine And.intro ?_ ?_); · exact Mm.ty_lst (by walk_at "sto"))
    | fail)
local macro_rules
  | `(tactic| walk_at "wq") => `(tactic| repeat' (first | (walk_at "wp1"; try dsimp only [List.set_cons_zero, List.set_cons_succ, Bool.not_true, Bool.not_false]) | (walk_at "wp2"; try dsimp only [Bool.not_true, Bool.not_false]) | fail))
local macro_rules
  | `(tactic| walk_at "wp") => `(tactic| repeat' (first | (with_reducible refine Mm.v_if ?_) | (walk_at "wp1"; try dsimp only [List.set_cons_zero, List.set_cons_succ, Bool.not_true, Bool.not_false]) | (walk_at "wp2"; try dsimp only [Bool.not_true, Bool.not_false]) | fail))
local macro_rules
  | `(tactic| walk_at "def") => `(tactic| (refine Mm.w_def rfl ?_; simp only [List.map_cons, List.map_nil, List.cons_append, List.nil_append, List.replicate, Nat.reduceSub, List.replicate_succ, List.replicate_zero]))
theorem sml_on {m : Nat} {b : Int} {P F : List Int} (hm : m < 60) (hb : b ∈ k1 m) (hP : ∀ b ∈ P, b ∈ k1 m) (hF : ∀ b ∈ F, b ∈ k1 m) (lP : P.length ≤ 200) (lF : F.length ≤ 100) : Sml (onR b P F) := by
  have := k1_mem hb
  obtain ⟨h1, h2⟩ := sm_tuI' hm hP lP
  obtain ⟨h3, h4⟩ := sm_tuI' hm hF lF
  refine sml_four (by decide +kernel) (by decide +kernel) fl_int h1 (fl_tup (fll_cons fl_str (fll_cons h3 fll_nil))) (sm_int (by omega)).mono h2.mono (sm_tup (D := 1) (c := 2103) (n := 2) ?_ (Nat.le_refl _)).mono
  intro e he
  simp only [List.mem_cons, List.not_mem_nil, or_false] at he
  rcases he with rfl | rfl
  · exact (sm_str (m := 2) (by decide +kernel) (by decide +kernel)).mono
  · exact h4.mono
theorem sml_off {m : Nat} {b : Int} {P : List Int} (hm : m < 60) (hb : b ∈ k1 m) (hP : ∀ b ∈ P, b ∈ k1 m) (lP : P.length ≤ 200) : Sml (leaveO b P) := by
  have := k1_mem hb
  obtain ⟨h1, h2⟩ := sm_tuI' hm hP lP
  refine sml_four (by decide +kernel) (by decide +kernel) fl_int h1 (fl_tup (fll_cons fl_str fll_nil)) (sm_int (by omega)).mono h2.mono (sm_tup (D := 0) (c := 42) (n := 1) ?_ (Nat.le_refl _)).mono
  intro e he
  rw [List.mem_singleton.1 he]
  exact (sm_str (m := 3) (by decide +kernel) (by decide +kernel)).mono
theorem onS_sml {f : Int → Bool} {m : Nat} (hm : m < 60) : ∀ (fr below : List Int), (∀ b ∈ fr, b ∈ k1 m) → (∀ b ∈ below, b ∈ k1 m) → below.length + fr.length ≤ 200 → fr.length ≤ 100 → (∀ x ∈ onS f below fr, Sml x) ∧ (onS f below fr).length ≤ fr.length + 1
  | [], below, _, h2, h3, _ => ⟨fun x hx => by rw [List.mem_singleton.1 hx]; exact sml_arrive hm h2 (by simpa using h3), by simp [onS]⟩
  | b :: r, below, h1, h2, h3, h4 => by
    have hb := h1 b List.mem_cons_self
    obtain ⟨i1, i2⟩ := onS_sml (f := f) hm r (below ++ [b]) (fun z hz => h1 z (List.mem_cons_of_mem _ hz)) (fun z hz => by
      rcases List.mem_append.1 hz with hz | hz
      · exact h2 z hz
      · rw [List.mem_singleton.1 hz]; exact hb) (by simp at h3 ⊢; omega) (by simp at h4; omega)
    simp only [onS]
    split
    · refine ⟨fun x hx => ?_, by simp; omega⟩
      rcases List.mem_cons.1 hx with rfl | hx
      · exact sml_on hm hb h2 h1 (by simp at h3; omega) h4
      · exact i1 x hx
    · exact ⟨i1, by simp; omega⟩
theorem offS_sml {f g : Int → Bool} {m : Nat} (hm : m < 60) : ∀ (R : List Int), (∀ b ∈ R, b ∈ k1 m) → R.length ≤ 200 → (∀ x ∈ offS f g R, Sml x) ∧ (offS f g R).length ≤ R.length + 1
  | [], _, _ => ⟨fun x hx => by rw [List.mem_singleton.1 hx]; exact sml_arrive hm (fun b h => by cases h) (by simp), by simp [offS]⟩
  | b :: r, h, hl => by
    have hb := h b List.mem_cons_self
    have hr : ∀ z ∈ r, z ∈ k1 m := fun z hz => h z (List.mem_cons_of_mem _ hz)
    obtain ⟨i1, i2⟩ := offS_sml (f := f) (g := g) hm r hr (by simp at hl; omega)
    simp only [offS]
    split
    · refine ⟨fun x hx => ?_, by simp⟩
      rw [List.mem_singleton.1 hx]
      refine sml_arrive hm (fun z hz => ?_) (by simp at hl ⊢; omega)
      rcases List.mem_append.1 hz with hz | hz
      · exact hr z (List.mem_reverse.1 hz)
      · rw [List.mem_singleton.1 hz]; exact hb
    · split
      · refine ⟨fun x hx => ?_, by simp; omega⟩
        rcases List.mem_cons.1 hx with rfl | hx
        · exact sml_off hm hb (fun z hz => hr z (List.mem_reverse.1 hz)) (by simp at hl ⊢; omega)
        · exact i1 x hx
      · exact ⟨i1, by simp; omega⟩
end Law
end

section
namespace Law
open PySem L2 Mm
/-! the step of the pure proofs -/
local macro_rules
  | `(tactic| walk_at "wp side") => `(tactic| first | assumption | omega | decide)
local macro_rules
  | `(tactic| walk_at "wp1") => `(tactic| with_reducible first
    | refine Mm.v_seq ?_ | refine Mm.v_nx ?_ | refine Mm.v_asg ?_ | refine Mm.v_asgP ?_ | refine Mm.v_ret ?_ | refine Mm.v_retN ?_ | refine Mm.v_drop ?_ | refine Mm.v_set ?_ | refine Mm.v_aug ?_ | refine Mm.v_for ?_ | refine Mm.v_brk ?_ | refine Mm.v_ct ?_
    | refine Mm.w_con ?_ | refine Mm.w_op2 ?_ | refine Mm.w_op1 ?_ | refine Mm.w_opL ?_ | refine Mm.w_cons ?_ | refine Mm.w_nil ?_
    | refine Mm.w_add ?_ | refine Mm.w_sub ?_ | refine Mm.w_neg ?_ | refine Mm.w_lt ?_ | refine Mm.w_le ?_ | refine Mm.w_gt ?_ | refine Mm.w_ge ?_ | refine Mm.w_eqi ?_ | refine Mm.w_nei ?_ | refine Mm.w_eqs ?_ | refine Mm.w_nes ?_ | refine Mm.w_int ?_ | refine Mm.w_abs ?_ | refine Mm.w_isN ?_ | refine Mm.w_notN ?_ | refine Mm.w_min ?_ | refine Mm.w_max ?_
    | refine Mm.w_tru ?_ | refine Mm.w_blM ?_ | refine Mm.w_andB ?_ | refine Mm.w_orB ?_ | refine Mm.w_notB ?_ | refine Mm.w_ifV ?_ | refine Mm.w_andV ?_ | refine Mm.w_orV ?_ | refine Mm.w_notV ?_ | refine Mm.w_truB ?_ | refine Mm.w_truI ?_ | refine Mm.w_truN ?_ | refine Mm.w_truT ?_
    | refine Mm.w_dNewK ?_ | refine Mm.w_dNewT ?_ | refine Mm.w_iter ?_ | refine Mm.w_itmM ?_ | refine Mm.w_enm ?_ | refine Mm.w_enm2 ?_ | refine Mm.w_zip ?_ | refine Mm.w_rev ?_ | refine Mm.w_bm ?_ | refine Mm.w_lc ?_ | refine Mm.w_yes ?_ | refine Mm.br_t ?_ | refine Mm.br_f ?_ | refine Mm.w_slc ?_ | refine Mm.w_pno ?_ | refine Mm.w_pso ?_ | refine Mm.w_lenT ?_ | refine Mm.w_tupT ?_ | refine Mm.w_lstT ?_ | refine Mm.w_cutT ?_)
local macro_rules
  | `(tactic| walk_at "sto") => `(tactic| first
    | with_reducible assumption
    | with_reducible exact Mm.put_same
    | with_reducible exact Mm.add_same
    | (with_reducible refine (Mm.put_ne (by first | assumption | exact Ne.symm (by assumption) | ((try dsimp only [Mm.Sto.add, Mm.Sto.put]); omega))).trans ?_; walk_at "sto")
    | (with_reducible refine (Mm.add_ne (by first | assumption | exact Ne.symm (by assumption) | ((try dsimp only [Mm.Sto.add, Mm.Sto.put]); omega))).trans ?_; walk_at "sto")
    | fail)
local macro_rules
  | `(tactic| walk_at "wp2") => `(tactic| first
    | ((with_reducible apply Mm.w_var); · rfl)
    | ((with_reducible apply Mm.ex_mk); · with_reducible refine Mm.rng1 (by (try simp only [List.length_map]); omega))
    | ((with_reducible apply Mm.ex_mk); · with_reducible refine Mm.rng2 (by (try simp only [List.length_map]); omega))
    | ((with_reducible apply Mm.ex_mk); · rfl)
    | ((with_reducible refine Mm.br_true ?_ ?_); · rfl)
    | ((with_reducible refine Mm.br_false ?_ ?_); · rfl)
    | ((with_reducible refine Mm.w_mod ?_ ?_); · walk_at "wp side")
    | ((with_reducible refine Mm.w_div ?_ ?_ ?_); (· walk_at "wp side"); (· (first | decide | assumption)))
    | ((with_reducible refine Mm.w_mul ?_ ?_); · exact .inl (.inr (by decide)))
    | ((with_reducible refine Mm.w_mul ?_ ?_); · exact .inl (.inl (by decide)))
    | ((with_reducible refine Mm.w_mul ?_ ?_); · exact .inl (.inl (by omega)))
    | ((with_reducible refine Mm.w_mul ?_ ?_); · exact .inl (.inr (by omega)))
    | ((with_reducible refine Mm.w_pow ?_ ?_); · decide)
    | ((with_reducible refine Mm.w_lstV ?_ ?_); · (simp only [List.length_cons, List.length_nil]; decide))
    | ((with_reducible refine Mm.w_tupV ?_ ?_); · (simp only [List.length_cons, List.length_nil]; decide))
    | ((with_reducible apply Mm.w_idxL); (· walk_at "sto"); (· first | exact Mm.atI0 | exact Mm.atI1 | exact Mm.atI2 | exact Mm.atIl | rfl))
    | ((with_reducible apply Mm.w_idxC); (· walk_at "sto"); (· rfl))
    | ((with_reducible apply Mm.w_idxT); · first | exact Mm.atI0 | exact Mm.atI1 | exact Mm.atI2 | rfl)
    | ((with_reducible apply Mm.w_lenL); · walk_at "sto")
    | ((with_reducible apply Mm.w_lenC); · walk_at "sto")
    | ((with_reducible apply Mm.w_lenK); · walk_at "sto")
    | ((with_reducible apply Mm.w_tupL); · walk_at "sto")
    | ((with_reducible apply Mm.w_lstL); · walk_at "sto")
    | ((with_reducible apply Mm.w_cutL); · walk_at "sto")
    | ((with_reducible apply Mm.w_revL); · walk_at "sto")
    | ((with_reducible apply Mm.w_truL); · walk_at "sto")
    | ((with_reducible apply Mm.ex_mk); · exact Mm.it_lst (by walk_at "sto"))
    | ((with_reducible apply Mm.ex_mk); · exact Mm.it_con (by walk_at "sto"))
    | ((with_reducible apply Mm.ex_mk); · exact Mm.it_en2L (by walk_at "sto"))
    | ((with_reducible apply Mm.ex_mk); · exact Mm.it_en2C (by walk_at "sto"))
    | ((with_reducible apply Mm.ex_mk); · exact Mm.set_lst (by walk_at "sto") rfl)
    | ((with_reducible refine And.intro ?_ ?_); · exact Mm.ty_lst (by walk_at "sto"))
    | fail)
local macro_rules
  | `(tactic| walk_at "wq") => `(tactic| repeat' (first | (walk_at "wp1"; try dsimp only [List.set_cons_zero, List.set_cons_succ, Bool.not_true, Bool.not_false]) | (walk_at "wp2"; try dsimp only [Bool.not_true, Bool.not_false]) | fail))
local macro_rules
  | `(tactic| walk_at "wp") => `(tactic| repeat' (first | (with_reducible refine Mm.v_if ?_) | (walk_at "wp1"; try dsimp only [List.set_cons_zero, List.set_cons_succ, Bool.not_true, Bool.not_false]) | (walk_at "wp2"; try dsimp only [Bool.not_true, Bool.not_false]) | fail))
local macro_rules
  | `(tactic| walk_at "def") => `(tactic| (refine Mm.w_def rfl ?_; simp only [List.map_cons, List.map_nil, List.cons_append, List.nil_append, List.replicate, Nat.reduceSub, List.replicate_succ, List.replicate_zero]))
/-- what a step asks of the row it goes on from -/
def StepOf (m : Nat) (kvs : List (Key × MV)) (x : MV) : Prop :=
  (∃ P, x = arriveR P) ∨ (∃ b P, x = leaveO b P) ∨ ∃ b P F, x = onR b P (b :: F) ∧ (∀ z ∈ b :: F, z ∈ k1 m) ∧ F.length ≤ 100
theorem onS_of {m : Nat} {kvs : List (Key × MV)} {f : Int → Bool} : ∀ (fr below : List Int), (∀ b ∈ fr, b ∈ k1 m) → fr.length ≤ 100 → ∀ x ∈ onS f below fr, StepOf m kvs x
  | [], below, _, _ => fun x hx => by rw [List.mem_singleton.1 hx]; exact .inl ⟨_, rfl⟩
  | b :: r, below, h, hl => by
    have ih := onS_of (kvs := kvs) (f := f) r (below ++ [b]) (fun z hz => h z (List.mem_cons_of_mem _ hz)) (by simp at hl; omega)
    simp only [onS]
    split
    · intro x hx
      rcases List.mem_cons.1 hx with rfl | hx
      · exact .inr (.inr ⟨b, below, r, rfl, h, by simp at hl; omega⟩)
      · exact ih x hx
    · exact ih
theorem offS_of {m : Nat} {kvs : List (Key × MV)} {f g : Int → Bool} : ∀ (R : List Int), ∀ x ∈ offS f g R, StepOf m kvs x
  | [], x, hx => by rw [List.mem_singleton.1 hx]; exact .inl ⟨_, rfl⟩
  | b :: r, x, hx => by
    have ih := offS_of (m := m) (kvs := kvs) (f := f) (g := g) r
    simp only [offS] at hx
    split at hx
    · rw [List.mem_singleton.1 hx]; exact .inl ⟨_, rfl⟩
    · split at hx
      · rcases List.mem_cons.1 hx with rfl | hx
        · exact .inr (.inl ⟨_, _, rfl⟩)
        · exact ih x hx
      · exact ih x hx
theorem elsewhere_ok {S : Sto} {h c d m k : Nat} {kvs : List (Key × MV)} {L : List MV} {O : List Int} (H : Hd S h c) (hh : h < S.n) (T : Thg S d kvs m) (hdh : d ≠ h) (hk : S.g k = .lst L) (hkh : k ≠ h) (hL : 0 < L.length) (hL2 : L.length ≤ 500) (hS : ∀ x ∈ L, StepOf m kvs x) (hO : ∀ b ∈ O, b ∈ k1 m) (lO : O.length ≤ 60) (h68 : ∀ b P F, onR b P (b :: F) ∈ L → F.length ≤ 60) :
    Ret (m__law_elsewhere [.ref h, .ref d, .ref k, tuI O] S) fun x S' => x = .bl true ∧ Hd S' h c ∧ ExtH h S S' := by
  have mm := T.m1
  unfold m__law_elsewhere
  walk_at "def"
  unfold b__law_elsewhere
  walk_at "wq"
  refine (pickL H hk hkh hL (by omega)).imp ?_
  rintro x S1 ⟨hx, H1, B1⟩
  have T1 := T.ext B1.h hdh
  rcases hS x hx with ⟨P, rfl⟩ | ⟨b, P, rfl⟩ | ⟨b, P, F, rfl, hF, lF⟩
  · unfold arriveR
    walk_at "wq"
    refine v_if ?_
    walk_at "wq"
    exact ⟨rfl, H1, B1.h⟩
  · unfold leaveO
    walk_at "wq"
    refine v_if ?_
    walk_at "wq"
    have st := offS_steps (kvs := kvs) (m := m) (d := d) O.reverse (fun b hb => hO b (List.mem_reverse.1 hb)) (by simp; omega)
    obtain ⟨s1, s2⟩ := offS_sml (f := wnd kvs) (g := mrk kvs) mm O.reverse (fun b hb => hO b (List.mem_reverse.1 hb)) (by simp; omega)
    rw [List.length_reverse] at s2
    obtain ⟨D, rd, ok⟩ := rep_steps s1 (by omega)
    refine (next_off_ok T1 hO (by omega)).imp ?_
    rintro _ S2 ⟨rfl, rfl⟩
    walk_at "wq"
    refine (walked_ok T1 st (offS_head _ _ _) (by omega)).imp ?_
    rintro _ S3 ⟨⟨k3, rfl, h30, h31, g3⟩, E3⟩
    have T3 := T1.ext E3.h hdh
    walk_at "wq"
    refine v_if ?_
    walk_at "wq"
    refine w_repr (rd _ _ g3) ok rfl ?_
    walk_at "wq"
    refine (loff_ok T3 hO (by omega)).imp ?_
    rintro _ S4 ⟨⟨k4, rfl, h40, h41, g4⟩, E4⟩
    walk_at "wq"
    refine w_repr (rd _ _ g4) ok rfl ?_
    walk_at "wq"
    exact ⟨by simp, H1.ext (E3.trans E4), B1.h.trans (E3.trans E4).h⟩
  · have lF2 := h68 b P F hx
    unfold onR
    walk_at "wq"
    refine v_if ?_
    walk_at "wq"
    have hb := hF b List.mem_cons_self
    have hF' : ∀ z ∈ F, z ∈ k1 m := fun z hz => hF z (List.mem_cons_of_mem _ hz)
    have hOb : ∀ z ∈ O ++ [b], z ∈ k1 m := fun z hz => by
      rcases List.mem_append.1 hz with hz | hz
      · exact hO z hz
      · rw [List.mem_singleton.1 hz]; exact hb
    have st := onS_steps (kvs := kvs) (m := m) (d := d) F (O ++ [b]) hF' (by simp; omega)
    obtain ⟨s1, s2⟩ := onS_sml (f := wnd kvs) mm F (O ++ [b]) hF' hOb (by simp; omega) lF
    obtain ⟨D, rd, ok⟩ := rep_steps s1 (by omega)
    refine (next_on_ok (P := O) (b := b) T1 hF' (by omega) (by omega)).imp ?_
    rintro _ S2 ⟨rfl, rfl⟩
    walk_at "wq"
    refine (walked_ok T1 st (onS_head _ _ _) (by omega)).imp ?_
    rintro _ S3 ⟨⟨k3, rfl, h30, h31, g3⟩, E3⟩
    have T3 := T1.ext E3.h hdh
    walk_at "wq"
    refine v_if ?_
    walk_at "wq"
    refine w_repr (rd _ _ g3) ok rfl ?_
    unfold tuI
    walk_at "wq"
    rw [cutM_to (by decide)]
    have szz : (200 : Nat) ≤ sizeLine := by decide
    refine w_addt (by simp only [List.length_map, List.length_take]; omega) ?_
    walk_at "wq"
    rw [cutM_from (by decide)]
    have e1 : List.map MV.int O ++ (List.map MV.int (b :: F)).take (1 : Int).toNat = (O ++ [b]).map MV.int := by simp
    have e2 : (List.map MV.int (b :: F)).drop (1 : Int).toNat = F.map MV.int := by simp
    rw [e1, e2]
    walk_at "wq"
    refine (lon_ok (P := O ++ [b]) T3 hF' (by simp; omega) (by omega)).imp ?_
    rintro _ S4 ⟨⟨k4, rfl, h40, h41, g4⟩, E4⟩
    walk_at "wq"
    refine w_repr (rd _ _ g4) ok rfl ?_
    walk_at "wq"
    exact ⟨by simp, H1.ext (E3.trans E4), B1.h.trans (E3.trans E4).h⟩
end Law
end

section
namespace Law
open PySem L2 Mm
/-! the step of the pure proofs -/
local macro_rules
  | `(tactic| walk_at "wp side") => `(tactic| first | assumption | omega | decide)
local macro_rules
  | `(tactic| walk_at "wp1") => `(tactic| with_reducible first
    | refine Mm.v_seq ?_ | refine Mm.v_nx ?_ | refine Mm.v_asg ?_ | refine Mm.v_asgP ?_ | refine Mm.v_ret ?_ | refine Mm.v_retN ?_ | refine Mm.v_drop ?_ | refine Mm.v_set ?_ | refine Mm.v_aug ?_ | refine Mm.v_for ?_ | refine Mm.v_brk ?_ | refine Mm.v_ct ?_
    | refine Mm.w_con ?_ | refine Mm.w_op2 ?_ | refine Mm.w_op1 ?_ | refine Mm.w_opL ?_ | refine Mm.w_cons ?_ | refine Mm.w_nil ?_
    | refine Mm.w_add ?_ | refine Mm.w_sub ?_ | refine Mm.w_neg ?_ | refine Mm.w_lt ?_ | refine Mm.w_le ?_ | refine Mm.w_gt ?_ | refine Mm.w_ge ?_ | refine Mm.w_eqi ?_ | refine Mm.w_nei ?_ | refine Mm.w_eqs ?_ | refine Mm.w_nes ?_ | refine Mm.w_int ?_ | refine Mm.w_abs ?_ | refine Mm.w_isN ?_ | refine Mm.w_notN ?_ | refine Mm.w_min ?_ | refine Mm.w_max ?_
    | refine Mm.w_tru ?_ | refine Mm.w_blM ?_ | refine Mm.w_andB ?_ | refine Mm.w_orB ?_ | refine Mm.w_notB ?_ | refine Mm.w_ifV ?_ | refine Mm.w_andV ?_ | refine Mm.w_orV ?_ | refine Mm.w_notV ?_ | refine Mm.w_truB ?_ | refine Mm.w_truI ?_ | refine Mm.w_truN ?_ | refine Mm.w_truT ?_
    | refine Mm.w_dNewK ?_ | refine Mm.w_dNewT ?_ | refine Mm.w_iter ?_ | refine Mm.w_itmM ?_ | refine Mm.w_enm ?_ | refine Mm.w_enm2 ?_ | refine Mm.w_zip ?_ | refine Mm.w_rev ?_ | refine Mm.w_bm ?_ | refine Mm.w_lc ?_ | refine Mm.w_yes ?_ | refine Mm.br_t ?_ | refine Mm.br_f ?_ | refine Mm.w_slc ?_ | refine Mm.w_pno ?_ | refine Mm.w_pso ?_ | refine Mm.w_lenT ?_ | refine Mm.w_tupT ?_ | refine Mm.w_lstT ?_ | refine Mm.w_cutT ?_)
local macro_rules
  | `(tactic| walk_at "sto") => `(tactic| first
    | with_reducible assumption
    | with_reducible exact Mm.put_same
    | with_reducible exact Mm.add_same
    | (with_reducible refine (Mm.put_ne (by first | assumption | exact Ne.symm (by assumption) | ((try dsimp only [Mm.Sto.add, Mm.Sto.put]); omega))).trans ?_; walk_at "sto")
    | (with_reducible refine (Mm.add_ne (by first | assumption | exact Ne.symm (by assumption) | ((try dsimp only [Mm.Sto.add, Mm.Sto.put]); omega))).trans ?_; walk_at "sto")
    | fail)
local macro_rules
  | `(tactic| walk_at "wp2") => `(tactic| first
    | ((with_reducible apply Mm.w_var); · rfl)
    | ((with_reducible apply Mm.ex_mk); · with_reducible refine Mm.rng1 (by (try simp only [List.length_map]); omega))
    | ((with_reducible apply Mm.ex_mk); · with_reducible refine Mm.rng2 (by (try simp only [List.length_map]); omega))
    | ((with_reducible apply Mm.ex_mk); · rfl)
    | ((with_reducible refine Mm.br_true ?_ ?_); · rfl)
    | ((with_reducible refine Mm.br_false ?_ ?_); · rfl)
    | ((with_reducible refine Mm.w_mod ?_ ?_); · walk_at "wp side")
    | ((with_reducible refine Mm.w_div ?_ ?_ ?_); (· walk_at "wp side"); (· (first | decide | assumption)))
    | ((with_reducible refine Mm.w_mul ?_ ?_); · exact .inl (.inr (by decide)))
    | ((with_reducible refine Mm.w_mul ?_ ?_); · exact .inl (.inl (by decide)))
    | ((with_reducible refine Mm.w_mul ?_ ?_); · exact .inl (.inl (by omega)))
    | ((with_reducible refine Mm.w_mul ?_ ?_); · exact .inl (.inr (by omega)))
    | ((with_reducible refine Mm.w_pow ?_ ?_); · decide)
    | ((with_reducible refine Mm.w_lstV ?_ ?_); · (simp only [List.length_cons, List.length_nil]; decide))
    | ((with_reducible refine Mm.w_tupV ?_ ?_); · (simp only [List.length_cons, List.length_nil]; decide))
    | ((with_reducible apply Mm.w_idxL); (· walk_at "sto"); (· first | exact Mm.atI0 | exact Mm.atI1 | exact Mm.atI2 | exact Mm.atIl | rfl))
    | ((with_reducible apply Mm.w_idxC); (· walk_at "sto"); (· rfl))
    | ((with_reducible apply Mm.w_idxT); · first | exact Mm.atI0 | exact Mm.atI1 | exact Mm.atI2 | rfl)
    | ((with_reducible apply Mm.w_lenL); · walk_at "sto")
    | ((with_reducible apply Mm.w_lenC); · walk_at "sto")
    | ((with_reducible apply Mm.w_lenK); · walk_at "sto")
    | ((with_reducible apply Mm.w_tupL); · walk_at "sto")
    | ((with_reducible apply Mm.w_lstL); · walk_at "sto")
    | ((with_reducible apply Mm.w_cutL); · walk_at "sto")
    | ((with_reducible apply Mm.w_revL); · walk_at "sto")
    | ((with_reducible apply Mm.w_truL); · walk_at "sto")
    | ((with_reducible apply Mm.ex_mk); · exact Mm.it_lst (by walk_at "sto"))
    | ((with_reducible apply Mm.ex_mk); · exact Mm.it_con (by walk_at "sto"))
    | ((with_reducible apply Mm.ex_mk); · exact Mm.it_en2L (by walk_at "sto"))
    | ((with_reducible apply Mm.ex_mk); · exact Mm.it_en2C (by walk_at "sto"))
    | ((with_reducible apply Mm.ex_mk); · exact Mm.set_lst (by walk_at "sto") rfl)
    | ((with_reducible refine And.intro ?_ ?_); · exact Mm.ty_lst (by walk_at "sto"))
    | fail)
local macro_rules
  | `(tactic| walk_at "wq") => `(tactic| repeat' (first | (walk_at "wp1"; try dsimp only [List.set_cons_zero, List.set_cons_succ, Bool.not_true, Bool.not_false]) | (walk_at "wp2"; try dsimp only [Bool.not_true, Bool.not_false]) | fail))
local macro_rules
  | `(tactic| walk_at "wp") => `(tactic| repeat' (first | (with_reducible refine Mm.v_if ?_) | (walk_at "wp1"; try dsimp only [List.set_cons_zero, List.set_cons_succ, Bool.not_true, Bool.not_false]) | (walk_at "wp2"; try dsimp only [Bool.not_true, Bool.not_false]) | fail))
local macro_rules
  | `(tactic| walk_at "def") => `(tactic| (refine Mm.w_def rfl ?_; simp only [List.map_cons, List.map_nil, List.cons_append, List.nil_append, List.replicate, Nat.reduceSub, List.replicate_succ, List.replicate_zero]))
theorem next_to_ok {S : Sto} {d m : Nat} {kvs : List (Key × MV)} {P F P2 : List Int} {n : Nat} (T : Thg S d kvs m) (hP : ∀ b ∈ P, b ∈ k1 m) (hF : ∀ b ∈ F, b ∈ k1 m) (lP : P.length < 900) (lF : F.length < 900)
    (h0 : n = 0 → P2 = P) (h1 : ∀ k, n = k + 1 → ∃ p, (winds (wnd kvs) F)[k]? = some p ∧ P2 = F.take (p.1.toNat + 1)) :
    Ret (m_next_step [tuI P, roadTo F n, .ref d] S) fun x S' => x = goR (wnd kvs) P2 F ∧ Ext S S' := by
  unfold m_next_step
  walk_at "def"
  unfold b_next_step roadTo
  walk_at "wq"
  refine v_if ?_
  walk_at "wq"
  refine (go_ok T hP hF lP lF h0 h1).imp ?_
  rintro x S' ⟨rfl, E⟩
  exact ⟨rfl, E⟩
theorem to_elsewhere_ok {S : Sto} {h c d m : Nat} {kvs : List (Key × MV)} {G O : List Int} (H : Hd S h c) (hh : h < S.n) (T : Thg S d kvs m) (hdh : d ≠ h) (hG : ∀ b ∈ G, b ∈ k1 m) (hO : ∀ b ∈ O, b ∈ k1 m) (lG : G.length ≤ 60) (lO : O.length ≤ 60) :
    Ret (m__law_to_elsewhere [.ref h, .ref d, tuI G, tuI O] S) fun x S' => x = .bl true ∧ Hd S' h c ∧ ExtH h S S' := by
  have mm := T.m1
  have wl := winds_len (f := wnd kvs) (l := G)
  unfold m__law_to_elsewhere
  walk_at "def"
  unfold b__law_to_elsewhere
  walk_at "wq"
  unfold tuI
  refine (lwinds_ok T.g T.n (T.frs hG) (by omega)).imp ?_
  rintro _ S1 ⟨rfl, n1, g1, E1⟩
  have H1 := H.ext E1
  have e1 : ExtH h S S1 := E1.h
  walk_at "wq"
  refine v_mid (fun e S' => Hd S' h c ∧ ExtH h S S' ∧ ∃ x5 x6 x7 x8, e = [some (.ref h), some (.ref d), some (tuI G), some (tuI O), some (.ref S.n), x5, x6, x7, x8]) ?_ ?_
  · refine v_if ?_
    walk_at "wq"
    have fP : FlL ((winds (wnd kvs) G).map pr) ((winds (wnd kvs) G).map fun p => .tuple [.int p.1, .int p.2]) := fll_map _ fun p _ => fl_tup (fll_cons fl_int (fll_cons fl_int fll_nil))
    have sP : ShL 1 ((winds (wnd kvs) G).map fun p => PyData.tuple [.int p.1, .int p.2]) := shl_map _ fun p _ => shd_tup (n := 0) (shl_cons shd_int (shl_cons shd_int shl_nil))
    refine w_neA (toD_lst ((add_ne (by omega)).trans g1) fP) (toD_lst add_same fll_nil) (sh_of (shd_lst sP)) (sh_of (shd_lst (n := 0) shl_nil)) ?_
    have ev : (!PyData.eqv (.list ((winds (wnd kvs) G).map fun p => .tuple [.int p.1, .int p.2])) (.list [])) = decide (winds (wnd kvs) G ≠ []) := by
      cases winds (wnd kvs) G with
      | nil => rfl
      | cons a l => simp [PyData.eqv, PyData.eqvAll]
    rw [ev]
    walk_at "wq"
    have g2 : (S1.add (.lst [])).g S.n = .lst ((winds (wnd kvs) G).map pr) := (add_ne (by omega)).trans g1
    refine br_dec (fun hq => ?_) (fun hq => ?_)
    · have hpos := List.length_pos_iff.2 hq
      walk_at "wq"
      rw [List.length_map]
      refine (draw H1.add (by omega) (by omega)).imp ?_
      rintro _ S2 ⟨⟨r, r0, r1, rfl⟩, H2, B2⟩
      obtain ⟨n, rfl⟩ := Int.eq_ofNat_of_zero_le r0
      have g3 := (B2.2 S.n (by omega)).trans g2
      have E2 := e1.add.trans B2.h
      have T2 := T.ext E2 hdh
      have hW : (winds (wnd kvs) G)[n]? = some (winds (wnd kvs) G)[n] := List.getElem?_eq_getElem (by omega)
      generalize (winds (wnd kvs) G)[n] = q at hW
      obtain ⟨pos, q1, q2, q3, q4, q5, q6⟩ := winds_cut hW
      have wq2 : winds (wnd kvs) (G.take (q.1.toNat + 1)) = (winds (wnd kvs) G).take (n + 1) := by rw [q1, Int.toNat_natCast, q6]
      have wql : ((winds (wnd kvs) G).take (n + 1)).length = n + 1 := by rw [List.length_take]; omega
      have wsh : shr ((winds (wnd kvs) G).take (n + 1)) (winds (wnd kvs) G) = n + 1 := shr_pre (by omega)
      have hgo : goR (wnd kvs) (G.take (q.1.toNat + 1)) G = match (winds (wnd kvs) G)[n + 1]? with
          | some p => enterR p.2 G p.1.toNat (n + 2)
          | none => arriveR G := by
        cases z : (winds (wnd kvs) G)[n + 1]? with
        | some p => exact goR_enter (k := n + 1) (by rw [wq2, wsh]) (by rw [wq2, wql]) z
        | none => exact goR_arrive (k := n + 1) (by rw [wq2, wsh]) (by rw [wq2, wql]) (List.getElem?_eq_none_iff.1 z)
      have hR : ∃ D, (∀ S : Sto, rD S (goR (wnd kvs) (G.take (q.1.toNat + 1)) G) = some D) ∧ shOk D := by
        rw [hgo]
        cases z : (winds (wnd kvs) G)[n + 1]? with
        | some p =>
          obtain ⟨ps, _, _, a3, _⟩ := winds_cut z
          exact rep_enter mm (hG _ (List.mem_of_getElem? a3)) hG (by omega) (by omega)
        | none => exact rep_arrive mm hG (by omega)
      obtain ⟨D, rd, ok⟩ := hR
      have hri : isRI (goR (wnd kvs) (G.take (q.1.toNat + 1)) G) = true := by
        rw [hgo]; cases (winds (wnd kvs) G)[n + 1]? <;> rfl
      walk_at "wq"
      refine v_mid (fun e S' => S' = S2 ∧ ∃ x6 x7, e = [some (.ref h), some (.ref d), some (tuI G), some (tuI O), some (.ref S.n), some (.int (1 + (n : Nat))), x6, x7, some (goR (wnd kvs) (G.take (q.1.toNat + 1)) G)]) ?_ ?_
      · rw [hgo]
        refine v_if ?_
        walk_at "wq"
        rw [List.length_map]
        cases z : (winds (wnd kvs) G)[n + 1]? with
        | some p =>
          have := (List.getElem?_eq_some_iff.1 z).1
          obtain ⟨ps, a1, _⟩ := winds_cut z
          refine br_dec (fun hq => ?_) (fun hq => absurd (show 1 + (n : Int) < (winds (wnd kvs) G).length by omega) hq)
          walk_at "wq"
          refine w_idxL g3 (x := pr p) (by rw [show 1 + (n : Int) = ((n + 1 : Nat) : Int) by omega]; exact atI_nat (by rw [List.getElem?_map, z]; rfl)) ?_
          unfold pr tuI
          walk_at "wq"
          rw [cutM_to (by omega)]
          walk_at "wq"
          refine ⟨rfl, some (.int p.1), some (.int p.2), ?_⟩
          simp only [enterR, roadTo, tuI, List.map_take]
          rw [show (1 + (n : Int) + 1) = ((n + 2 : Nat) : Int) by omega]
        | none =>
          have := List.getElem?_eq_none_iff.1 z
          refine br_dec (fun hq => absurd hq (by omega)) (fun hq => ?_)
          walk_at "wq"
          exact ⟨rfl, _, _, rfl⟩
      · rintro e S' ⟨rfl, x6, x7, rfl⟩
        refine v_if ?_
        walk_at "wq"
        rw [show 1 + (n : Int) = ((n + 1 : Nat) : Int) by omega]
        refine (next_to_ok (P := O) (P2 := G.take (q.1.toNat + 1)) (F := G) (n := n + 1) T2 hO hG (by omega) (by omega) (fun h => by omega) (fun k hk => ⟨q, by rw [show k = n by omega]; exact hW, rfl⟩)).imp ?_
        rintro _ S3 ⟨rfl, E3⟩
        walk_at "wq"
        refine w_repr (rd _) ok hri ?_
        walk_at "wq"
        refine w_repr (rd _) ok hri ?_
        walk_at "wq"
        refine br_dec (fun h => absurd rfl h) (fun _ => ?_)
        walk_at "wq"
        exact ⟨H2.ext E3, E2.trans E3.h, _, _, _, _, rfl⟩
    · walk_at "wq"
      exact ⟨H1.add, e1.add, _, _, _, _, rfl⟩
  · rintro e S2 ⟨H2, E2, x5, x6, x7, x8, rfl⟩
    obtain ⟨D, rd, ok⟩ := rep_arrive (F := O) mm hO (by omega)
    walk_at "wq"
    refine (next_out_ok (P := O)).imp ?_
    rintro _ S3 ⟨rfl, rfl⟩
    walk_at "wq"
    refine w_repr (rd _) ok rfl ?_
    walk_at "wq"
    refine w_repr (rd _) ok rfl ?_
    walk_at "wq"
    exact ⟨by simp, H2, E2⟩
end Law
end

section
namespace Law
open PySem L2 Mm
/-! the step of the pure proofs -/
local macro_rules
  | `(tactic| walk_at "wp side") => `(tactic| first | assumption | omega | decide)
local macro_rules
  | `(tactic| walk_at "wp1") => `(tactic| with_reducible first
    | refine Mm.v_seq ?_ | refine Mm.v_nx ?_ | refine Mm.v_asg ?_ | refine Mm.v_asgP ?_ | refine Mm.v_ret ?_ | refine Mm.v_retN ?_ | refine Mm.v_drop ?_ | refine Mm.v_set ?_ | refine Mm.v_aug ?_ | refine Mm.v_for ?_ | refine Mm.v_brk ?_ | refine Mm.v_ct ?_
    | refine Mm.w_con ?_ | refine Mm.w_op2 ?_ | refine Mm.w_op1 ?_ | refine Mm.w_opL ?_ | refine Mm.w_cons ?_ | refine Mm.w_nil ?_
    | refine Mm.w_add ?_ | refine Mm.w_sub ?_ | refine Mm.w_neg ?_ | refine Mm.w_lt ?_ | refine Mm.w_le ?_ | refine Mm.w_gt ?_ | refine Mm.w_ge ?_ | refine Mm.w_eqi ?_ | refine Mm.w_nei ?_ | refine Mm.w_eqs ?_ | refine Mm.w_nes ?_ | refine Mm.w_int ?_ | refine Mm.w_abs ?_ | refine Mm.w_isN ?_ | refine Mm.w_notN ?_ | refine Mm.w_min ?_ | refine Mm.w_max ?_
    | refine Mm.w_tru ?_ | refine Mm.w_blM ?_ | refine Mm.w_andB ?_ | refine Mm.w_orB ?_ | refine Mm.w_notB ?_ | refine Mm.w_ifV ?_ | refine Mm.w_andV ?_ | refine Mm.w_orV ?_ | refine Mm.w_notV ?_ | refine Mm.w_truB ?_ | refine Mm.w_truI ?_ | refine Mm.w_truN ?_ | refine Mm.w_truT ?_
    | refine Mm.w_dNewK ?_ | refine Mm.w_dNewT ?_ | refine Mm.w_iter ?_ | refine Mm.w_itmM ?_ | refine Mm.w_enm ?_ | refine Mm.w_enm2 ?_ | refine Mm.w_zip ?_ | refine Mm.w_rev ?_ | refine Mm.w_bm ?_ | refine Mm.w_lc ?_ | refine Mm.w_yes ?_ | refine Mm.br_t ?_ | refine Mm.br_f ?_ | refine Mm.w_slc ?_ | refine Mm.w_pno ?_ | refine Mm.w_pso ?_ | refine Mm.w_lenT ?_ | refine Mm.w_tupT ?_ | refine Mm.w_lstT ?_ | refine Mm.w_cutT ?_)
local macro_rules
  | `(tactic| walk_at "sto") => `(tactic| first
    | with_reducible assumption
    | with_reducible exact Mm.put_same
    | with_reducible exact Mm.add_same
    | (with_reducible refine (Mm.put_ne (by first | assumption | exact Ne.symm (by assumption) | ((try dsimp only [Mm.Sto.add, Mm.Sto.put]); omega))).trans ?_; walk_at "sto")
    | (with_reducible refine (Mm.add_ne (by first | assumption | exact Ne.symm (by assumption) | ((try dsimp only [Mm.Sto.add, Mm.Sto.put]); omega))).trans ?_; walk_at "sto")
    | fail)
local macro_rules
  | `(tactic| walk_at "wp2") => `(tactic| first
    | ((with_reducible apply Mm.w_var); · rfl)
    | ((with_reducible apply Mm.ex_mk); · with_reducible refine Mm.rng1 (by (try simp only [List.length_map]); omega))
    | ((with_reducible apply Mm.ex_mk); · with_reducible refine Mm.rng2 (by (try simp only [List.length_map]); omega))
    | ((with_reducible apply Mm.ex_mk); · rfl)
    | ((with_reducible refine Mm.br_true ?_ ?_); · rfl)
    | ((with_reducible refine Mm.br_false ?_ ?_); · rfl)
    | ((with_reducible refine Mm.w_mod ?_ ?_); · walk_at "wp side")
    | ((with_reducible refine Mm.w_div ?_ ?_ ?_); (· walk_at "wp side"); (· (first | decide | assumption)))
    | ((with_reducible refine Mm.w_mul ?_ ?_); · exact .inl (.inr (by decide)))
    | ((with_reducible refine Mm.w_mul ?_ ?_); · exact .inl (.inl (by decide)))
    | ((with_reducible refine Mm.w_mul ?_ ?_); · exact .inl (.inl (by omega)))
    | ((with_reducible refine Mm.w_mul ?_ ?_); · exact .inl (.inr (by omega)))
    | ((with_reducible refine Mm.w_pow ?_ ?_); · decide)
    | ((with_reducible refine Mm.w_lstV ?_ ?_); · (simp only [List.length_cons, List.length_nil]; decide))
    | ((with_reducible refine Mm.w_tupV ?_ ?_); · (simp only [List.length_cons, List.length_nil]; decide))
    | ((with_reducible apply Mm.w_idxL); (· walk_at "sto"); (· first | exact Mm.atI0 | exact Mm.atI1 | exact Mm.atI2 | exact Mm.atIl | rfl))
    | ((with_reducible apply Mm.w_idxC); (· walk_at "sto"); (· rfl))
    | ((with_reducible apply Mm.w_idxT); · first | exact Mm.atI0 | exact Mm.atI1 | exact Mm.atI2 | rfl)
    | ((with_reducible apply Mm.w_lenL); · walk_at "sto")
    | ((with_reducible apply Mm.w_lenC); · walk_at "sto")
    | ((with_reducible apply Mm.w_lenK); · walk_at "sto")
    | ((with_reducible apply Mm.w_tupL); · walk_at "sto")
    | ((with_reducible apply Mm.w_lstL); · walk_at "sto")
    | ((with_reducible apply Mm.w_cutL); · walk_at "sto")
    | ((with_reducible apply Mm.w_revL); · walk_at "sto")
    | ((with_reducible apply Mm.w_truL); · walk_at "sto")
    | ((with_reducible apply Mm.ex_mk); · exact Mm.it_lst (by walk_at "sto"))
    | ((with_reducible apply Mm.ex_mk); · exact Mm.it_con (by walk_at "sto"))
    | ((with_reducible apply Mm.ex_mk); · exact Mm.it_en2L (by walk_at "sto"))
    | ((with_reducible apply Mm.ex_mk); · exact Mm.it_en2C (by walk_at "sto"))
    | ((with_reducible apply Mm.ex_mk); · exact Mm.set_lst (by walk_at "sto") rfl)
    | ((with_reducible refine And.intro ?_ ?_); · exact Mm.ty_lst (by walk_at "sto"))
    | fail)
local macro_rules
  | `(tactic| walk_at "wq") => `(tactic| repeat' (first | (walk_at "wp1"; try dsimp only [List.set_cons_zero, List.set_cons_succ, Bool.not_true, Bool.not_false]) | (walk_at "wp2"; try dsimp only [Bool.not_true, Bool.not_false]) | fail))
local macro_rules
  | `(tactic| walk_at "wp") => `(tactic| repeat' (first | (with_reducible refine Mm.v_if ?_) | (walk_at "wp1"; try dsimp only [List.set_cons_zero, List.set_cons_succ, Bool.not_true, Bool.not_false]) | (walk_at "wp2"; try dsimp only [Bool.not_true, Bool.not_false]) | fail))
local macro_rules
  | `(tactic| walk_at "def") => `(tactic| (refine Mm.w_def rfl ?_; simp only [List.map_cons, List.map_nil, List.cons_append, List.nil_append, List.replicate, Nat.reduceSub, List.replicate_succ, List.replicate_zero]))
theorem winds_app (f : Int → Bool) : ∀ (x y : List Int), winds f (x ++ y) = winds f x ++ (winds f y).map fun p => (p.1 + (x.length : Int), p.2)
  | [], y => by simp [winds_nil]
  | b :: x, y => by
    rw [List.cons_append, winds_cons, winds_app f x y, winds_cons, List.map_append, List.map_map, List.append_assoc]
    congr 2
    refine List.map_congr_left fun p _ => ?_
    simp only [Function.comp_def, List.length_cons]
    rw [show p.1 + (x.length : Int) + 1 = p.1 + ((x.length + 1 : Nat) : Int) by omega]
theorem winds_above {f : Int → Bool} {B : List Int} {c : Nat} (hc : c ≤ B.length) : births ((winds f B).filter (abv c)) = births (winds f (B.drop c)) := by
  have e : winds f B = winds f (B.take c) ++ (winds f (B.drop c)).map fun p => (p.1 + (c : Int), p.2) := by
    have := winds_app f (B.take c) (B.drop c)
    rw [List.take_append_drop, List.length_take, Nat.min_eq_left hc] at this
    exact this
  rw [e, List.filter_append]
  have h1 : (winds f (B.take c)).filter (abv c) = [] := by
    refine List.filter_eq_nil_iff.2 fun p hp => ?_
    obtain ⟨j, hj⟩ := List.getElem?_of_mem hp
    obtain ⟨pos, h1, h2, _⟩ := winds_cut hj
    rw [List.length_take] at h2
    simp only [abv, decide_eq_true_eq]; omega
  have h2 : ((winds f (B.drop c)).map fun p => (p.1 + (c : Int), p.2)).filter (abv c) = (winds f (B.drop c)).map fun p => (p.1 + (c : Int), p.2) := by
    refine List.filter_eq_self.2 fun p hp => ?_
    obtain ⟨q, hq, rfl⟩ := List.mem_map.1 hp
    obtain ⟨j, hj⟩ := List.getElem?_of_mem hq
    obtain ⟨pos, h1, _⟩ := winds_cut hj
    simp only [abv, decide_eq_true_eq]; omega
  rw [h1, h2, List.nil_append]
  unfold births
  rw [List.map_map]; rfl
end Law
end

section
namespace Law
open PySem L2 Mm
/-! the step of the pure proofs -/
local macro_rules
  | `(tactic| walk_at "wp side") => `(tactic| first | assumption | omega | decide)
local macro_rules
  | `(tactic| walk_at "wp1") => `(tactic| with_reducible first
    | refine Mm.v_seq ?_ | refine Mm.v_nx ?_ | refine Mm.v_asg ?_ | refine Mm.v_asgP ?_ | refine Mm.v_ret ?_ | refine Mm.v_retN ?_ | refine Mm.v_drop ?_ | refine Mm.v_set ?_ | refine Mm.v_aug ?_ | refine Mm.v_for ?_ | refine Mm.v_brk ?_ | refine Mm.v_ct ?_
    | refine Mm.w_con ?_ | refine Mm.w_op2 ?_ | refine Mm.w_op1 ?_ | refine Mm.w_opL ?_ | refine Mm.w_cons ?_ | refine Mm.w_nil ?_
    | refine Mm.w_add ?_ | refine Mm.w_sub ?_ | refine Mm.w_neg ?_ | refine Mm.w_lt ?_ | refine Mm.w_le ?_ | refine Mm.w_gt ?_ | refine Mm.w_ge ?_ | refine Mm.w_eqi ?_ | refine Mm.w_nei ?_ | refine Mm.w_eqs ?_ | refine Mm.w_nes ?_ | refine Mm.w_int ?_ | refine Mm.w_abs ?_ | refine Mm.w_isN ?_ | refine Mm.w_notN ?_ | refine Mm.w_min ?_ | refine Mm.w_max ?_
    | refine Mm.w_tru ?_ | refine Mm.w_blM ?_ | refine Mm.w_andB ?_ | refine Mm.w_orB ?_ | refine Mm.w_notB ?_ | refine Mm.w_ifV ?_ | refine Mm.w_andV ?_ | refine Mm.w_orV ?_ | refine Mm.w_notV ?_ | refine Mm.w_truB ?_ | refine Mm.w_truI ?_ | refine Mm.w_truN ?_ | refine Mm.w_truT ?_
    | refine Mm.w_dNewK ?_ | refine Mm.w_dNewT ?_ | refine Mm.w_iter ?_ | refine Mm.w_itmM ?_ | refine Mm.w_enm ?_ | refine Mm.w_enm2 ?_ | refine Mm.w_zip ?_ | refine Mm.w_rev ?_ | refine Mm.w_bm ?_ | refine Mm.w_lc ?_ | refine Mm.w_yes ?_ | refine Mm.br_t ?_ | refine Mm.br_f ?_ | refine Mm.w_slc ?_ | refine Mm.w_pno ?_ | refine Mm.w_pso ?_ | refine Mm.w_lenT ?_ | refine Mm.w_tupT ?_ | refine Mm.w_lstT ?_ | refine Mm.w_cutT ?_)
local macro_rules
  | `(tactic| walk_at "sto") => `(tactic| first
    | with_reducible assumption
    | with_reducible exact Mm.put_same
    | with_reducible exact Mm.add_same
    | (with_reducible refine (Mm.put_ne (by first | assumption | exact Ne.symm (by assumption) | ((try dsimp only [Mm.Sto.add, Mm.Sto.put]); omega))).trans ?_; walk_at "sto")
    | (with_reducible refine (Mm.add_ne (by first | assumption | exact Ne.symm (by assumption) | ((try dsimp only [Mm.Sto.add, Mm.Sto.put]); omega))).trans ?_; walk_at "sto")
    | fail)
local macro_rules
  | `(tactic| walk_at "wp2") => `(tactic| first
    | ((with_reducible apply Mm.w_var); · rfl)
    | ((with_reducible apply Mm.ex_mk); · with_reducible refine Mm.rng1 (by (try simp only [List.length_map]); omega))
    | ((with_reducible apply Mm.ex_mk); · with_reducible refine Mm.rng2 (by (try simp only [List.length_map]); omega))
    | ((with_reducible apply Mm.ex_mk); · rfl)
    | ((with_reducible refine Mm.br_true ?_ ?_); · rfl)
    | ((with_reducible refine Mm.br_false ?_ ?_); · rfl)
    | ((with_reducible refine Mm.w_mod ?_ ?_); · walk_at "wp side")
    | ((with_reducible refine Mm.w_div ?_ ?_ ?_); (· walk_at "wp side"); (· (first | decide | assumption)))
    | ((with_reducible refine Mm.w_mul ?_ ?_); · exact .inl (.inr (by decide)))
    | ((with_reducible refine Mm.w_mul ?_ ?_); · exact .inl (.inl (by decide)))
    | ((with_reducible refine Mm.w_mul ?_ ?_); · exact .inl (.inl (by omega)))
    | ((with_reducible refine Mm.w_mul ?_ ?_); · exact .inl (.inr (by omega)))
    | ((with_reducible refine Mm.w_pow ?_ ?_); · decide)
    | ((with_reducible refine Mm.w_lstV ?_ ?_); · (simp only [List.length_cons, List.length_nil]; decide))
    | ((with_reducible refine Mm.w_tupV ?_ ?_); · (simp only [List.length_cons, List.length_nil]; decide))
    | ((with_reducible apply Mm.w_idxL); (· walk_at "sto"); (· first | exact Mm.atI0 | exact Mm.atI1 | exact Mm.atI2 | exact Mm.atIl | rfl))
    | ((with_reducible apply Mm.w_idxC); (· walk_at "sto"); (· rfl))
    | ((with_reducible apply Mm.w_idxT); · first | exact Mm.atI0 | exact Mm.atI1 | exact Mm.atI2 | rfl)
    | ((with_reducible apply Mm.w_lenL); · walk_at "sto")
    | ((with_reducible apply Mm.w_lenC); · walk_at "sto")
    | ((with_reducible apply Mm.w_lenK); · walk_at "sto")
    | ((with_reducible apply Mm.w_tupL); · walk_at "sto")
    | ((with_reducible apply Mm.w_lstL); · walk_at "sto")
    | ((with_reducible apply Mm.w_cutL); · walk_at "sto")
    | ((with_reducible apply Mm.w_revL); · walk_at "sto")
    | ((with_reducible apply Mm.w_truL); · walk_at "sto")
    | ((with_reducible apply Mm.ex_mk); · exact Mm.it_lst (by walk_at "sto"))
    | ((with_reducible apply Mm.ex_mk); · exact Mm.it_con (by walk_at "sto"))
    | ((with_reducible apply Mm.ex_mk); · exact Mm.it_en2L (by walk_at "sto"))
    | ((with_reducible apply Mm.ex_mk); · exact Mm.it_en2C (by walk_at "sto"))
    | ((with_reducible apply Mm.ex_mk); · exact Mm.set_lst (by walk_at "sto") rfl)
    | ((with_reducible refine And.intro ?_ ?_); · exact Mm.ty_lst (by walk_at "sto"))
    | fail)
local macro_rules
  | `(tactic| walk_at "wq") => `(tactic| repeat' (first | (walk_at "wp1"; try dsimp only [List.set_cons_zero, List.set_cons_succ, Bool.not_true, Bool.not_false]) | (walk_at "wp2"; try dsimp only [Bool.not_true, Bool.not_false]) | fail))
local macro_rules
  | `(tactic| walk_at "wp") => `(tactic| repeat' (first | (with_reducible refine Mm.v_if ?_) | (walk_at "wp1"; try dsimp only [List.set_cons_zero, List.set_cons_succ, Bool.not_true, Bool.not_false]) | (walk_at "wp2"; try dsimp only [Bool.not_true, Bool.not_false]) | fail))
local macro_rules
  | `(tactic| walk_at "def") => `(tactic| (refine Mm.w_def rfl ?_; simp only [List.map_cons, List.map_nil, List.cons_append, List.nil_append, List.replicate, Nat.reduceSub, List.replicate_succ, List.replicate_zero]))
def extR (y : List Int) : MV → MV
  | .tup [w, a, b, .tup [o, .tup r]] => .tup [w, a, b, .tup [o, .tup (r ++ y.map .int)]]
  | x => x
theorem extR_on (y : List Int) (b : Int) (P F : List Int) : extR y (onR b P F) = onR b P (F ++ y) := by
  simp only [extR, onR, tuI, List.map_append]
theorem onS_ne {f : Int → Bool} : ∀ (x below : List Int), onS f below x ≠ []
  | [], below => by simp [onS]
  | b :: x, below => by
    simp only [onS]
    split
    · simp
    · exact onS_ne x _
theorem onS_app {f : Int → Bool} (y : List Int) : ∀ (x below : List Int), onS f below (x ++ y) = ((onS f below x).dropLast.map (extR y)) ++ onS f (below ++ x) y
  | [], below => by simp [onS]
  | b :: x, below => by
    have ih := onS_app (f := f) y x (below ++ [b])
    simp only [List.cons_append, onS]
    split
    · rw [ih, List.dropLast_cons_of_ne_nil (onS_ne _ _), List.map_cons, extR_on]
      simp
    · rw [ih]; simp
end Law
end

section
namespace Law
open PySem L2 Mm
/-! the step of the pure proofs -/
local macro_rules
  | `(tactic| walk_at "wp side") => `(tactic| first | assumption | omega | decide)
local macro_rules
  | `(tactic| walk_at "wp1") => `(tactic| with_reducible first
    | refine Mm.v_seq ?_ | refine Mm.v_nx ?_ | refine Mm.v_asg ?_ | refine Mm.v_asgP ?_ | refine Mm.v_ret ?_ | refine Mm.v_retN ?_ | refine Mm.v_drop ?_ | refine Mm.v_set ?_ | refine Mm.v_aug ?_ | refine Mm.v_for ?_ | refine Mm.v_brk ?_ | refine Mm.v_ct ?_
    | refine Mm.w_con ?_ | refine Mm.w_op2 ?_ | refine Mm.w_op1 ?_ | refine Mm.w_opL ?_ | refine Mm.w_cons ?_ | refine Mm.w_nil ?_
    | refine Mm.w_add ?_ | refine Mm.w_sub ?_ | refine Mm.w_neg ?_ | refine Mm.w_lt ?_ | refine Mm.w_le ?_ | refine Mm.w_gt ?_ | refine Mm.w_ge ?_ | refine Mm.w_eqi ?_ | refine Mm.w_nei ?_ | refine Mm.w_eqs ?_ | refine Mm.w_nes ?_ | refine Mm.w_int ?_ | refine Mm.w_abs ?_ | refine Mm.w_isN ?_ | refine Mm.w_notN ?_ | refine Mm.w_min ?_ | refine Mm.w_max ?_
    | refine Mm.w_tru ?_ | refine Mm.w_blM ?_ | refine Mm.w_andB ?_ | refine Mm.w_orB ?_ | refine Mm.w_notB ?_ | refine Mm.w_ifV ?_ | refine Mm.w_andV ?_ | refine Mm.w_orV ?_ | refine Mm.w_notV ?_ | refine Mm.w_truB ?_ | refine Mm.w_truI ?_ | refine Mm.w_truN ?_ | refine Mm.w_truT ?_
    | refine Mm.w_dNewK ?_ | refine Mm.w_dNewT ?_ | refine Mm.w_iter ?_ | refine Mm.w_itmM ?_ | refine Mm.w_enm ?_ | refine Mm.w_enm2 ?_ | refine Mm.w_zip ?_ | refine Mm.w_rev ?_ | refine Mm.w_bm ?_ | refine Mm.w_lc ?_ | refine Mm.w_yes ?_ | refine Mm.br_t ?_ | refine Mm.br_f ?_ | refine Mm.w_slc ?_ | refine Mm.w_pno ?_ | refine Mm.w_pso ?_ | refine Mm.w_lenT ?_ | refine Mm.w_tupT ?_ | refine Mm.w_lstT ?_ | refine Mm.w_cutT ?_)
local macro_rules
  | `(tactic| walk_at "sto") => `(tactic| first
    | with_reducible assumption
    | with_reducible exact Mm.put_same
    | with_reducible exact Mm.add_same
    | (with_reducible refine (Mm.put_ne (by first | assumption | exact Ne.symm (by assumption) | ((try dsimp only [Mm.Sto.add, Mm.Sto.put]); omega))).trans ?_; walk_at "sto")
    | (with_reducible refine (Mm.add_ne (by first | assumption | exact Ne.symm (by assumption) | ((try dsimp only [Mm.Sto.add, Mm.Sto.put]); omega))).trans ?_; walk_at "sto")
    | fail)
local macro_rules
  | `(tactic| walk_at "wp2") => `(tactic| first
    | ((with_reducible apply Mm.w_var); · rfl)
    | ((with_reducible apply Mm.ex_mk); · with_reducible refine Mm.rng1 (by (try simp only [List.length_map]); omega))
    | ((with_reducible apply Mm.ex_mk); · with_reducible refine Mm.rng2 (by (try simp only [List.length_map]); omega))
    | ((with_reducible apply Mm.ex_mk); · rfl)
    | ((with_reducible refine Mm.br_true ?_ ?_); · rfl)
    | ((with_reducible refine Mm.br_false ?_ ?_); · rfl)
    | ((with_reducible refine Mm.w_mod ?_ ?_); · walk_at "wp side")
    | ((with_reducible refine Mm.w_div ?_ ?_ ?_); (· walk_at "wp side"); (· (first | decide | assumption)))
    | ((with_reducible refine Mm.w_mul ?_ ?_); · exact .inl (.inr (by decide)))
    | ((with_reducible refine Mm.w_mul ?_ ?_); · exact .inl (.inl (by decide)))
    | ((with_reducible refine Mm.w_mul ?_ ?_); · exact .inl (.inl (by omega)))
    | ((with_reducible refine Mm.w_mul ?_ ?_); · exact .inl (.inr (by omega)))
    | ((with_reducible refine Mm.w_pow ?_ ?_); · decide)
    | ((with_reducible refine Mm.w_lstV ?_ ?_); · (simp only [List.length_cons, List.length_nil]; decide))
    | ((with_reducible refine Mm.w_tupV ?_ ?_); · (simp only [List.length_cons, List.length_nil]; decide))
    | ((with_reducible apply Mm.w_idxL); (· walk_at "sto"); (· first | exact Mm.atI0 | exact Mm.atI1 | exact Mm.atI2 | exact Mm.atIl | rfl))
    | ((with_reducible apply Mm.w_idxC); (· walk_at "sto"); (· rfl))
    | ((with_reducible apply Mm.w_idxT); · first | exact Mm.atI0 | exact Mm.atI1 | exact Mm.atI2 | rfl)
    | ((with_reducible apply Mm.w_lenL); · walk_at "sto")
    | ((with_reducible apply Mm.w_lenC); · walk_at "sto")
    | ((with_reducible apply Mm.w_lenK); · walk_at "sto")
    | ((with_reducible apply Mm.w_tupL); · walk_at "sto")
    | ((with_reducible apply Mm.w_lstL); · walk_at "sto")
    | ((with_reducible apply Mm.w_cutL); · walk_at "sto")
    | ((with_reducible apply Mm.w_revL); · walk_at "sto")
    | ((with_reducible apply Mm.w_truL); · walk_at "sto")
    | ((with_reducible apply Mm.ex_mk); · exact Mm.it_lst (by walk_at "sto"))
    | ((with_reducible apply Mm.ex_mk); · exact Mm.it_con (by walk_at "sto"))
    | ((with_reducible apply Mm.ex_mk); · exact Mm.it_en2L (by walk_at "sto"))
    | ((with_reducible apply Mm.ex_mk); · exact Mm.it_en2C (by walk_at "sto"))
    | ((with_reducible apply Mm.ex_mk); · exact Mm.set_lst (by walk_at "sto") rfl)
    | ((with_reducible refine And.intro ?_ ?_); · exact Mm.ty_lst (by walk_at "sto"))
    | fail)
local macro_rules
  | `(tactic| walk_at "wq") => `(tactic| repeat' (first | (walk_at "wp1"; try dsimp only [List.set_cons_zero, List.set_cons_succ, Bool.not_true, Bool.not_false]) | (walk_at "wp2"; try dsimp only [Bool.not_true, Bool.not_false]) | fail))
local macro_rules
  | `(tactic| walk_at "wp") => `(tactic| repeat' (first | (with_reducible refine Mm.v_if ?_) | (walk_at "wp1"; try dsimp only [List.set_cons_zero, List.set_cons_succ, Bool.not_true, Bool.not_false]) | (walk_at "wp2"; try dsimp only [Bool.not_true, Bool.not_false]) | fail))
local macro_rules
  | `(tactic| walk_at "def") => `(tactic| (refine Mm.w_def rfl ?_; simp only [List.map_cons, List.map_nil, List.cons_append, List.nil_append, List.replicate, Nat.reduceSub, List.replicate_succ, List.replicate_zero]))
def s1 : MV → Int
  | .tup [_, .int i, _, _] => i
  | _ => 0
theorem onS_births {f : Int → Bool} : ∀ (x below : List Int), (onS f below x).dropLast.map s1 = (births (winds f x)).map (1000 + ·)
  | [], below => by simp [onS, births, winds_nil]
  | b :: x, below => by
    have ih := onS_births (f := f) x (below ++ [b])
    rw [winds_cons]
    simp only [onS]
    have e : births ((winds f x).map fun p => (p.1 + 1, p.2)) = births (winds f x) := by unfold births; rw [List.map_map]; rfl
    unfold births at e ih ⊢
    split
    · rw [List.dropLast_cons_of_ne_nil (onS_ne _ _), List.map_cons, ih, List.map_append, List.map_append, e]
      rfl
    · rw [ih, List.nil_append, e]
end Law
end

section
namespace Law
open PySem L2 Mm
/-! the step of the pure proofs -/
local macro_rules
  | `(tactic| walk_at "wp side") => `(tactic| first | assumption | omega | decide)
local macro_rules
  | `(tactic| walk_at "wp1") => `(tactic| with_reducible first
    | refine Mm.v_seq ?_ | refine Mm.v_nx ?_ | refine Mm.v_asg ?_ | refine Mm.v_asgP ?_ | refine Mm.v_ret ?_ | refine Mm.v_retN ?_ | refine Mm.v_drop ?_ | refine Mm.v_set ?_ | refine Mm.v_aug ?_ | refine Mm.v_for ?_ | refine Mm.v_brk ?_ | refine Mm.v_ct ?_
    | refine Mm.w_con ?_ | refine Mm.w_op2 ?_ | refine Mm.w_op1 ?_ | refine Mm.w_opL ?_ | refine Mm.w_cons ?_ | refine Mm.w_nil ?_
    | refine Mm.w_add ?_ | refine Mm.w_sub ?_ | refine Mm.w_neg ?_ | refine Mm.w_lt ?_ | refine Mm.w_le ?_ | refine Mm.w_gt ?_ | refine Mm.w_ge ?_ | refine Mm.w_eqi ?_ | refine Mm.w_nei ?_ | refine Mm.w_eqs ?_ | refine Mm.w_nes ?_ | refine Mm.w_int ?_ | refine Mm.w_abs ?_ | refine Mm.w_isN ?_ | refine Mm.w_notN ?_ | refine Mm.w_min ?_ | refine Mm.w_max ?_
    | refine Mm.w_tru ?_ | refine Mm.w_blM ?_ | refine Mm.w_andB ?_ | refine Mm.w_orB ?_ | refine Mm.w_notB ?_ | refine Mm.w_ifV ?_ | refine Mm.w_andV ?_ | refine Mm.w_orV ?_ | refine Mm.w_notV ?_ | refine Mm.w_truB ?_ | refine Mm.w_truI ?_ | refine Mm.w_truN ?_ | refine Mm.w_truT ?_
    | refine Mm.w_dNewK ?_ | refine Mm.w_dNewT ?_ | refine Mm.w_iter ?_ | refine Mm.w_itmM ?_ | refine Mm.w_enm ?_ | refine Mm.w_enm2 ?_ | refine Mm.w_zip ?_ | refine Mm.w_rev ?_ | refine Mm.w_bm ?_ | refine Mm.w_lc ?_ | refine Mm.w_yes ?_ | refine Mm.br_t ?_ | refine Mm.br_f ?_ | refine Mm.w_slc ?_ | refine Mm.w_pno ?_ | refine Mm.w_pso ?_ | refine Mm.w_lenT ?_ | refine Mm.w_tupT ?_ | refine Mm.w_lstT ?_ | refine Mm.w_cutT ?_)
local macro_rules
  | `(tactic| walk_at "sto") => `(tactic| first
    | with_reducible assumption
    | with_reducible exact Mm.put_same
    | with_reducible exact Mm.add_same
    | (with_reducible refine (Mm.put_ne (by first | assumption | exact Ne.symm (by assumption) | ((try dsimp only [Mm.Sto.add, Mm.Sto.put]); omega))).trans ?_; walk_at "sto")
    | (with_reducible refine (Mm.add_ne (by first | assumption | exact Ne.symm (by assumption) | ((try dsimp only [Mm.Sto.add, Mm.Sto.put]); omega))).trans ?_; walk_at "sto")
    | fail)
local macro_rules
  | `(tactic| walk_at "wp2") => `(tactic| first
    | ((with_reducible apply Mm.w_var); · rfl)
    | ((with_reducible apply Mm.ex_mk); · with_reducible refine Mm.rng1 (by (try simp only [List.length_map]); omega))
    | ((with_reducible apply Mm.ex_mk); · with_reducible refine Mm.rng2 (by (try simp only [List.length_map]); omega))
    | ((with_reducible apply Mm.ex_mk); · rfl)
    | ((with_reducible refine Mm.br_true ?_ ?_); · rfl)
    | ((with_reducible refine Mm.br_false ?_ ?_); · rfl)
    | ((with_reducible refine Mm.w_mod ?_ ?_); · walk_at "wp side")
    | ((with_reducible refine Mm.w_div ?_ ?_ ?_); (· walk_at "wp side"); (· (first | decide | assumption)))
    | ((with_reducible refine Mm.w_mul ?_ ?_); · exact .inl (.inr (by decide)))
    | ((with_reducible refine Mm.w_mul ?_ ?_); · exact .inl (.inl (by decide)))
    | ((with_reducible refine Mm.w_mul ?_ ?_); · exact .inl (.inl (by omega)))
    | ((with_reducible refine Mm.w_mul ?_ ?_); · exact .inl (.inr (by omega)))
    | ((with_reducible refine Mm.w_pow ?_ ?_); · decide)
    | ((with_reducible refine Mm.w_lstV ?_ ?_); · (simp only [List.length_cons, List.length_nil]; decide))
    | ((with_reducible refine Mm.w_tupV ?_ ?_); · (simp only [List.length_cons, List.length_nil]; decide))
    | ((with_reducible apply Mm.w_idxL); (· walk_at "sto"); (· first | exact Mm.atI0 | exact Mm.atI1 | exact Mm.atI2 | exact Mm.atIl | rfl))
    | ((with_reducible apply Mm.w_idxC); (· walk_at "sto"); (· rfl))
    | ((with_reducible apply Mm.w_idxT); · first | exact Mm.atI0 | exact Mm.atI1 | exact Mm.atI2 | rfl)
    | ((with_reducible apply Mm.w_lenL); · walk_at "sto")
    | ((with_reducible apply Mm.w_lenC); · walk_at "sto")
    | ((with_reducible apply Mm.w_lenK); · walk_at "sto")
    | ((with_reducible apply Mm.w_tupL); · walk_at "sto")
    | ((with_reducible apply Mm.w_lstL); · walk_at "sto")
    | ((with_reducible apply Mm.w_cutL); · walk_at "sto")
    | ((with_reducible apply Mm.w_revL); · walk_at "sto")
    | ((with_reducible apply Mm.w_truL); · walk_at "sto")
    | ((with_reducible apply Mm.ex_mk); · exact Mm.it_lst (by walk_at "sto"))
    | ((with_reducible apply Mm.ex_mk); · exact Mm.it_con (by walk_at "sto"))
    | ((with_reducible apply Mm.ex_mk); · exact Mm.it_en2L (by walk_at "sto"))
    | ((with_reducible apply Mm.ex_mk); · exact Mm.it_en2C (by walk_at "sto"))
    | ((with_reducible apply Mm.ex_mk); · exact Mm.set_lst (by walk_at "sto") rfl)
    | ((with_reducible refine And.intro ?_ ?_); · exact Mm.ty_lst (by walk_at "sto"))
    | fail)
local macro_rules
  | `(tactic| walk_at "wq") => `(tactic| repeat' (first | (walk_at "wp1"; try dsimp only [List.set_cons_zero, List.set_cons_succ, Bool.not_true, Bool.not_false]) | (walk_at "wp2"; try dsimp only [Bool.not_true, Bool.not_false]) | fail))
local macro_rules
  | `(tactic| walk_at "wp") => `(tactic| repeat' (first | (with_reducible refine Mm.v_if ?_) | (walk_at "wp1"; try dsimp only [List.set_cons_zero, List.set_cons_succ, Bool.not_true, Bool.not_false]) | (walk_at "wp2"; try dsimp only [Bool.not_true, Bool.not_false]) | fail))
local macro_rules
  | `(tactic| walk_at "def") => `(tactic| (refine Mm.w_def rfl ?_; simp only [List.map_cons, List.map_nil, List.cons_append, List.nil_append, List.replicate, Nat.reduceSub, List.replicate_succ, List.replicate_zero]))
theorem offS_births {f g : Int → Bool} {B : List Int} (hne : ∀ b, f b = true → g b = false) : (offS f g B.reverse).dropLast.map s1 = ((births (winds f (B.drop (mc g B B.length)))).reverse).map (2000 + ·) := by
  have h := offS_eq (B := B) hne B.length (Nat.le_refl _)
  rw [List.take_length] at h
  rw [h, List.dropLast_concat, ← winds_above (mc_le g B B.length)]
  unfold births
  rw [List.map_map, ← List.map_reverse, List.map_map]
  exact List.map_congr_left fun p _ => rfl
theorem cutM_last {al : Type} (xs : List al) : cutM xs none (some (-1)) = xs.dropLast := by
  unfold cutM
  rw [HT.sIx_none, List.drop_zero, Nat.sub_zero]
  have : HT.sIx xs.length xs.length (some (-1)) = xs.length - 1 := by
    show (if (-1 : Int) < 0 then ((-1 : Int) + (xs.length : Int)).toNat else min (-1 : Int).toNat xs.length) = xs.length - 1
    rw [if_pos (by decide)]; omega
  rw [this, List.dropLast_eq_take]
end Law
end

section
namespace Law
open PySem L2 Mm
/-! the step of the pure proofs -/
local macro_rules
  | `(tactic| walk_at "wp side") => `(tactic| first | assumption | omega | decide)
local macro_rules
  | `(tactic| walk_at "wp1") => `(tactic| with_reducible first
    | refine Mm.v_seq ?_ | refine Mm.v_nx ?_ | refine Mm.v_asg ?_ | refine Mm.v_asgP ?_ | refine Mm.v_ret ?_ | refine Mm.v_retN ?_ | refine Mm.v_drop ?_ | refine Mm.v_set ?_ | refine Mm.v_aug ?_ | refine Mm.v_for ?_ | refine Mm.v_brk ?_ | refine Mm.v_ct ?_
    | refine Mm.w_con ?_ | refine Mm.w_op2 ?_ | refine Mm.w_op1 ?_ | refine Mm.w_opL ?_ | refine Mm.w_cons ?_ | refine Mm.w_nil ?_
    | refine Mm.w_add ?_ | refine Mm.w_sub ?_ | refine Mm.w_neg ?_ | refine Mm.w_lt ?_ | refine Mm.w_le ?_ | refine Mm.w_gt ?_ | refine Mm.w_ge ?_ | refine Mm.w_eqi ?_ | refine Mm.w_nei ?_ | refine Mm.w_eqs ?_ | refine Mm.w_nes ?_ | refine Mm.w_int ?_ | refine Mm.w_abs ?_ | refine Mm.w_isN ?_ | refine Mm.w_notN ?_ | refine Mm.w_min ?_ | refine Mm.w_max ?_
    | refine Mm.w_tru ?_ | refine Mm.w_blM ?_ | refine Mm.w_andB ?_ | refine Mm.w_orB ?_ | refine Mm.w_notB ?_ | refine Mm.w_ifV ?_ | refine Mm.w_andV ?_ | refine Mm.w_orV ?_ | refine Mm.w_notV ?_ | refine Mm.w_truB ?_ | refine Mm.w_truI ?_ | refine Mm.w_truN ?_ | refine Mm.w_truT ?_
    | refine Mm.w_dNewK ?_ | refine Mm.w_dNewT ?_ | refine Mm.w_iter ?_ | refine Mm.w_itmM ?_ | refine Mm.w_enm ?_ | refine Mm.w_enm2 ?_ | refine Mm.w_zip ?_ | refine Mm.w_rev ?_ | refine Mm.w_bm ?_ | refine Mm.w_lc ?_ | refine Mm.w_yes ?_ | refine Mm.br_t ?_ | refine Mm.br_f ?_ | refine Mm.w_slc ?_ | refine Mm.w_pno ?_ | refine Mm.w_pso ?_ | refine Mm.w_lenT ?_ | refine Mm.w_tupT ?_ | refine Mm.w_lstT ?_ | refine Mm.w_cutT ?_)
local macro_rules
  | `(tactic| walk_at "sto") => `(tactic| first
    | with_reducible assumption
    | with_reducible exact Mm.put_same
    | with_reducible exact Mm.add_same
    | (with_reducible refine (Mm.put_ne (by first | assumption | exact Ne.symm (by assumption) | ((try dsimp only [Mm.Sto.add, Mm.Sto.put]); omega))).trans ?_; walk_at "sto")
    | (with_reducible refine (Mm.add_ne (by first | assumption | exact Ne.symm (by assumption) | ((try dsimp only [Mm.Sto.add, Mm.Sto.put]); omega))).trans ?_; walk_at "sto")
    | fail)
local macro_rules
  | `(tactic| walk_at "wp2") => `(tactic| first
    | ((with_reducible apply Mm.w_var); · rfl)
    | ((with_reducible apply Mm.ex_mk); · with_reducible refine Mm.rng1 (by (try simp only [List.length_map]); omega))
    | ((with_reducible apply Mm.ex_mk); · with_reducible refine Mm.rng2 (by (try simp only [List.length_map]); omega))
    | ((with_reducible apply Mm.ex_mk); · rfl)
    | ((with_reducible refine Mm.br_true ?_ ?_); · rfl)
    | ((with_reducible refine Mm.br_false ?_ ?_); · rfl)
    | ((with_reducible refine Mm.w_mod ?_ ?_); · walk_at "wp side")
    | ((with_reducible refine Mm.w_div ?_ ?_ ?_); (· walk_at "wp side"); (· (first | decide | assumption)))
    | ((with_reducible refine Mm.w_mul ?_ ?_); · exact .inl (.inr (by decide)))
    | ((with_reducible refine Mm.w_mul ?_ ?_); · exact .inl (.inl (by decide)))
    | ((with_reducible refine Mm.w_mul ?_ ?_); · exact .inl (.inl (by omega)))
    | ((with_reducible refine Mm.w_mul ?_ ?_); · exact .inl (.inr (by omega)))
    | ((with_reducible refine Mm.w_pow ?_ ?_); · decide)
    | ((with_reducible refine Mm.w_lstV ?_ ?_); · (simp only [List.length_cons, List.length_nil]; decide))
    | ((with_reducible refine Mm.w_tupV ?_ ?_); · (simp only [List.length_cons, List.length_nil]; decide))
    | ((with_reducible apply Mm.w_idxL); (· walk_at "sto"); (· first | exact Mm.atI0 | exact Mm.atI1 | exact Mm.atI2 | exact Mm.atIl | rfl))
    | ((with_reducible apply Mm.w_idxC); (· walk_at "sto"); (· rfl))
    | ((with_reducible apply Mm.w_idxT); · first | exact Mm.atI0 | exact Mm.atI1 | exact Mm.atI2 | rfl)
    | ((with_reducible apply Mm.w_lenL); · walk_at "sto")
    | ((with_reducible apply Mm.w_lenC); · walk_at "sto")
    | ((with_reducible apply Mm.w_lenK); · walk_at "sto")
    | ((with_reducible apply Mm.w_tupL); · walk_at "sto")
    | ((with_reducible apply Mm.w_lstL); · walk_at "sto")
    | ((with_reducible apply Mm.w_cutL); · walk_at "sto")
    | ((with_reducible apply Mm.w_revL); · walk_at "sto")
    | ((with_reducible apply Mm.w_truL); · walk_at "sto")
    | ((with_reducible apply Mm.ex_mk); · exact Mm.it_lst (by walk_at "sto"))
    | ((with_reducible apply Mm.ex_mk); · exact Mm.it_con (by walk_at "sto"))
    | ((with_reducible apply Mm.ex_mk); · exact Mm.it_en2L (by walk_at "sto"))
    | ((with_reducible apply Mm.ex_mk); · exact Mm.it_en2C (by walk_at "sto"))
    | ((with_reducible apply Mm.ex_mk); · exact Mm.set_lst (by walk_at "sto") rfl)
    | ((with_reducible refine And.intro ?_ ?_); · exact Mm.ty_lst (by walk_at "sto"))
    | fail)
local macro_rules
  | `(tactic| walk_at "wq") => `(tactic| repeat' (first | (walk_at "wp1"; try dsimp only [List.set_cons_zero, List.set_cons_succ, Bool.not_true, Bool.not_false]) | (walk_at "wp2"; try dsimp only [Bool.not_true, Bool.not_false]) | fail))
local macro_rules
  | `(tactic| walk_at "wp") => `(tactic| repeat' (first | (with_reducible refine Mm.v_if ?_) | (walk_at "wp1"; try dsimp only [List.set_cons_zero, List.set_cons_succ, Bool.not_true, Bool.not_false]) | (walk_at "wp2"; try dsimp only [Bool.not_true, Bool.not_false]) | fail))
local macro_rules
  | `(tactic| walk_at "def") => `(tactic| (refine Mm.w_def rfl ?_; simp only [List.map_cons, List.map_nil, List.cons_append, List.nil_append, List.replicate, Nat.reduceSub, List.replicate_succ, List.replicate_zero]))
theorem v_par {i j : Nat} {ml : EMt (List MV)} {e : Sl} {S : Sto} {nx : Sl → Sto → Prop} {k : Kt} (h : Ret (ml e S) fun xs S1 => ∃ x y, xs = [x, y] ∧ nx ((e.set i (some x)).set j (some y)) S1) : RetS (parM i j ml e S) nx k := v_use (h.imp fun xs S1 hh => by
  obtain ⟨x, y, rfl, h2⟩ := hh; exact h2)
theorem onS_len {f : Int → Bool} : ∀ (fr below : List Int), ∀ x ∈ onS f below fr, ∀ b P F, x = onR b P F → F.length ≤ fr.length
  | [], below, x, h, b, P, F, e => by
    simp only [onS, List.mem_singleton] at h
    subst h
    simp only [arriveR, onR, MV.tup.injEq, List.cons.injEq, MV.str.injEq] at e
    exact absurd e.1 (by decide +kernel)
  | c :: r, below, x, h, b, P, F, e => by
    simp only [onS] at h
    split at h
    · rcases List.mem_cons.1 h with h | h
      · subst h
        simp only [onR, tuI, MV.tup.injEq, List.cons.injEq, and_true, true_and] at e
        have := congrArg List.length e.2.2
        simp only [List.length_map, List.length_cons] at this ⊢
        omega
      · have := onS_len r _ x h b P F e
        rw [List.length_cons]; omega
    · have := onS_len r _ x h b P F e
      rw [List.length_cons]; omega
theorem offS_noOn {f g : Int → Bool} : ∀ R : List Int, ∀ x ∈ offS f g R, ∀ b P F, x ≠ onR b P F
  | [], x, h, b, P, F, e => by
    simp only [offS, List.mem_singleton] at h
    subst h
    simp only [arriveR, onR, MV.tup.injEq, List.cons.injEq, MV.str.injEq] at e
    exact absurd e.1 (by decide +kernel)
  | c :: r, x, h, b, P, F, e => by
    simp only [offS] at h
    split at h
    · simp only [List.mem_singleton] at h
      subst h
      simp only [arriveR, onR, MV.tup.injEq, List.cons.injEq, MV.str.injEq] at e
      exact absurd e.1 (by decide +kernel)
    · split at h
      · rcases List.mem_cons.1 h with h | h
        · subst h
          simp only [leaveO, onR, MV.tup.injEq, List.cons.injEq, MV.str.injEq] at e
          exact absurd e.1 (by decide +kernel)
        · exact offS_noOn r x h b P F e
      · exact offS_noOn r x h b P F e
theorem onS_drop {f : Int → Bool} : ∀ (fr below : List Int), ∀ x ∈ (onS f below fr).dropLast, ∃ b P F, x = onR b P F
  | [], below, x, h => by simp [onS] at h
  | b :: r, below, x, h => by
    simp only [onS] at h
    split at h
    · rw [List.dropLast_cons_of_ne_nil (onS_ne _ _)] at h
      rcases List.mem_cons.1 h with rfl | h
      · exact ⟨_, _, _, rfl⟩
      · exact onS_drop r _ x h
    · exact onS_drop r _ x h
theorem offS_ne {f g : Int → Bool} : ∀ R : List Int, offS f g R ≠ []
  | [] => by simp [offS]
  | b :: r => by
    simp only [offS]
    split
    · simp
    · split
      · simp
      · exact offS_ne r
theorem offS_drop {f g : Int → Bool} : ∀ R : List Int, ∀ x ∈ (offS f g R).dropLast, ∃ b P, x = leaveO b P
  | [], x, h => by simp [offS] at h
  | b :: r, x, h => by
    simp only [offS] at h
    split at h
    · simp at h
    · split at h
      · rw [List.dropLast_cons_of_ne_nil (offS_ne _)] at h
        rcases List.mem_cons.1 h with rfl | h
        · exact ⟨_, _, rfl⟩
        · exact offS_drop r x h
      · exact offS_drop r x h
/-- [step[1] - c for step in steps[:-1]] -/
theorem s1s_ok {S : Sto} {e : Sl} {k : Nat} {c : Int} {L : List MV} {Q : MV → Sto → Prop} (he : e.length = 21) (hg : S.g k = .lst L) (hk : k < S.n) (hd : ∀ x ∈ L.dropLast, ∃ w i b r, x = .tup [.str w, .int i, b, r]) (hl : L.length ≤ 500)
    {ev : Nat} (hv : e[ev]? = some (some (.ref k))) (q : Q (.ref (S.n + 1)) ((S.add (.lst L.dropLast)).add (.lst (L.dropLast.map fun x => .int (s1 x - c))))) :
    Ret (lcM (iterM (slcM (varM ev) none (some (op1 negV (conM (.int 1)))))) (.nm 16) yesM (op2 subV (op2 idxV (varM 16) (conM (.int 1))) (conM (.int c))) [16] e S) Q := by
  have sz : (10000 : Nat) ≤ sizeLine := by decide
  walk_at "wq"
  refine w_var hv ?_
  walk_at "wq"
  rw [cutM_last]
  have hlen : L.dropLast.length ≤ 500 := by rw [List.length_dropLast]; omega
  refine w_lc0 (fun i acc S' => S' = S.add (.lst L.dropLast) ∧ acc = (L.dropLast.take i).map fun x => .int (s1 x - c)) ⟨rfl, rfl⟩ ?_ ?_
  · rintro i x acc S' hx ⟨rfl, rfl⟩
    obtain ⟨w, i', b, r, rfl⟩ := hd x (List.mem_of_getElem? hx)
    refine ⟨ck_l add_same, _, rfl, ?_⟩
    walk_at "wq"
    refine w_var (by rw [List.getElem?_set_self (by simp [wipeE, he])]) ?_
    walk_at "wq"
    refine ⟨by rw [List.length_map, List.length_take]; omega, rfl, ?_⟩
    rw [take_snoc hx, List.map_append, List.map_singleton]
    rfl
  · rintro acc S' ⟨rfl, rfl⟩
    rw [List.take_length]
    exact ⟨ck_l add_same, q⟩
end Law
end

section
namespace Law
open PySem L2 Mm
/-! the step of the pure proofs -/
local macro_rules
  | `(tactic| walk_at "wp side") => `(tactic| first | assumption | omega | decide)
local macro_rules
  | `(tactic| walk_at "wp1") => `(tactic| with_reducible first
    | refine Mm.v_seq ?_ | refine Mm.v_nx ?_ | refine Mm.v_asg ?_ | refine Mm.v_asgP ?_ | refine Mm.v_ret ?_ | refine Mm.v_retN ?_ | refine Mm.v_drop ?_ | refine Mm.v_set ?_ | refine Mm.v_aug ?_ | refine Mm.v_for ?_ | refine Mm.v_brk ?_ | refine Mm.v_ct ?_
    | refine Mm.w_con ?_ | refine Mm.w_op2 ?_ | refine Mm.w_op1 ?_ | refine Mm.w_opL ?_ | refine Mm.w_cons ?_ | refine Mm.w_nil ?_
    | refine Mm.w_add ?_ | refine Mm.w_sub ?_ | refine Mm.w_neg ?_ | refine Mm.w_lt ?_ | refine Mm.w_le ?_ | refine Mm.w_gt ?_ | refine Mm.w_ge ?_ | refine Mm.w_eqi ?_ | refine Mm.w_nei ?_ | refine Mm.w_eqs ?_ | refine Mm.w_nes ?_ | refine Mm.w_int ?_ | refine Mm.w_abs ?_ | refine Mm.w_isN ?_ | refine Mm.w_notN ?_ | refine Mm.w_min ?_ | refine Mm.w_max ?_
    | refine Mm.w_tru ?_ | refine Mm.w_blM ?_ | refine Mm.w_andB ?_ | refine Mm.w_orB ?_ | refine Mm.w_notB ?_ | refine Mm.w_ifV ?_ | refine Mm.w_andV ?_ | refine Mm.w_orV ?_ | refine Mm.w_notV ?_ | refine Mm.w_truB ?_ | refine Mm.w_truI ?_ | refine Mm.w_truN ?_ | refine Mm.w_truT ?_
    | refine Mm.w_dNewK ?_ | refine Mm.w_dNewT ?_ | refine Mm.w_iter ?_ | refine Mm.w_itmM ?_ | refine Mm.w_enm ?_ | refine Mm.w_enm2 ?_ | refine Mm.w_zip ?_ | refine Mm.w_rev ?_ | refine Mm.w_bm ?_ | refine Mm.w_lc ?_ | refine Mm.w_yes ?_ | refine Mm.br_t ?_ | refine Mm.br_f ?_ | refine Mm.w_slc ?_ | refine Mm.w_pno ?_ | refine Mm.w_pso ?_ | refine Mm.w_lenT ?_ | refine Mm.w_tupT ?_ | refine Mm.w_lstT ?_ | refine Mm.w_cutT ?_)
local macro_rules
  | `(tactic| walk_at "sto") => `(tactic| first
    | with_reducible assumption
    | with_reducible exact Mm.put_same
    | with_reducible exact Mm.add_same
    | (with_reducible refine (Mm.put_ne (by first | assumption | exact Ne.symm (by assumption) | ((try dsimp only [Mm.Sto.add, Mm.Sto.put]); omega))).trans ?_; walk_at "sto")
    | (with_reducible refine (Mm.add_ne (by first | assumption | exact Ne.symm (by assumption) | ((try dsimp only [Mm.Sto.add, Mm.Sto.put]); omega))).trans ?_; walk_at "sto")
    | fail)
local macro_rules
  | `(tactic| walk_at "wp2") => `(tactic| first
    | ((with_reducible apply Mm.w_var); · rfl)
    | ((with_reducible apply Mm.ex_mk); · with_reducible refine Mm.rng1 (by (try simp only [List.length_map]); omega))
    | ((with_reducible apply Mm.ex_mk); · with_reducible refine Mm.rng2 (by (try simp only [List.length_map]); omega))
    | ((with_reducible apply Mm.ex_mk); · rfl)
    | ((with_reducible refine Mm.br_true ?_ ?_); · rfl)
    | ((with_reducible refine Mm.br_false ?_ ?_); · rfl)
    | ((with_reducible refine Mm.w_mod ?_ ?_); · walk_at "wp side")
    | ((with_reducible refine Mm.w_div ?_ ?_ ?_); (· walk_at "wp side"); (· (first | decide | assumption)))
    | ((with_reducible refine Mm.w_mul ?_ ?_); · exact .inl (.inr (by decide)))
    | ((with_reducible refine Mm.w_mul ?_ ?_); · exact .inl (.inl (by decide)))
    | ((with_reducible refine Mm.w_mul ?_ ?_); · exact .inl (.inl (by omega)))
    | ((with_reducible refine Mm.w_mul ?_ ?_); · exact .inl (.inr (by omega)))
    | ((with_reducible refine Mm.w_pow ?_ ?_); · decide)
    | ((with_reducible refine Mm.w_lstV ?_ ?_); · (simp only [List.length_cons, List.length_nil]; decide))
    | ((with_reducible refine Mm.w_tupV ?_ ?_); · (simp only [List.length_cons, List.length_nil]; decide))
    | ((with_reducible apply Mm.w_idxL); (· walk_at "sto"); (· first | exact Mm.atI0 | exact Mm.atI1 | exact Mm.atI2 | exact Mm.atIl | rfl))
    | ((with_reducible apply Mm.w_idxC); (· walk_at "sto"); (· rfl))
    | ((with_reducible apply Mm.w_idxT); · first | exact Mm.atI0 | exact Mm.atI1 | exact Mm.atI2 | rfl)
    | ((with_reducible apply Mm.w_lenL); · walk_at "sto")
    | ((with_reducible apply Mm.w_lenC); · walk_at "sto")
    | ((with_reducible apply Mm.w_lenK); · walk_at "sto")
    | ((with_reducible apply Mm.w_tupL); · walk_at "sto")
    | ((with_reducible apply Mm.w_lstL); · walk_at "sto")
    | ((with_reducible apply Mm.w_cutL); · walk_at "sto")
    | ((with_reducible apply Mm.w_revL); · walk_at "sto")
    | ((with_reducible apply Mm.w_truL); · walk_at "sto")
    | ((with_reducible apply Mm.ex_mk); · exact Mm.it_lst (by walk_at "sto"))
    | ((with_reducible apply Mm.ex_mk); · exact Mm.it_con (by walk_at "sto"))
    | ((with_reducible apply Mm.ex_mk); · exact Mm.it_en2L (by walk_at "sto"))
    | ((with_reducible apply Mm.ex_mk); · exact Mm.it_en2C (by walk_at "sto"))
    | ((with_reducible apply Mm.ex_mk); · exact Mm.set_lst (by walk_at "sto") rfl)
    | ((with_reducible refine And.intro ?_ ?_); · exact Mm.ty_lst (by walk_at "sto"))
    | fail)
local macro_rules
  | `(tactic| walk_at "wq") => `(tactic| repeat' (first | (walk_at "wp1"; try dsimp only [List.set_cons_zero, List.set_cons_succ, Bool.not_true, Bool.not_false]) | (walk_at "wp2"; try dsimp only [Bool.not_true, Bool.not_false]) | fail))
local macro_rules
  | `(tactic| walk_at "wp") => `(tactic| repeat' (first | (with_reducible refine Mm.v_if ?_) | (walk_at "wp1"; try dsimp only [List.set_cons_zero, List.set_cons_succ, Bool.not_true, Bool.not_false]) | (walk_at "wp2"; try dsimp only [Bool.not_true, Bool.not_false]) | fail))
local macro_rules
  | `(tactic| walk_at "def") => `(tactic| (refine Mm.w_def rfl ?_; simp only [List.map_cons, List.map_nil, List.cons_append, List.nil_append, List.replicate, Nat.reduceSub, List.replicate_succ, List.replicate_zero]))
theorem law_ok : Mm.LawOk m_law := by
  intro ns hl _
  suffices h : Ret (m_law [.ref 0] (S0 ns)) fun x _ => x = .bl true by
    obtain ⟨x, S', e, rfl⟩ := h.eq
    exact ⟨S', e⟩
  have sz : (10000 : Nat) ≤ sizeLine := by decide
  unfold m_law
  walk_at "def"
  unfold b_law
  walk_at "wq"
  refine (hand_ok hl).imp ?_
  rintro _ S1 ⟨rfl, H1, n1⟩
  walk_at "wq"
  refine v_loop0 (fun i e S => Hd S 2 1 ∧ 3 ≤ S.n ∧ ∃ x2 x3 x4 x5 x6 x7 x8 x9 x10 x11 x12 x13 x14 x15 x16 x17 x18 x19 x20, e = [some (.ref 0), some (.ref 2), x2, x3, x4, x5, x6, x7, x8, x9, x10, x11, x12, x13, x14, x15, x16, x17, x18, x19, x20]) ⟨H1, by omega, _, _, _, _, _, _, _, _, _, _, _, _, _, _, _, _, _, _, _, rfl⟩ ?_ ?_
  rotate_left
  · rintro e S ⟨H, hn, x2, x3, x4, x5, x6, x7, x8, x9, x10, x11, x12, x13, x14, x15, x16, x17, x18, x19, x20, rfl⟩
    refine ⟨ck_n, ?_⟩
    walk_at "wq"
  rintro i xi e S hx ⟨H, hn, x2, x3, x4, x5, x6, x7, x8, x9, x10, x11, x12, x13, x14, x15, x16, x17, x18, x19, x20, rfl⟩
  refine ⟨ck_n, _, rfl, ?_⟩
  clear H1 n1 hx
  walk_at "wq"
  refine (draw H (by decide) (by decide)).imp ?_
  rintro _ S2 ⟨⟨r, r0, r1, rfl⟩, H2, B2⟩
  obtain ⟨m, hm⟩ := Int.eq_ofNat_of_zero_le (show (0 : Int) ≤ 1 + r by omega)
  have n2 : 3 ≤ S2.n := by rw [B2.1]; exact hn
  walk_at "wq"
  rw [hm]
  refine (things_ok H2 (by omega) (by omega) (by omega) (by omega)).imp ?_
  rintro _ S3 ⟨rfl, H3, E3, kvs, T3⟩
  have n3 := E3.1
  generalize S2.n = d at *
  have hdh : d ≠ 2 := by omega
  obtain ⟨DT, rdT, okT⟩ := T3.rd
  have mm := T3.m1
  walk_at "wq"
  refine w_repr (rdT _ T3.g) okT rfl ?_
  walk_at "wq"
  refine (pickL H3.add add_same (by omega) (by decide) (by decide)).imp ?_
  rintro x S4 ⟨hx4, H4, B4⟩
  obtain ⟨mo, rfl, hmo⟩ : ∃ mo : Nat, x = .int mo ∧ mo ≤ 30 := by
    simp only [List.mem_cons, List.not_mem_nil, or_false] at hx4
    rcases hx4 with rfl | rfl | rfl
    · exact ⟨6, rfl, by decide⟩
    · exact ⟨15, rfl, by decide⟩
    · exact ⟨30, rfl, by decide⟩
  have E4 : ExtH 2 S3 S4 := (ExtH.refl.add).trans B4.h
  have T4 := T3.ext E4 hdh
  have n4 := E4.1
  walk_at "wq"
  refine (row_ok H4 (by omega) T4 (by omega) hdh).imp ?_
  rintro _ S5 ⟨⟨B, rfl, lB, mB⟩, H5, E5⟩
  have T5 := T4.ext E5 hdh
  have n5 := E5.1
  walk_at "wq"
  refine (row_ok (most := 12) H5 (by omega) T5 (by omega) hdh).imp ?_
  rintro _ S6 ⟨⟨O, rfl, lO, mO⟩, H6, E6⟩
  have T6 := T5.ext E6 hdh
  have n6 := E6.1
  walk_at "wq"
  refine (loff_ok T6 mB (by omega)).imp ?_
  rintro _ S7 ⟨⟨k7, rfl, h70, h71, g7⟩, E7⟩
  have T7 := T6.ext E7.h hdh
  have n7 := E7.1
  walk_at "wq"
  refine v_if ?_
  walk_at "wq"
  have mBr : ∀ b ∈ B.reverse, b ∈ k1 m := fun b hb => mB b (List.mem_reverse.1 hb)
  have stO := offS_steps (kvs := kvs) (m := m) (d := d) B.reverse mBr (by simp; omega)
  obtain ⟨so1, so2⟩ := offS_sml (f := wnd kvs) (g := mrk kvs) mm B.reverse mBr (by simp; omega)
  rw [List.length_reverse] at so2
  obtain ⟨D1, rd1, ok1⟩ := rep_steps so1 (by omega)
  refine (next_off_ok T7 mB (by omega)).imp ?_
  rintro _ S8 ⟨rfl, rfl⟩
  walk_at "wq"
  refine (walked_ok T7 stO (offS_head _ _ _) (by omega)).imp ?_
  rintro _ S9 ⟨⟨k9, rfl, h90, h91, g9⟩, E9⟩
  have T9 := T7.ext E9.h hdh
  have n9 := E9.1
  have H9 := (H6.ext E7).ext E9
  have o9 := (E9.2 k7 h71).trans g7
  walk_at "wq"
  refine w_repr (rd1 _ _ g9) ok1 rfl ?_
  walk_at "wq"
  refine w_repr (rd1 _ _ o9) ok1 rfl ?_
  walk_at "wq"
  refine br_dec (fun h => absurd rfl h) (fun _ => ?_)
  walk_at "wq"
  refine (mark_cut_ok T9.g (T9.frs mB) (by omega)).imp ?_
  rintro _ S10 ⟨rfl, rfl⟩
  have cl := mc_le (mrk kvs) B B.length
  walk_at "wq"
  refine v_par ?_
  walk_at "wq"
  rw [cutM_to (by omega), Int.toNat_natCast, cutM_from (by omega), Int.toNat_natCast, ← List.map_take, ← List.map_drop]
  refine ⟨_, _, rfl, ?_⟩
  have mBt : ∀ b ∈ B.take (mc (mrk kvs) B B.length), b ∈ k1 m := fun b hb => mB b (List.mem_of_mem_take hb)
  have mBd : ∀ b ∈ B.drop (mc (mrk kvs) B B.length), b ∈ k1 m := fun b hb => mB b (List.mem_of_mem_drop hb)
  have lBt : (B.take (mc (mrk kvs) B B.length)).length ≤ 30 := by rw [List.length_take]; omega
  have lBd : (B.drop (mc (mrk kvs) B B.length)).length ≤ 30 := by rw [List.length_drop]; omega
  have offb := offS_births (f := wnd kvs) (g := mrk kvs) (B := B) (fun b h => by
    have h := of_decide_eq_true h
    rw [mrk, h]; decide +kernel)
  generalize B.take (mc (mrk kvs) B B.length) = Bt at *
  generalize B.drop (mc (mrk kvs) B B.length) = Pc at *
  try simp only [List.set_cons_zero, List.set_cons_succ]
  walk_at "wq"
  refine (lon_ok T9 mBd (by omega) (by omega)).imp ?_
  rintro _ S11 ⟨⟨k11, rfl, hk110, hk111, g11⟩, E11⟩
  have T11 := T9.ext E11.h hdh
  have n11 := E11.1
  have H11 := H9.ext E11
  have o11 := (E11.2 k7 (by omega)).trans o9
  walk_at "wq"
  refine v_if ?_
  walk_at "wq"
  refine (lay_ok T11 mBd (by omega) (by omega)).imp ?_
  rintro _ S12 ⟨rfl, rfl⟩
  walk_at "wq"
  obtain ⟨sn1, sn2⟩ := onS_sml (f := wnd kvs) mm Pc Bt mBd mBt (by omega) (by omega)
  obtain ⟨D2, rd2, ok2⟩ := rep_steps sn1 (by omega)
  refine (walked_ok T11 (onS_steps Pc Bt mBd (by omega)) (onS_head _ _ _) (by omega)).imp ?_
  rintro _ S13 ⟨⟨k13, rfl, hk130, hk131, g13⟩, E13⟩
  have T13 := T11.ext E13.h hdh
  have n13 := E13.1
  have H13 := H11.ext E13
  have o13 := (E13.2 k7 (by omega)).trans o11
  have p13 := (E13.2 k11 (by omega)).trans g11
  walk_at "wq"
  refine w_repr (rd2 _ _ g13) ok2 rfl ?_
  walk_at "wq"
  refine w_repr (rd2 _ _ p13) ok2 rfl ?_
  walk_at "wq"
  refine br_dec (fun h => absurd rfl h) (fun _ => ?_)
  walk_at "wq"
  have e1 : (onS (wnd kvs) Bt Pc).dropLast.map (fun x => MV.int (s1 x - 1000)) = (births (winds (wnd kvs) Pc)).map .int := by
    have := congrArg (List.map fun i => MV.int (i - 1000)) (onS_births (f := wnd kvs) Pc Bt)
    rw [List.map_map, List.map_map] at this
    refine Eq.trans this (List.map_congr_left fun z _ => ?_)
    show MV.int (1000 + z - 1000) = _
    rw [show 1000 + z - 1000 = z by omega]
  have e2 : ((offS (wnd kvs) (mrk kvs) B.reverse).dropLast.map (fun x => MV.int (s1 x - 2000))).reverse = (births (winds (wnd kvs) Pc)).map .int := by
    have := congrArg (List.map fun i => MV.int (i - 2000)) offb
    rw [List.map_map, List.map_map] at this
    refine (congrArg List.reverse (Eq.trans this (List.map_congr_left (g := MV.int) fun z _ => ?_))).trans ?_
    · show MV.int (2000 + z - 2000) = _
      rw [show 2000 + z - 2000 = z by omega]
    · rw [← List.map_reverse, List.reverse_reverse]
  refine v_if ?_
  refine w_blM ?_
  refine w_op2 ?_
  refine s1s_ok (k := k11) rfl p13 (by omega) (fun x hx => ?_) (by omega) rfl ?_
  · obtain ⟨b, P, F, rfl⟩ := onS_drop _ _ x hx
    exact ⟨_, _, _, _, rfl⟩
  refine w_op1 ?_
  refine s1s_ok (k := k7) rfl ((add_ne (by show k7 ≠ S13.n + 1; omega)).trans ((add_ne (by omega)).trans o13)) (by show k7 < S13.n + 1 + 1; omega) (fun x hx => ?_) (by omega) rfl ?_
  · obtain ⟨b, P, rfl⟩ := offS_drop _ x hx
    exact ⟨_, _, _, _, rfl⟩
  walk_at "wq"
  refine w_revL add_same ?_
  rw [e2, e1]
  refine w_neS (d := .list ((births (winds (wnd kvs) Pc)).map .int)) (toD_lst ((add_ne (by show S13.n + 1 ≠ S13.n + 1 + 1 + 1 + 1; omega)).trans ((add_ne (by show S13.n + 1 ≠ S13.n + 1 + 1 + 1; omega)).trans ((add_ne (by show S13.n + 1 ≠ S13.n + 1 + 1; omega)).trans add_same))) (fll_ints _)) (toD_lst add_same (fll_ints _)) (sh_of (shd_lst (n := 0) (shl_ints _))) ?_
  have E14 : Ext S13 _ := Ext.refl.add (o := .lst (onS (wnd kvs) Bt Pc).dropLast) |>.add (o := .lst ((births (winds (wnd kvs) Pc)).map .int)) |>.add (o := .lst (offS (wnd kvs) (mrk kvs) B.reverse).dropLast) |>.add (o := .lst ((offS (wnd kvs) (mrk kvs) B.reverse).dropLast.map fun x => .int (s1 x - 2000))) |>.add (o := .lst ((births (winds (wnd kvs) Pc)).map .int))
  generalize Sto.add (Sto.add (Sto.add (Sto.add (Sto.add S13 _) _) _) _) _ = S14 at *
  have T14 := T13.ext E14.h hdh
  have n14 := E14.1
  have H14 := H13.ext E14
  have o14 := (E14.2 k7 (by omega)).trans o13
  have p14 := (E14.2 k11 (by omega)).trans p13
  refine ⟨false, rfl, fun h => (by cases h), fun _ => ?_⟩
  walk_at "wq"
  refine (row_ok (most := 10) H14 (by omega) T14 (by omega) hdh).imp ?_
  rintro _ S15 ⟨⟨M, rfl, lM, mM⟩, H15, E15⟩
  have T15 := T14.ext E15 hdh
  have n15 := E15.1
  have o15 := (E15.2 k7 (by omega) (by omega)).trans o14
  have p15 := (E15.2 k11 (by omega) (by omega)).trans p14
  walk_at "wq"
  refine (lay_ok T15 mBd (by omega) (by omega)).imp ?_
  rintro _ S16 ⟨rfl, rfl⟩
  walk_at "wq"
  obtain ⟨fn1, fn2⟩ := onS_sml (f := wnd kvs) mm Pc O mBd mO (by omega) (by omega)
  refine (walked_ok T15 (onS_steps Pc O mBd (by omega)) (onS_head _ _ _) (by omega)).imp ?_
  rintro _ S17 ⟨⟨k17, rfl, hk170, hk171, g17⟩, E17⟩
  have T17 := T15.ext E17.h hdh
  have n17 := E17.1
  have H17 := H15.ext E17
  have o17 := (E17.2 k7 (by omega)).trans o15
  have p17 := (E17.2 k11 (by omega)).trans p15
  walk_at "wq"
  refine w_addt (by simp only [List.length_map]; omega) ?_
  rw [← List.map_append]
  have mOP : ∀ b ∈ O ++ Pc, b ∈ k1 m := fun b hb => (List.mem_append.1 hb).elim (mO b) (mBd b)
  walk_at "wq"
  refine (lay_ok (P := O ++ Pc) T17 mM (by rw [List.length_append]; omega) (by omega)).imp ?_
  rintro _ S18 ⟨rfl, rfl⟩
  walk_at "wq"
  obtain ⟨sc1, sc2⟩ := onS_sml (f := wnd kvs) mm M (O ++ Pc) mM mOP (by rw [List.length_append]; omega) (by omega)
  refine (walked_ok T17 (onS_steps M (O ++ Pc) mM (by rw [List.length_append]; omega)) (onS_head _ _ _) (by omega)).imp ?_
  rintro _ S19 ⟨⟨k19, rfl, hk190, hk191, g19⟩, E19⟩
  have T19 := T17.ext E19.h hdh
  have n19 := E19.1
  have H19 := H17.ext E19
  have o19 := (E19.2 k7 (by omega)).trans o17
  have p19 := (E19.2 k11 (by omega)).trans p17
  have f19 := (E19.2 k17 (by omega)).trans g17
  walk_at "wq"
  rw [cutM_last]
  have fdl : (onS (wnd kvs) O Pc).dropLast.length ≤ 100 := by rw [List.length_dropLast]; omega
  refine w_lc0 (fun i acc S' => S' = S19.add (.lst (onS (wnd kvs) O Pc).dropLast) ∧ acc = ((onS (wnd kvs) O Pc).dropLast.take i).map (extR M)) ⟨rfl, rfl⟩ ?_ ?_
  · rintro i x acc S' hx ⟨rfl, rfl⟩
    obtain ⟨b, P, F, rfl⟩ := onS_drop _ _ x (List.mem_of_getElem? hx)
    have lF := onS_len _ _ _ ((List.dropLast_sublist _).subset (List.mem_of_getElem? hx)) b P F rfl
    refine ⟨ck_l add_same, _, rfl, ?_⟩
    walk_at "wq"
    unfold tuI
    refine w_addt (by simp only [List.length_map]; omega) ?_
    walk_at "wq"
    refine ⟨by rw [List.length_map, List.length_take]; omega, rfl, ?_⟩
    rw [take_snoc hx, List.map_append, List.map_singleton]
    rfl
  · rintro acc S20 ⟨rfl, rfl⟩
    rw [List.take_length]
    refine ⟨ck_l add_same, ?_⟩
    walk_at "wq"
    refine w_addl add_same ((add_ne (by show k19 ≠ S19.n + 1; omega)).trans ((add_ne (by omega)).trans g19)) (by rw [List.length_map]; omega) ?_
    rw [← onS_app]
    have E20 : Ext S19 _ := Ext.refl.add (o := .lst (onS (wnd kvs) O Pc).dropLast) |>.add (o := .lst ((onS (wnd kvs) O Pc).dropLast.map (extR M))) |>.add (o := .lst (onS (wnd kvs) O (Pc ++ M)))
    have g20 : ((Sto.add (Sto.add (Sto.add S19 (.lst (onS (wnd kvs) O Pc).dropLast)) (.lst ((onS (wnd kvs) O Pc).dropLast.map (extR M)))) (.lst (onS (wnd kvs) O (Pc ++ M))))).g (S19.n + 1 + 1) = .lst (onS (wnd kvs) O (Pc ++ M)) := add_same
    rw [show ((S19.add (.lst (onS (wnd kvs) O Pc).dropLast)).add (.lst ((onS (wnd kvs) O Pc).dropLast.map (extR M)))).n = S19.n + 1 + 1 from rfl]
    generalize hS20 : Sto.add (Sto.add (Sto.add S19 _) _) _ = S20 at *
    have T20 := T19.ext E20.h hdh
    have n20 := E20.1
    have m20 : S20.n = S19.n + 1 + 1 + 1 := by rw [← hS20]; rfl
    clear hS20
    have H20 := H19.ext E20
    have o20 := (E20.2 k7 (by omega)).trans o19
    have p20 := (E20.2 k11 (by omega)).trans p19
    have q20 := (E20.2 k19 (by omega)).trans g19
    refine v_seq ?_
    refine v_if ?_
    walk_at "wq"
    refine w_addt (by simp only [List.length_map]; omega) ?_
    rw [← List.map_append]
    have mPM : ∀ b ∈ Pc ++ M, b ∈ k1 m := fun b hb => (List.mem_append.1 hb).elim (mBd b) (mM b)
    have lPM : (Pc ++ M).length ≤ 40 := by rw [List.length_append]; omega
    walk_at "wq"
    refine (lay_ok (F := Pc ++ M) T20 mPM (by omega) (by omega)).imp ?_
    rintro _ S21 ⟨rfl, rfl⟩
    walk_at "wq"
    obtain ⟨bn1, bn2⟩ := onS_sml (f := wnd kvs) mm (Pc ++ M) O mPM mO (by omega) (by omega)
    obtain ⟨D3, rd3, ok3⟩ := rep_steps bn1 (by omega)
    refine (walked_ok T20 (onS_steps (Pc ++ M) O mPM (by omega)) (onS_head _ _ _) (by omega)).imp ?_
    rintro _ S22 ⟨⟨k22, rfl, hk220, hk221, g22⟩, E22⟩
    have T22 := T20.ext E22.h hdh
    have n22 := E22.1
    have H22 := H20.ext E22
    have o22 := (E22.2 k7 (by omega)).trans o20
    have p22 := (E22.2 k11 (by omega)).trans p20
    have q22 := (E22.2 k19 (by omega)).trans q20
    have r22 := (E22.2 _ (by omega)).trans g20
    walk_at "wq"
    refine w_repr (rd3 _ _ g22) ok3 rfl ?_
    walk_at "wq"
    refine w_repr (rd3 _ _ r22) ok3 rfl ?_
    walk_at "wq"
    refine br_dec (fun h => absurd rfl h) (fun _ => ?_)
    walk_at "wq"
    obtain ⟨D4, rd4, ok4⟩ := rep_steps sc1 (by rw [List.length_append] at *; omega)
    refine v_if ?_
    walk_at "wq"
    refine w_repr (rd4 _ _ q22) ok4 rfl ?_
    walk_at "wq"
    refine w_addt (by simp only [List.length_map]; omega) ?_
    rw [← List.map_append]
    walk_at "wq"
    refine (lon_ok (P := O ++ Pc) T22 mM (by rw [List.length_append]; omega) (by omega)).imp ?_
    rintro _ S23 ⟨⟨k23, rfl, hk230, hk231, g23⟩, E23⟩
    have T23 := T22.ext E23.h hdh
    have n23 := E23.1
    have H23 := H22.ext E23
    have o23 := (E23.2 k7 (by omega)).trans o22
    have p23 := (E23.2 k11 (by omega)).trans p22
    walk_at "wq"
    refine w_repr (rd4 _ _ g23) ok4 rfl ?_
    walk_at "wq"
    refine br_dec (fun h => absurd rfl h) (fun _ => ?_)
    walk_at "wq"
    refine v_if ?_
    walk_at "wq"
    have offp : 0 < (offS (wnd kvs) (mrk kvs) B.reverse).length := List.length_pos_iff.2 (offS_ne _)
    have onp : 0 < (onS (wnd kvs) Bt Pc).length := List.length_pos_iff.2 (onS_ne _ _)
    refine (elsewhere_ok (k := k7) (O := O) H23 (by omega) T23 hdh o23 (by omega) offp (by omega) (offS_of _) mO (by omega) (fun b P F h => absurd rfl (offS_noOn _ _ h b P (b :: F)))).imp ?_
    rintro _ S24 ⟨rfl, H24, E24⟩
    have T24 := T23.ext E24 hdh
    have n24 := E24.1
    have p24 := (E24.2 k11 (by omega) (by omega)).trans p23
    walk_at "wq"
    refine (elsewhere_ok (k := k11) (O := O) H24 (by omega) T24 hdh p24 (by omega) onp (by omega) (onS_of _ _ mBd (by omega)) mO (by omega) (fun b P F h => by
      have := onS_len _ _ _ h b P (b :: F) rfl
      rw [List.length_cons] at this
      omega)).imp ?_
    rintro _ S25 ⟨rfl, H25, E25⟩
    have T25 := T24.ext E25 hdh
    have n25 := E25.1
    walk_at "wq"
    refine v_if ?_
    walk_at "wq"
    refine (to_elsewhere_ok (G := B) (O := O) H25 (by omega) T25 hdh mB mO (by omega) (by omega)).imp ?_
    rintro _ S26 ⟨rfl, H26, E26⟩
    have T26 := T25.ext E26 hdh
    have n26 := E26.1
    walk_at "wq"
    refine w_repr (rdT _ T26.g) okT rfl ?_
    walk_at "wq"
    refine ⟨by simp, fun _ => ?_⟩
    walk_at "wq"
    exact ⟨H26, by omega, _, _, _, _, _, _, _, _, _, _, _, _, _, _, _, _, _, _, _, rfl⟩
end Law
end

open PySem PySem.W PyProof.Rows
theorem PySem.Challenge.cw_goonagain_k11_whole_laying_on_and_taking_holds : PySem.Challenge.rw_goonagain_k11_whole_laying_on_and_taking.Holds := by
  w_on; o_law; k_head; (case hw => w_witness2)
  k_fill
  refine Mm.walkG (l := PySem.Challenge.rw_goonagain_k11_whole_laying_on_and_taking) (m := Law.m_law) (k := 8) rfl rfl ⟨rfl, by decide, by decide⟩ (fun w h Y => PySem.W.kIn_of Y) Law.law_ok ?F
  case F =>
    intro w mg fa h KX G hmg
    refine' Law.all_mk KX G hmg ?yy_a0 ?yy_l0 ?yy_c0 ?yy_k0 ?yy_a1 ?yy_l1 ?yy_c1 ?yy_k1 ?yy_a2 ?yy_l2 ?yy_c2 ?yy_k2 ?yy_a3 ?yy_l3 ?yy_c3 ?yy_k3 ?yy_a4 ?yy_l4 ?yy_c4 ?yy_k4 ?yy_a5 ?yy_l5 ?yy_c5 ?yy_k5 ?yy_a6 ?yy_l6 ?yy_c6 ?yy_k6 ?yy_a7 ?yy_l7 ?yy_c7 ?yy_k7 ?yy_a8 ?yy_l8 ?yy_c8 ?yy_k8 ?yy_a9 ?yy_l9 ?yy_c9 ?yy_k9 ?yy_a10 ?yy_l10 ?yy_c10 ?yy_k10 ?yy_a11 ?yy_l11 ?yy_c11 ?yy_k11 ?yy_a12 ?yy_l12 ?yy_c12 ?yy_k12 ?yy_a13 ?yy_l13 ?yy_c13 ?yy_k13 ?yy_a14 ?yy_l14 ?yy_c14 ?yy_k14 ?yy_a15 ?yy_l15 ?yy_c15 ?yy_k15 ?yy_a16 ?yy_l16 ?yy_c16 ?yy_k16 ?yy_a17 ?yy_l17 ?yy_c17 ?yy_k17 ?yy_a18 ?yy_l18 ?yy_c18 ?yy_k18 ?yy_a19 ?yy_l19 ?yy_c19 ?yy_k19 ?yy_a20 ?yy_l20 ?yy_c20 ?yy_k20 ?yy_a21 ?yy_l21 ?yy_c21 ?yy_k21 ?yy_z_enumerate ?yy_z_tuple ?yy_z_zip ?yy_z_reversed ?yy_z_len ?yy_z_range ?yy_z_int ?yy_z_abs ?yy_z_sorted ?yy_z_max ?yy_z_isinstance ?yy_z_repr
    (case yy_a0 => k_is)
    (case yy_l0 => k_is)
    (case yy_c0 => k_is)
    (case yy_k0 => k_is)
    (case yy_a1 => k_is)
    (case yy_l1 => k_is)
    (case yy_c1 => k_is)
    (case yy_k1 => k_is)
    (case yy_a2 => k_is)
    (case yy_l2 => k_is)
    (case yy_c2 => k_is)
    (case yy_k2 => k_is)
    (case yy_a3 => k_is)
    (case yy_l3 => k_is)
    (case yy_c3 => k_is)
    (case yy_k3 => k_is)
    (case yy_a4 => k_is)
    (case yy_l4 => k_is)
    (case yy_c4 => k_is)
    (case yy_k4 => k_is)
    (case yy_a5 => k_is)
    (case yy_l5 => k_is)
    (case yy_c5 => k_is)
    (case yy_k5 => k_is)
    (case yy_a6 => k_is)
    (case yy_l6 => k_is)
    (case yy_c6 => k_is)
    (case yy_k6 => k_is)
    (case yy_a7 => k_is)
    (case yy_l7 => k_is)
    (case yy_c7 => k_is)
    (case yy_k7 => k_is)
    (case yy_a8 => k_is)
    (case yy_l8 => k_is)
    (case yy_c8 => k_is)
    (case yy_k8 => k_is)
    (case yy_a9 => k_is)
    (case yy_l9 => k_is)
    (case yy_c9 => k_is)
    (case yy_k9 => k_is)
    (case yy_a10 => k_is)
    (case yy_l10 => k_is)
    (case yy_c10 => k_is)
    (case yy_k10 => k_is)
    (case yy_a11 => k_is)
    (case yy_l11 => k_is)
    (case yy_c11 => k_is)
    (case yy_k11 => k_is)
    (case yy_a12 => k_is)
    (case yy_l12 => k_is)
    (case yy_c12 => k_is)
    (case yy_k12 => k_is)
    (case yy_a13 => k_is)
    (case yy_l13 => k_is)
    (case yy_c13 => k_is)
    (case yy_k13 => k_is)
    (case yy_a14 => k_is)
    (case yy_l14 => k_is)
    (case yy_c14 => k_is)
    (case yy_k14 => k_is)
    (case yy_a15 => k_is)
    (case yy_l15 => k_is)
    (case yy_c15 => k_is)
    (case yy_k15 => k_is)
    (case yy_a16 => k_is)
    (case yy_l16 => k_is)
    (case yy_c16 => k_is)
    (case yy_k16 => k_is)
    (case yy_a17 => k_is)
    (case yy_l17 => k_is)
    (case yy_c17 => k_is)
    (case yy_k17 => k_is)
    (case yy_a18 => k_is)
    (case yy_l18 => k_is)
    (case yy_c18 => k_is)
    (case yy_k18 => k_is)
    (case yy_a19 => k_is)
    (case yy_l19 => k_is)
    (case yy_c19 => k_is)
    (case yy_k19 => k_is)
    (case yy_a20 => k_is)
    (case yy_l20 => k_is)
    (case yy_c20 => k_is)
    (case yy_k20 => k_is)
    (case yy_a21 => k_is)
    (case yy_l21 => k_is)
    (case yy_c21 => k_is)
    (case yy_k21 => k_is)
    (case yy_z_enumerate => k_is)
    (case yy_z_tuple => k_is)
    (case yy_z_zip => k_is)
    (case yy_z_reversed => k_is)
    (case yy_z_len => k_is)
    (case yy_z_range => k_is)
    (case yy_z_int => k_is)
    (case yy_z_abs => k_is)
    (case yy_z_sorted => k_is)
    (case yy_z_max => k_is)
    (case yy_z_isinstance => k_is)
    (case yy_z_repr => k_is)
