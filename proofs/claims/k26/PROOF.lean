import PyProof.Rows.All
import Wide.All
import OpenK.AllK
import Wide.FinOn
import HandS.ForMost
import HandS.ForExc
import HandS.EndBits
import HandS.Wide
import HandS.Walk
import HandS.Zip
import HandS.Conv
import HandS.CallSlots
import HandS.Flow
import HandS.TupAny
import HandS.IsInst
import HandS.Style
import HandS.More
import HandS.Text
import HandS.TupLen
import HandS.NoneIn
import HandS.Rev
import PyProof.ReprRoads
import HandS.RaiseMore
import KE.GoesMore
import HandS.OwnEq
import HandS.ExcField
import HandS.ExcIs
import HandS.ExcInit
import HandS.ExcValue
import HandS.OwnIter
import HandS.IterVal
import KE.KExcMake
import KE.GoesZip
import KE.GoesEnum
import HandS.TupMul
import HandS.Deep
import PySem.Challenge.RW_goonagain_k26_once_in_the_place_of_keep
set_option Elab.async false
set_option linter.all false
set_option maxRecDepth 100000
set_option maxHeartbeats 4000000
section
/-! ## M, part 1: values, stores, what stands for what -/
namespace Mm
open PySem L2

/-- a value: tuples by value, what changes by a number into the store, things of the written part by their address -/
inductive MV where
  | non | bl (b : Bool) | int (i : Int) | str (x : Str) | ty (n : String) | obj (a : Addr) | ref (k : Nat) | tup (xs : List MV)

instance : Inhabited MV := ⟨.non⟩
/-- a class of the program: its number, its address -/
structure CId where
  nm : Nat
  ad : Addr
deriving DecidableEq
/-- what stands in the store -/
inductive MO where
  | lst (xs : List MV) | con (xs : List MV) | dK (kvs : List (Key × MV)) | dT (kvs : List (List Key × MV)) | ins (C : CId) (fs : List (Str × MV)) | exn (C : CId) (fs : List (Str × MV))
def MO.mut : MO → Bool
  | .con _ => false
  | _ => true
structure Sto where
  n : Nat
  g : Nat → MO
def Sto.put (S : Sto) (k : Nat) (o : MO) : Sto := ⟨S.n, fun j => if j = k then o else S.g j⟩
def Sto.add (S : Sto) (o : MO) : Sto := ⟨S.n + 1, fun j => if j = S.n then o else S.g j⟩
@[simp] theorem Sto.put_n (S : Sto) (k o) : (S.put k o).n = S.n := rfl
@[simp] theorem Sto.add_n (S : Sto) (o) : (S.add o).n = S.n + 1 := rfl
theorem Sto.put_g (S : Sto) (k o j) : (S.put k o).g j = if j = k then o else S.g j := rfl
theorem Sto.add_g (S : Sto) (o j) : (S.add o).g j = if j = S.n then o else S.g j := rfl

/-- an exception's object: its class, its dict -/
def ExT (cls : Value) (d : Option Addr) (a : Addr) : HO := .ext fun h => ∃ oe vs, h.get? a = some oe ∧ Zc cls d oe ∧ oe.data = .fields vs
section
variable (K : PySem.W.Frag) (rho : Nat → Addr) (n : Nat) (H : Hp)
mutual
/-- the value v stands for x -/
def Rep : MV → V → Prop
  | .non, v => v = .non
  | .bl b, v => v = .bl b
  | .int i, v => v = .int i
  | .str x, v => v = .str x
  | .ty t, v => v = .ty t
  | .obj a, v => v = .ref a
  | .ref k, v => k < n ∧ v = .ref (rho k)
  | .tup xs, v => ∃ a vs, v = .ref a ∧ SqT K H a vs ∧ RepL xs vs
def RepL : List MV → List V → Prop
  | [], vs => vs = []
  | x :: xs, vs => ∃ v r, vs = v :: r ∧ Rep x v ∧ RepL xs r
end
/-- pairs -/
def RepP {k : Type} : List (k × MV) → List (k × V) → Prop
  | [], ws => ws = []
  | p :: ps, ws => ∃ v r, ws = (p.1, v) :: r ∧ Rep K rho n H p.2 v ∧ RepP ps r
/-- an exception's fields -/
def RepF (d : Option Addr) (fs : List (Str × MV)) : Prop := (d = none ∧ fs = []) ∨ ∃ a ws, d = some a ∧ H a = some (.xd ws) ∧ RepP K rho n H fs ws
def RepO (a : Addr) : MO → Prop
  | .lst xs => ∃ vs, H a = some (.lst vs) ∧ RepL K rho n H xs vs
  | .con xs => ∃ vs, ((∃ o, H a = some (.frz o (.lst vs))) ∨ ∃ (o : Obj) (its : Array Value) (m : Nat), K.lookup a = some o ∧ o.cls = .type "list" ∧ o.dict = none ∧ o.data = .seq its m ∧ its.size ≤ sizeLine ∧ Vals vs its.toList) ∧ RepL K rho n H xs vs
  | .dK kvs => ∃ ws, H a = some (.dK ws) ∧ RepP K rho n H kvs ws
  | .dT kvs => ∃ ws, H a = some (.dT ws) ∧ RepP K rho n H kvs ws
  | .ins C fs => ∃ dx ws, H a = some (.ins C.ad dx ws) ∧ RepP K rho n H fs ws
  | .exn C fs => ∃ d, H a = some (ExT (.ref C.ad) d a) ∧ RepF K rho n H d fs
end

/-- the store S stands in the abstract heap H, number k at rho k -/
structure Sim (K : PySem.W.Frag) (rho : Nat → Addr) (S : Sto) (H : Hp) : Prop where
  inj : ∀ i j, i < S.n → j < S.n → (S.g i).mut = true → (S.g j).mut = true → rho i = rho j → i = j
  obj : ∀ i, i < S.n → RepO K rho S.n H (rho i) (S.g i)
/-- what comes behind: numbers and tuples stay, what the store does not know stays -/
structure Le (K : PySem.W.Frag) (rho : Nat → Addr) (S : Sto) (H : Hp) (rho' : Nat → Addr) (S' : Sto) (H' : Hp) : Prop where
  n : S.n ≤ S'.n
  r : ∀ i, i < S.n → rho' i = rho i
  tup : ∀ a vs, SqT K H a vs → SqT K H' a vs
  fr : ∀ a o, H a = some o → (∀ i, i < S.n → (S.g i).mut = true → rho i ≠ a) → H' a = some o
  new : ∀ i, S.n ≤ i → i < S'.n → H (rho' i) = none
  th : ∀ a, H' a = none → H a = none
  mu : ∀ i, i < S.n → (S'.g i).mut = (S.g i).mut

section
variable {K : PySem.W.Frag} {rho rho' rho2 : Nat → Addr} {n n' : Nat} {H H' H2 : Hp} {S S' S2 : Sto} {x y : MV} {v : V}
mutual
theorem Rep.mono (hn : n ≤ n') (hr : ∀ i, i < n → rho' i = rho i) (ht : ∀ a vs, SqT K H a vs → SqT K H' a vs) : ∀ {x : MV} {v : V}, Rep K rho n H x v → Rep K rho' n' H' x v
  | .non, _, h => h
  | .bl _, _, h => h
  | .int _, _, h => h
  | .str _, _, h => h
  | .ty _, _, h => h
  | .obj _, _, h => h
  | .ref k, v, h => by
    obtain ⟨h1, h2⟩ := h
    exact ⟨Nat.lt_of_lt_of_le h1 hn, by rw [hr k h1]; exact h2⟩
  | .tup xs, v, h => by
    obtain ⟨a, vs, h1, h2, h3⟩ := h
    exact ⟨a, vs, h1, ht a vs h2, RepL.mono hn hr ht h3⟩
theorem RepL.mono (hn : n ≤ n') (hr : ∀ i, i < n → rho' i = rho i) (ht : ∀ a vs, SqT K H a vs → SqT K H' a vs) : ∀ {xs : List MV} {vs : List V}, RepL K rho n H xs vs → RepL K rho' n' H' xs vs
  | [], _, h => h
  | x :: xs, vs, h => by
    obtain ⟨w, r, h1, h2, h3⟩ := h
    exact ⟨w, r, h1, Rep.mono hn hr ht h2, RepL.mono hn hr ht h3⟩
end
theorem RepP.mono {k : Type} (hn : n ≤ n') (hr : ∀ i, i < n → rho' i = rho i) (ht : ∀ a vs, SqT K H a vs → SqT K H' a vs) : ∀ {ps : List (k × MV)} {ws : List (k × V)}, RepP K rho n H ps ws → RepP K rho' n' H' ps ws
  | [], _, h => h
  | p :: ps, ws, h => by
    obtain ⟨w, r, h1, h2, h3⟩ := h
    exact ⟨w, r, h1, Rep.mono hn hr ht h2, RepP.mono hn hr ht h3⟩
theorem Rep.le (h : Rep K rho S.n H x v) (l : Le K rho S H rho' S' H') : Rep K rho' S'.n H' x v := Rep.mono l.n l.r l.tup h
theorem RepL.le {xs : List MV} {vs : List V} (h : RepL K rho S.n H xs vs) (l : Le K rho S H rho' S' H') : RepL K rho' S'.n H' xs vs := RepL.mono l.n l.r l.tup h
theorem RepP.le {k : Type} {ps : List (k × MV)} {ws : List (k × V)} (h : RepP K rho S.n H ps ws) (l : Le K rho S H rho' S' H') : RepP K rho' S'.n H' ps ws := RepP.mono l.n l.r l.tup h
theorem Le.refl : Le K rho S H rho S H := ⟨Nat.le_refl _, fun _ _ => rfl, fun _ _ h => h, fun _ _ h _ => h, fun i h1 h2 => absurd h2 (by omega), fun _ h => h, fun _ _ => rfl⟩
theorem Le.trans (a : Le K rho S H rho' S' H') (b : Le K rho' S' H' rho2 S2 H2) : Le K rho S H rho2 S2 H2 where
  n := Nat.le_trans a.n b.n
  r := fun i h => by rw [b.r i (Nat.lt_of_lt_of_le h a.n), a.r i h]
  tup := fun c vs h => b.tup c vs (a.tup c vs h)
  fr := fun c o h hc => by
    refine b.fr c o (a.fr c o h hc) fun i hi hm => ?_
    by_cases hs : i < S.n
    · rw [a.r i hs]; exact hc i hs (by rw [← a.mu i hs]; exact hm)
    · intro e
      have := a.new i (by omega) hi
      rw [e, h] at this; cases this
  new := fun i h1 h2 => by
    by_cases hs : i < S'.n
    · rw [b.r i hs]; exact a.new i h1 hs
    · exact a.th _ (b.new i (by omega) h2)
  th := fun c h => a.th c (b.th c h)
  mu := fun i hi => by rw [b.mu i (Nat.lt_of_lt_of_le hi a.n), a.mu i hi]

/-! ### lists of values -/
theorem RepL.len : ∀ {xs : List MV} {vs : List V}, RepL K rho n H xs vs → vs.length = xs.length
  | [], vs, h => by rw [show vs = [] from h]; rfl
  | x :: xs, vs, h => by
    obtain ⟨w, r, h1, _, h3⟩ := h
    rw [h1, List.length_cons, List.length_cons, RepL.len h3]
theorem RepL.get : ∀ {xs : List MV} {vs : List V} {i : Nat} {x : MV}, RepL K rho n H xs vs → xs[i]? = some x → ∃ v, vs[i]? = some v ∧ Rep K rho n H x v
  | [], _, _, _, _, e => by simp at e
  | y :: ys, vs, 0, x, h, e => by
    obtain ⟨w, r, h1, h2, _⟩ := h
    simp at e; subst e; subst h1
    exact ⟨w, rfl, h2⟩
  | y :: ys, vs, i + 1, x, h, e => by
    obtain ⟨w, r, h1, _, h3⟩ := h
    subst h1
    obtain ⟨u, q1, q2⟩ := RepL.get (i := i) (x := x) h3 (by simpa using e)
    exact ⟨u, by simpa using q1, q2⟩
theorem RepL.back : ∀ {xs : List MV} {vs : List V} {i : Nat} {v : V}, RepL K rho n H xs vs → vs[i]? = some v → ∃ x, xs[i]? = some x ∧ Rep K rho n H x v := fun {xs vs i v} h e => by
  have hl := h.len
  have hi : i < vs.length := (List.getElem?_eq_some_iff.mp e).1
  have hx : xs[i]? = some xs[i] := List.getElem?_eq_getElem (by omega)
  obtain ⟨u, q1, q2⟩ := h.get hx
  rw [e] at q1; cases q1
  exact ⟨_, hx, q2⟩
theorem RepL.app : ∀ {xs ys : List MV} {vs ws : List V}, RepL K rho n H xs vs → RepL K rho n H ys ws → RepL K rho n H (xs ++ ys) (vs ++ ws)
  | [], ys, vs, ws, h, q => by rw [show vs = [] from h]; exact q
  | x :: xs, ys, vs, ws, h, q => by
    obtain ⟨w, r, h1, h2, h3⟩ := h
    subst h1
    exact ⟨w, r ++ ws, rfl, h2, RepL.app h3 q⟩
theorem RepL.one (h : Rep K rho n H x v) : RepL K rho n H [x] [v] := ⟨v, [], rfl, h, rfl⟩
theorem RepL.take : ∀ (m : Nat) {xs : List MV} {vs : List V}, RepL K rho n H xs vs → RepL K rho n H (xs.take m) (vs.take m)
  | 0, _, _, _ => by simp [RepL]
  | m + 1, [], vs, h => by rw [show vs = [] from h]; rfl
  | m + 1, x :: xs, vs, h => by
    obtain ⟨w, r, h1, h2, h3⟩ := h
    subst h1
    exact ⟨w, r.take m, rfl, h2, RepL.take m h3⟩
theorem RepL.drop : ∀ (m : Nat) {xs : List MV} {vs : List V}, RepL K rho n H xs vs → RepL K rho n H (xs.drop m) (vs.drop m)
  | 0, _, _, h => h
  | m + 1, [], vs, h => by rw [show vs = [] from h]; rfl
  | m + 1, x :: xs, vs, h => by
    obtain ⟨w, r, h1, h2, h3⟩ := h
    subst h1
    exact RepL.drop m h3
theorem RepL.set : ∀ (i : Nat) {xs : List MV} {vs : List V}, RepL K rho n H xs vs → Rep K rho n H x v → RepL K rho n H (xs.set i x) (vs.set i v)
  | _, [], vs, h, _ => by rw [show vs = [] from h]; rfl
  | 0, y :: xs, vs, h, q => by
    obtain ⟨w, r, h1, _, h3⟩ := h
    subst h1
    exact ⟨v, r, rfl, q, h3⟩
  | i + 1, y :: xs, vs, h, q => by
    obtain ⟨w, r, h1, h2, h3⟩ := h
    subst h1
    exact ⟨w, r.set i v, rfl, h2, RepL.set i h3 q⟩
theorem RepL.rev {xs : List MV} {vs : List V} (h : RepL K rho n H xs vs) : RepL K rho n H xs.reverse vs.reverse := by
  induction xs generalizing vs with
  | nil => rw [show vs = [] from h]; rfl
  | cons x xs ih =>
    obtain ⟨w, r, h1, h2, h3⟩ := h
    subst h1
    rw [List.reverse_cons, List.reverse_cons]
    exact (ih h3).app (RepL.one h2)
theorem RepL.nil_iff {xs : List MV} {vs : List V} (h : RepL K rho n H xs vs) : vs = [] ↔ xs = [] := by
  have := h.len
  constructor
  · intro e; subst e; cases xs with
    | nil => rfl
    | cons => simp at this
  · intro e; subst e; cases vs with
    | nil => rfl
    | cons => simp at this
theorem RepL.dropLast {xs : List MV} {vs : List V} (h : RepL K rho n H xs vs) : RepL K rho n H xs.dropLast vs.dropLast := by
  rw [List.dropLast_eq_take, List.dropLast_eq_take, h.len]
  exact RepL.take _ h
theorem RepL.eraseIdx : ∀ (i : Nat) {xs : List MV} {vs : List V}, RepL K rho n H xs vs → RepL K rho n H (xs.eraseIdx i) (vs.eraseIdx i)
  | _, [], vs, h => by rw [show vs = [] from h]; rfl
  | 0, y :: xs, vs, h => by
    obtain ⟨w, r, h1, _, h3⟩ := h
    subst h1
    exact h3
  | i + 1, y :: xs, vs, h => by
    obtain ⟨w, r, h1, h2, h3⟩ := h
    subst h1
    exact ⟨w, r.eraseIdx i, rfl, h2, RepL.eraseIdx i h3⟩

/-! ### stores that change -/
def isMut : Option HO → Prop
  | none => True
  | some o => Mut (some o)
theorem sqT_upd {a : Addr} {o : HO} (hm : isMut (H a)) {b : Addr} {vs : List V} (h : SqT K H b vs) : SqT K (upd H a o) b vs := by
  rcases h with (h | ⟨ob, h⟩) | h
  · refine .inl (.inl ?_)
    rw [upd_ne]; exact h
    intro e; subst e; rw [h] at hm; exact hm
  · refine .inl (.inr ⟨ob, ?_⟩)
    rw [upd_ne]; exact h
    intro e; subst e; rw [h] at hm; exact hm
  · exact .inr h
/-- what stands for a number that may change is known as such -/
theorem RepO.tracked {a : Addr} {o : MO} (h : RepO K rho n H a o) (hm : o.mut = true) : ∃ u, H a = some u ∧ Mut (some u) := by
  cases o with
  | lst xs => obtain ⟨vs, h1, _⟩ := h; exact ⟨_, h1, trivial⟩
  | con xs => cases hm
  | dK kvs => obtain ⟨vs, h1, _⟩ := h; exact ⟨_, h1, trivial⟩
  | dT kvs => obtain ⟨vs, h1, _⟩ := h; exact ⟨_, h1, trivial⟩
  | ins C fs => obtain ⟨dx, vs, h1, _⟩ := h; exact ⟨_, h1, trivial⟩
  | exn C fs => obtain ⟨d, h1, _⟩ := h; exact ⟨_, h1, trivial⟩
theorem RepF.mono {d : Option Addr} {fs : List (Str × MV)} (h : RepF K rho n H d fs) (hn : n ≤ n') (hr : ∀ i, i < n → rho' i = rho i) (ht : ∀ a vs, SqT K H a vs → SqT K H' a vs) (hx : ∀ a ws, H a = some (.xd ws) → H' a = some (.xd ws)) : RepF K rho' n' H' d fs := by
  rcases h with h | ⟨a, ws, h1, h2, h3⟩
  · exact .inl h
  · exact .inr ⟨a, ws, h1, hx a ws h2, RepP.mono hn hr ht h3⟩
theorem xd_upd {a : Addr} {o : HO} (hm : isMut (H a)) {b : Addr} {ws : List (Str × V)} (h : H b = some (.xd ws)) : upd H a o b = some (.xd ws) := by
  rw [upd_ne]
  · exact h
  · intro e; subst e; rw [h] at hm; exact hm
theorem RepO.con_stay {a b : Addr} {xs : List MV} {u : HO} (hm : isMut (H b)) (h : RepO K rho n H a (.con xs)) (hr : ∀ i, i < n → rho' i = rho i) (hn : n ≤ n') : RepO K rho' n' (upd H b u) a (.con xs) := by
  obtain ⟨vs, h1, h2⟩ := h
  refine ⟨vs, ?_, RepL.mono hn hr (fun _ _ => sqT_upd hm) h2⟩
  rcases h1 with ⟨o, h1⟩ | h1
  · refine .inl ⟨o, ?_⟩
    rw [upd_ne]; exact h1
    intro e; subst e; rw [h1] at hm; exact hm
  · exact .inr h1
/-- an object elsewhere is changed -/
theorem RepO.stay {a b : Addr} {o : MO} {u : HO} (hm : isMut (H b)) (hne : o.mut = true → a ≠ b) (h : RepO K rho n H a o) (hr : ∀ i, i < n → rho' i = rho i) (hn : n ≤ n') : RepO K rho' n' (upd H b u) a o := by
  have ht : ∀ c vs, SqT K H c vs → SqT K (upd H b u) c vs := fun _ _ => sqT_upd hm
  cases o with
  | lst xs => obtain ⟨vs, h1, h2⟩ := h; exact ⟨vs, by rw [upd_ne (hne rfl)]; exact h1, RepL.mono hn hr ht h2⟩
  | con xs => exact RepO.con_stay hm h hr hn
  | dK kvs => obtain ⟨vs, h1, h2⟩ := h; exact ⟨vs, by rw [upd_ne (hne rfl)]; exact h1, RepP.mono hn hr ht h2⟩
  | dT kvs => obtain ⟨vs, h1, h2⟩ := h; exact ⟨vs, by rw [upd_ne (hne rfl)]; exact h1, RepP.mono hn hr ht h2⟩
  | ins C fs => obtain ⟨dx, vs, h1, h2⟩ := h; exact ⟨dx, vs, by rw [upd_ne (hne rfl)]; exact h1, RepP.mono hn hr ht h2⟩
  | exn C fs => obtain ⟨d, h1, h2⟩ := h; exact ⟨d, by rw [upd_ne (hne rfl)]; exact h1, h2.mono hn hr ht fun _ _ => xd_upd hm⟩

def ext (rho : Nat → Addr) (n : Nat) (p : Addr) : Nat → Addr := fun i => if i = n then p else rho i
theorem ext_lt {p : Addr} {i : Nat} (h : i < n) : ext rho n p i = rho i := by unfold ext; rw [if_neg (by omega)]
theorem ext_at {p : Addr} : ext rho n p n = p := by unfold ext; rw [if_pos rfl]
/-- something new that the store does not know (a tuple, the dict of an instance) -/
theorem Sim.ofNew (s : Sim K rho S H) {p : Addr} {u : HO} (hp : H p = none) : Sim K rho S (upd H p u) where
  inj := s.inj
  obj := fun i hi => RepO.stay (by unfold isMut; rw [hp]; trivial) (fun hm => by
    obtain ⟨o, h1, _⟩ := (s.obj i hi).tracked hm
    exact ne_of_none h1 hp) (s.obj i hi) (fun _ _ => rfl) (Nat.le_refl _)
theorem Le.ofNew {p : Addr} {u : HO} (hp : H p = none) : Le K rho S H rho S (upd H p u) where
  n := Nat.le_refl _
  r := fun _ _ => rfl
  tup := fun _ _ => sqT_upd (by unfold isMut; rw [hp]; trivial)
  fr := fun a o h _ => by rw [upd_ne (ne_of_none h hp)]; exact h
  new := fun i h1 h2 => absurd h2 (by omega)
  th := fun a h => by
    by_cases e : a = p
    · subst e; exact hp
    · rwa [upd_ne e] at h
  mu := fun _ _ => rfl
theorem Le.add {p : Addr} {u : HO} {o : MO} (hp : H p = none) : Le K rho S H (ext rho S.n p) (S.add o) (upd H p u) where
  n := Nat.le_succ _
  r := fun i hi => ext_lt hi
  tup := fun _ _ => sqT_upd (by unfold isMut; rw [hp]; trivial)
  fr := fun a o h _ => by rw [upd_ne (ne_of_none h hp)]; exact h
  new := fun i h1 h2 => by
    have : i = S.n := by have : i < S.n + 1 := h2; omega
    subst this; rw [ext_at]; exact hp
  th := fun a h => by
    by_cases e : a = p
    · subst e; exact hp
    · rwa [upd_ne e] at h
  mu := fun i hi => by rw [Sto.add_g, if_neg (by omega)]
/-- a new object with its number -/
theorem Sim.add (s : Sim K rho S H) {p : Addr} {u : HO} {o : MO} (hp : H p = none) (hm : o.mut = true) (ho : RepO K (ext rho S.n p) (S.n + 1) (upd H p u) p o) : Sim K (ext rho S.n p) (S.add o) (upd H p u) where
  inj := fun i j hi hj mi mj e => by
    have hi' : i < S.n + 1 := hi
    have hj' : j < S.n + 1 := hj
    have key : ∀ i, i < S.n → ((S.add o).g i).mut = true → rho i ≠ p := fun i hi mi => by
      rw [Sto.add_g, if_neg (by omega)] at mi
      obtain ⟨v, h1, _⟩ := (s.obj i hi).tracked mi
      exact ne_of_none h1 hp
    by_cases h1 : i = S.n
    · by_cases h2 : j = S.n
      · omega
      · have h3 : j < S.n := by omega
        subst h1
        rw [ext_at, ext_lt h3] at e
        exact absurd e.symm (key j h3 mj)
    · have h4 : i < S.n := by omega
      by_cases h2 : j = S.n
      · subst h2
        rw [ext_at, ext_lt h4] at e
        exact absurd e (key i h4 mi)
      · have h3 : j < S.n := by omega
        rw [ext_lt h4, ext_lt h3] at e
        rw [Sto.add_g, if_neg h1] at mi
        rw [Sto.add_g, if_neg h2] at mj
        exact s.inj i j h4 h3 mi mj e
  obj := fun i hi => by
    have hi' : i < S.n + 1 := hi
    by_cases h1 : i = S.n
    · subst h1
      rw [ext_at, Sto.add_g, if_pos rfl]
      exact ho
    · have h2 : i < S.n := by omega
      rw [ext_lt h2, Sto.add_g, if_neg h1]
      exact RepO.stay (by unfold isMut; rw [hp]; trivial) (fun hm => by
        obtain ⟨o, h1, _⟩ := (s.obj i h2).tracked hm
        exact ne_of_none h1 hp) (s.obj i h2) (fun _ h => ext_lt h) (Nat.le_succ _)
theorem Le.put {k : Nat} {u : HO} {o : MO} (s : Sim K rho S H) (hk : k < S.n) (hm : (S.g k).mut = true) (ho : o.mut = true) : Le K rho S H rho (S.put k o) (upd H (rho k) u) := by
  obtain ⟨v, h1, h2⟩ := (s.obj k hk).tracked hm
  exact {
    n := Nat.le_refl _
    r := fun _ _ => rfl
    tup := fun _ _ => sqT_upd (by unfold isMut; rw [h1]; exact h2)
    fr := fun a o h hc => by rw [upd_ne (fun e => hc k hk hm e.symm)]; exact h
    new := fun i h3 h4 => absurd (show i < S.n from h4) (by omega)
    th := fun a h => by
      by_cases e : a = rho k
      · subst e; rw [upd_same] at h; cases h
      · rwa [upd_ne e] at h
    mu := fun i hi => by
      rw [Sto.put_g]
      split
      · rename_i e; rw [ho, e, hm]
      · rfl }
/-- an object changes -/
theorem Sim.put (s : Sim K rho S H) {k : Nat} {u : HO} {o : MO} (hk : k < S.n) (hm : (S.g k).mut = true) (ho : RepO K rho S.n (upd H (rho k) u) (rho k) o) : Sim K rho (S.put k o) (upd H (rho k) u) := by
  obtain ⟨v, h1, h2⟩ := (s.obj k hk).tracked hm
  have hmm : ∀ i, ((S.put k o).g i).mut = true → i ≠ k → (S.g i).mut = true := fun i h e => by
    rwa [Sto.put_g, if_neg e] at h
  refine ⟨fun i j hi hj mi mj e => ?_, fun i hi => ?_⟩
  · by_cases e1 : i = k
    · by_cases e2 : j = k
      · omega
      · subst e1
        exact s.inj i j hi hj hm (hmm j mj e2) e
    · by_cases e2 : j = k
      · subst e2
        exact s.inj i j hi hj (hmm i mi e1) hm e
      · exact s.inj i j hi hj (hmm i mi e1) (hmm j mj e2) e
  · by_cases e1 : i = k
    · subst e1
      rw [Sto.put_g, if_pos rfl]
      exact ho
    · rw [Sto.put_g, if_neg e1]
      exact RepO.stay (by unfold isMut; rw [h1]; exact h2) (fun mi e => e1 (s.inj i k hi hk mi hm e)) (s.obj i hi) (fun _ _ => rfl) (Nat.le_refl _)
/-- values ahead of a put -/
theorem Rep.upd {a : Addr} {u : HO} (hm : isMut (H a)) (h : Rep K rho n H x v) : Rep K rho n (upd H a u) x v := Rep.mono (Nat.le_refl _) (fun _ _ => rfl) (fun _ _ => sqT_upd hm) h
theorem RepL.upd {a : Addr} {u : HO} (hm : isMut (H a)) {xs : List MV} {vs : List V} (h : RepL K rho n H xs vs) : RepL K rho n (upd H a u) xs vs := RepL.mono (Nat.le_refl _) (fun _ _ => rfl) (fun _ _ => sqT_upd hm) h
theorem RepP.upd {k : Type} {a : Addr} {u : HO} (hm : isMut (H a)) {xs : List (k × MV)} {vs : List (k × V)} (h : RepP K rho n H xs vs) : RepP K rho n (upd H a u) xs vs := RepP.mono (Nat.le_refl _) (fun _ _ => rfl) (fun _ _ => sqT_upd hm) h
theorem isMut_none {a : Addr} (h : H a = none) : isMut (H a) := by rw [h]; trivial
theorem isMut_some {a : Addr} {u : HO} (h : H a = some u) (m : Mut (some u)) : isMut (H a) := by rw [h]; exact m
end
end Mm
end

section
/-! ## M, part 2: results, expressions -/
namespace Mm
open PySem L2
/-- an exception: its class, its own fields -/
structure Exc where
  C : CId
  fs : List (Str × MV)
abbrev Exc.cls (x : Exc) : Value := .ref x.C.ad
inductive Res (al : Type) where
  | ok (x : al) (S : Sto) | exc (e : Exc) (S : Sto) | bad
/-- the slots of a def -/
abbrev Sl := List (Option MV)
abbrev EMt (al : Type) := Sl → Sto → Res al
abbrev EM := EMt MV
abbrev RepX (K : PySem.W.Frag) (rho : Nat → Addr) (n : Nat) (H : Hp) (d : Option Addr) (e : Exc) : Prop := RepF K rho n H d e.fs
def RepE (K : PySem.W.Frag) (rho : Nat → Addr) (n : Nat) (H : Hp) (sg : L2.St) (e : Sl) : Prop :=
  sg.length = e.length ∧ ∀ (i : Nat) (x : MV), e[i]? = some (some x) → ∃ v, sg[i]? = some (some v) ∧ Rep K rho n H x v
/-- how a result stands for another -/
abbrev RelT (al be : Type) := PySem.W.Frag → (Nat → Addr) → Nat → Hp → al → be → Prop
class RelM {al be : Type} (rel : RelT al be) : Prop where
  mono : ∀ {K : PySem.W.Frag} {rho rho' : Nat → Addr} {n n' : Nat} {H H' : Hp} {x : al} {v : be}, n ≤ n' → (∀ i, i < n → rho' i = rho i) → (∀ a vs, SqT K H a vs → SqT K H' a vs) → rel K rho n H x v → rel K rho' n' H' x v
abbrev rV : RelT MV V := Rep
abbrev rL : RelT (List MV) (List V) := RepL
abbrev rE (al : Type) : RelT al al := fun _ _ _ _ x y => x = y
instance : RelM rV := ⟨fun h1 h2 h3 h => Rep.mono h1 h2 h3 h⟩
instance : RelM rL := ⟨fun h1 h2 h3 h => RepL.mono h1 h2 h3 h⟩
instance {al : Type} : RelM (rE al) := ⟨fun _ _ _ h => h⟩

section
variable {K : PySem.W.Frag} {al be ga de : Type} {rel : RelT al be} {rel2 : RelT ga de}
/-- what follows from a result -/
def Fin (K : PySem.W.Frag) (rel : RelT al be) (rho : Nat → Addr) (S : Sto) (H : Hp) (Q : be → Hp → Prop) (E : XK) : Res al → Prop
  | .ok x S' => ∀ rho' H' v, Sim K rho' S' H' → Le K rho S H rho' S' H' → rel K rho' S'.n H' x v → Q v H'
  | .exc ex S' => ∀ rho' H' d, Sim K rho' S' H' → Le K rho S H rho' S' H' → RepX K rho' S'.n H' d ex → E ex.cls d H'
  | .bad => False
theorem Fin.step {rho rho1 : Nat → Addr} {S S1 : Sto} {H H1 : Hp} {Q : be → Hp → Prop} {E : XK} {r : Res al} (h : Fin K rel rho S H Q E r) (l : Le K rho S H rho1 S1 H1) : Fin K rel rho1 S1 H1 Q E r := by
  cases r with
  | ok x S' => exact fun rho' H' v s l' q => h rho' H' v s (l.trans l') q
  | exc ex S' => exact fun rho' H' d s l' q => h rho' H' d s (l.trans l') q
  | bad => exact h
theorem Fin.imp {rho : Nat → Addr} {S : Sto} {H : Hp} {Q Q' : be → Hp → Prop} {E : XK} {r : Res al} (h : Fin K rel rho S H Q E r) (hq : ∀ v H', Q v H' → Q' v H') : Fin K rel rho S H Q' E r := by
  cases r with
  | ok x S' => exact fun rho' H' v s l' q => hq _ _ (h rho' H' v s l' q)
  | exc ex S' => exact h
  | bad => exact h
theorem RepE.le {rho rho' : Nat → Addr} {S S' : Sto} {H H' : Hp} {sg : L2.St} {e : Sl} (h : RepE K rho S.n H sg e) (l : Le K rho S H rho' S' H') : RepE K rho' S'.n H' sg e :=
  ⟨h.1, fun i x q => let ⟨v, h1, h2⟩ := h.2 i x q; ⟨v, h1, h2.le l⟩⟩
/-- THE READING of an M-expression -/
def tG (K : PySem.W.Frag) (rel : RelT al be) (W : WX) (m : EMt al) : L2.St → Hp → (be → Hp → Prop) → Prop := fun sg H Q =>
  ∃ rho e S, Sim K rho S H ∧ RepE K rho S.n H sg e ∧ Fin K rel rho S H Q (fun c d H' => W c d sg H') (m e S)
abbrev tM (K : PySem.W.Frag) (W : WX) (m : EM) : TE := tG K rV W m
abbrev tB (K : PySem.W.Frag) (W : WX) (m : EMt Bool) : TT := tG K (rE Bool) W m
abbrev tA (K : PySem.W.Frag) (W : WX) (m : EMt (List MV)) : TA := tG K rL W m
theorem tG.imp {W : WX} {m : EMt al} {sg : L2.St} {H : Hp} {Q Q' : be → Hp → Prop} (h : tG K rel W m sg H Q) (hq : ∀ v H', Q v H' → Q' v H') : tG K rel W m sg H Q' := by
  obtain ⟨rho, e, S, s, re, f⟩ := h
  exact ⟨rho, e, S, s, re, f.imp hq⟩
def bindM (m : EMt al) (k : al → EMt ga) : EMt ga := fun e S => match m e S with
  | .ok x S' => k x e S'
  | .exc ex S' => .exc ex S'
  | .bad => .bad
@[simp] theorem bindM_ok {m : EMt al} {k : al → EMt ga} {e : Sl} {S S' : Sto} {x : al} (h : m e S = .ok x S') : bindM m k e S = k x e S' := by unfold bindM; rw [h]
/-- one after the other -/
theorem tG_bind {W : WX} {m : EMt al} {k : al → EMt ga} {sg : L2.St} {H : Hp} {Q : de → Hp → Prop} (h : tG K rel2 W (bindM m k) sg H Q) :
    tG K rel W m sg H fun v H1 => ∃ rho e S x, Sim K rho S H1 ∧ RepE K rho S.n H1 sg e ∧ rel K rho S.n H1 x v ∧ Fin K rel2 rho S H1 Q (fun c d H' => W c d sg H') (k x e S) := by
  obtain ⟨rho, e, S, s, re, f⟩ := h
  refine ⟨rho, e, S, s, re, ?_⟩
  unfold bindM at f
  cases q : m e S with
  | ok x S' =>
    rw [q] at f
    exact fun rho' H' v s' l' r' => ⟨rho', e, S', x, s', re.le l', r', f.step l'⟩
  | exc ex S' => rw [q] at f; exact f
  | bad => rw [q] at f; exact f
end

/-! ### from HandS's rules -/
section
variable {X : Cx} {e : Expr} {a b c : Expr} {pos : Pos} {W : WX} {m ma mb mc : EM} {K : PySem.W.Frag}
theorem PE.to {t t' : TE} (h : PE X e t) (i : ∀ sg H Q, t' sg H Q → t sg H Q) : PE X e t' := ⟨fun pins s sg H Q I q => h.run pins s sg H Q I (i _ _ _ q)⟩
theorem PT.to {t t' : TT} (h : PT X e t) (i : ∀ sg H Q, t' sg H Q → t sg H Q) : PT X e t' := ⟨fun pins s sg H Q I q => h.run pins s sg H Q I (i _ _ _ q)⟩
theorem PW.to {t t' : TT} (h : PW X e t) (i : ∀ sg H Q, t' sg H Q → t sg H Q) : PW X e t' := ⟨fun wh pins s sg H Q I q => h.run wh pins s sg H Q I (i _ _ _ q)⟩
theorem PA.to {es : List Expr} {t t' : TA} (h : PA X es t) (i : ∀ sg H Q, t' sg H Q → t sg H Q) : PA X es t' := ⟨fun ps pins s sg H Q I q => h.run ps pins s sg H Q I (i _ _ _ q)⟩

/-- a name -/
def varM (i : Nat) : EM := fun e S => match e[i]? with
  | some (some x) => .ok x S
  | _ => .bad
theorem tM_var {i : Nat} {sg : L2.St} {H : Hp} {Q : VK} (h : tM K W (varM i) sg H Q) : tVar i sg H Q := by
  obtain ⟨rho, e, S, s, re, f⟩ := h
  unfold varM at f
  split at f
  · rename_i x q
    obtain ⟨v, h1, h2⟩ := re.2 i x q
    exact ⟨v, h1, f rho H v s Le.refl h2⟩
  · exact f.elim
theorem mp_var (i : Nat) {x : Str} (hN : X.N[i]? = some x := by rfl) (hv : Vis X.env.scope x := by first | exact Or.inl rfl | exact Or.inr (Or.inl rfl) | exact Or.inr (Or.inr rfl)) (hd : (x == ("__debug__" : Str)) = false := by decide)
    (hcd : (x == ("__classdict__" : Str)) = false := by decide) : PE X (.Name x pos) (tM X.K W (varM i)) := PE.to (pe_var hN hv hd hcd) fun _ _ _ => tM_var
/-- what does not depend on anything -/
def conM (x : MV) : EM := fun _ S => .ok x S
theorem tM_con {x : MV} {v : V} {sg : L2.St} {H : Hp} {Q : VK} (hr : ∀ rho n H, Rep K rho n H x v) (h : tM K W (conM x) sg H Q) : tC v sg H Q := by
  obtain ⟨rho, e, S, s, re, f⟩ := h
  exact f rho H v s Le.refl (hr _ _ _)
theorem mp_int {i j} : PE X (.Constant (.int i) j pos) (tM X.K W (conM (.int i))) := PE.to pe_int fun _ _ _ => tM_con fun _ _ _ => rfl
theorem mp_bl {i j} : PE X (.Constant (.bool i) j pos) (tM X.K W (conM (.bl i))) := PE.to pe_bl fun _ _ _ => tM_con fun _ _ _ => rfl
theorem mp_str {i j} : PE X (.Constant (.str i) j pos) (tM X.K W (conM (.str i))) := PE.to pe_str fun _ _ _ => tM_con fun _ _ _ => rfl
theorem mp_non {j} : PE X (.Constant .none j pos) (tM X.K W (conM .non)) := PE.to pe_non fun _ _ _ => tM_con fun _ _ _ => rfl
/-- a module's constant -/
theorem mp_glob {x : Str} {v : V} {u : Value} {z : MV} (hg : Gl X x) (hm : X.mg x = some u) (r : RelV v u) (hr : ∀ rho n H, Rep X.K rho n H z v) (hd : (x == ("__debug__" : Str)) = false := by decide) : PE X (.Name x pos) (tM X.K W (conM z)) :=
  PE.to (pe_glob hg hm r hd) fun _ _ _ => tM_con hr

/-! ### operations on values -/
/-- a two-place operation of values is served by a HandS reading -/
def Snd2 (K : PySem.W.Frag) (r : R2) (g : MV → MV → Sto → Res MV) : Prop := ∀ rho S H x y vx vy Q E, Sim K rho S H → Rep K rho S.n H x vx → Rep K rho S.n H y vy → Fin K rV rho S H Q E (g x y S) → r vx vy H Q
def Snd1 (K : PySem.W.Frag) (r : V → Hp → VK → Prop) (g : MV → Sto → Res MV) : Prop := ∀ rho S H x vx Q E, Sim K rho S H → Rep K rho S.n H x vx → Fin K rV rho S H Q E (g x S) → r vx H Q
def SndL (K : PySem.W.Frag) (r : List V → Hp → VK → Prop) (g : List MV → Sto → Res MV) : Prop := ∀ rho S H xs vs Q E, Sim K rho S H → RepL K rho S.n H xs vs → Fin K rV rho S H Q E (g xs S) → r vs H Q
def op2 (g : MV → MV → Sto → Res MV) (ma mb : EM) : EM := bindM ma fun x => bindM mb fun y => fun _ S => g x y S
def op1 (g : MV → Sto → Res MV) (ma : EM) : EM := bindM ma fun x => fun _ S => g x S
def opL (g : List MV → Sto → Res MV) (ma : EMt (List MV)) : EM := bindM ma fun x => fun _ S => g x S
theorem tM_op2 {r : R2} {g : MV → MV → Sto → Res MV} (hs : Snd2 K r g) {sg : L2.St} {H : Hp} {Q : VK} (h : tM K W (op2 g ma mb) sg H Q) : tOp r (tM K W ma) (tM K W mb) sg H Q := by
  refine (tG_bind (rel := rV) h).imp fun vx H1 ⟨rho, e, S, x, s, re, rx, f⟩ => ?_
  have h2 : tM K W (bindM mb fun y => fun _ S => g x y S) sg H1 Q := ⟨rho, e, S, s, re, f⟩
  obtain ⟨rho2, e2, S2, s2, re2, f2⟩ : tM K W mb sg H1 fun vy H2 => r vx vy H2 Q := by
    refine ⟨rho, e, S, s, re, ?_⟩
    unfold bindM at f
    cases q : mb e S with
    | ok y S' =>
      rw [q] at f
      exact fun rho' H' vy s' l' ry => hs _ _ _ _ _ _ _ _ _ s' (rx.le l') ry (f.step l')
    | exc ex S' => rw [q] at f; exact f
    | bad => rw [q] at f; exact f
  exact ⟨rho2, e2, S2, s2, re2, f2⟩
theorem tM_op1 {r : V → Hp → VK → Prop} {g : MV → Sto → Res MV} (hs : Snd1 K r g) {sg : L2.St} {H : Hp} {Q : VK} (h : tM K W (op1 g ma) sg H Q) : tUn r (tM K W ma) sg H Q :=
  (tG_bind (rel := rV) h).imp fun vx H1 ⟨rho, e, S, x, s, re, rx, f⟩ => hs _ _ _ _ _ _ _ s rx f
theorem tM_opL {r : List V → Hp → VK → Prop} {g : List MV → Sto → Res MV} {ml : EMt (List MV)} (hs : SndL K r g) {sg : L2.St} {H : Hp} {Q : VK} (h : tM K W (opL g ml) sg H Q) : tCB r (tA K W ml) sg H Q :=
  (tG_bind (rel := rL) h).imp fun vx H1 ⟨rho, e, S, x, s, re, rx, f⟩ => hs _ _ _ _ _ _ _ s rx f
theorem mp_op {op : Operator} {r : R2} {g : MV → MV → Sto → Res MV} (ho : OpR X (binaryOp op) r) (hs : Snd2 X.K r g) (ha : PE X a (tM X.K W ma)) (hb : PE X b (tM X.K W mb)) : PE X (.BinOp a op b pos) (tM X.K W (op2 g ma mb)) :=
  PE.to (pe_op ho ha hb) fun _ _ _ => tM_op2 hs
theorem mp_un {op : UnaryOp} {r : V → Hp → VK → Prop} {g : MV → Sto → Res MV} (ho : UnR X (unaryOp op) r) (hs : Snd1 X.K r g) (ha : PE X a (tM X.K W ma)) : PE X (.UnaryOp op a pos) (tM X.K W (op1 g ma)) :=
  PE.to (pe_un ho ha) fun _ _ _ => tM_op1 hs
theorem mp_cmp {op : CmpOp} {r : R2} {g : MV → MV → Sto → Res MV} (ho : OpR X (compareOp op) r) (hs : Snd2 X.K r g) (ha : PE X a (tM X.K W ma)) (hb : PE X b (tM X.K W mb)) (hm : behindInMarks op b = false := by first | exact nomark _ | rfl) :
    PE X (.Compare a [op] [b] pos) (tM X.K W (op2 g ma mb)) := PE.to (pe_cmpR ho ha hb hm) fun _ _ _ => tM_op2 hs

/-! ### truth -/
def truO (xs : MO) : Option Bool := match xs with
  | .lst xs => some (!xs.isEmpty)
  | .con xs => some (!xs.isEmpty)
  | .dK kvs => some (!kvs.isEmpty)
  | _ => none
def truV : MV → Sto → Res Bool
  | .non, S => .ok false S
  | .bl b, S => .ok b S
  | .int i, S => .ok (i != 0) S
  | .str y, S => if y.length ≤ sizeLine then .ok ((y.length : Int) != 0) S else .bad
  | .tup xs, S => .ok (!xs.isEmpty) S
  | .ref k, S => match truO (S.g k) with
    | some b => .ok b S
    | none => .bad
  | _, _ => .bad
def truM (m : EM) : EMt Bool := bindM m fun x => fun _ S => truV x S
theorem isEmptyL {rho : Nat → Addr} {n : Nat} {H : Hp} {xs : List MV} {vs : List V} (r : RepL K rho n H xs vs) : vs.isEmpty = xs.isEmpty := by
  have := r.len
  cases xs <;> cases vs <;> simp_all
theorem isEmptyP {k : Type} {rho : Nat → Addr} {n : Nat} {H : Hp} {xs : List (k × MV)} {vs : List (k × V)} (r : RepP K rho n H xs vs) : vs.isEmpty = xs.isEmpty := by
  cases xs with
  | nil => rw [show vs = [] from r]; rfl
  | cons => obtain ⟨_, _, e, _⟩ := r; rw [e]; rfl
theorem sq_con {rho : Nat → Addr} {n : Nat} {H : Hp} {a : Addr} {xs : List MV} (h : RepO K rho n H a (.con xs)) : ∃ vs, SqL K H a vs ∧ RepL K rho n H xs vs := by
  obtain ⟨vs, h1, h2⟩ := h
  refine ⟨vs, ?_, h2⟩
  rcases h1 with ⟨o, h1⟩ | h1
  · exact .inl (.inr ⟨o, h1⟩)
  · exact .inr h1
theorem truV_ok {rho : Nat → Addr} {S : Sto} {H : Hp} {x : MV} {v : V} (s : Sim K rho S H) (rx : Rep K rho S.n H x v) {Q : Bool → Hp → Prop} {E : XK} (f : Fin K (rE Bool) rho S H Q E (truV x S)) : ∃ k, TruV K v H k ∧ Q k H := by
  cases x with
  | non => rw [show v = .non from rx]; exact ⟨_, rfl, f rho H _ s Le.refl rfl⟩
  | bl b => rw [show v = .bl b from rx]; exact ⟨_, rfl, f rho H _ s Le.refl rfl⟩
  | int b => rw [show v = .int b from rx]; exact ⟨_, rfl, f rho H _ s Le.refl rfl⟩
  | str b =>
    rw [show v = .str b from rx]
    simp only [truV] at f
    split at f
    · rename_i hl; exact ⟨_, ⟨hl, rfl⟩, f rho H _ s Le.refl rfl⟩
    · exact f.elim
  | tup xs =>
    obtain ⟨a, vs, h1, h2, h3⟩ := rx
    rw [h1]
    exact ⟨_, .inr (.inl ⟨vs, h2, rfl⟩), f rho H _ s Le.refl (by rw [isEmptyL h3])⟩
  | ty _ => exact f.elim
  | obj _ => exact f.elim
  | ref k =>
    obtain ⟨h1, h2⟩ := rx
    rw [h2]
    have ho := s.obj k h1
    unfold truV at f
    cases q : S.g k with
    | lst xs =>
      rw [q] at ho
      simp only [q, truO] at f
      obtain ⟨vs, h3, h4⟩ := ho
      exact ⟨_, .inl ⟨vs, SqL.of h3, rfl⟩, f rho H _ s Le.refl (by rw [isEmptyL h4])⟩
    | con xs =>
      rw [q] at ho
      simp only [q, truO] at f
      obtain ⟨vs, h3, h4⟩ := sq_con ho
      exact ⟨_, .inl ⟨vs, h3, rfl⟩, f rho H _ s Le.refl (by rw [isEmptyL h4])⟩
    | dK xs =>
      rw [q] at ho
      simp only [q, truO] at f
      obtain ⟨vs, h3, h4⟩ := ho
      exact ⟨_, .inr (.inr ⟨vs, h3, rfl⟩), f rho H _ s Le.refl (by rw [isEmptyP h4])⟩
    | dT xs => simp only [q, truO] at f; exact f.elim
    | ins C fs => simp only [q, truO] at f; exact f.elim
    | exn C fs => simp only [q, truO] at f; exact f.elim
/-- any expression as a test -/
theorem mt_truth (ha : PE X a (tM X.K W ma)) (he : ∀ whole, isTrue a X.env whole = (do let v ← whole; standAt a.pos; holding [v] (truthy v)) := by intro _; rfl) : PT X a (tB X.K W (truM ma)) :=
  PT.to (pt_truth ha he) fun _ _ _ h => (tG_bind (rel := rV) h).imp fun _ _ ⟨_, _, _, _, s, _, rx, f⟩ => truV_ok s rx f
/-- a True or False as a test -/
def blV : MV → Sto → Res Bool
  | .bl b, S => .ok b S
  | _, _ => .bad
def blM (m : EM) : EMt Bool := bindM m fun x => fun _ S => blV x S
theorem blV_ok {rho : Nat → Addr} {S : Sto} {H : Hp} {x : MV} {v : V} (s : Sim K rho S H) (rx : Rep K rho S.n H x v) {Q : Bool → Hp → Prop} {E : XK} (f : Fin K (rE Bool) rho S H Q E (blV x S)) : ∃ k, v = .bl k ∧ Q k H := by
  cases x with
  | bl b => exact ⟨b, rx, f rho H _ s Le.refl rfl⟩
  | _ => exact f.elim
/-- a comparison as a test -/
theorem mt_cmp {op : CmpOp} {r : R2} {g : MV → MV → Sto → Res MV} (ho : OpR X (compareOp op) r) (hs : Snd2 X.K r g) (ha : PE X a (tM X.K W ma)) (hb : PE X b (tM X.K W mb)) (hm : behindInMarks op b = false := by first | exact nomark _ | rfl) :
    PT X (.Compare a [op] [b] pos) (tB X.K W (blM (op2 g ma mb))) :=
  PT.to (pt_cmpR ho ha hb hm) fun sg H Q h => tM_op2 hs ((tG_bind (rel := rV) h).imp fun _ _ ⟨_, _, _, _, s, _, rx, f⟩ => blV_ok s rx f)

/-! ### and, or, not -/
def andB (ma mb : EMt Bool) : EMt Bool := bindM ma fun b => if b = true then mb else fun _ S => .ok false S
def orB (ma mb : EMt Bool) : EMt Bool := bindM ma fun b => if b = true then (fun _ S => .ok true S) else mb
def notB (ma : EMt Bool) : EMt Bool := bindM ma fun b => fun _ S => .ok (!b) S
section
variable {ba bb : EMt Bool} {rest : List Expr}
theorem mw_and1 (ha : PT X a (tB X.K W ba)) : PW X (.BoolOp .And [a] pos) (tB X.K W ba) := pw_and1 ha
theorem mw_or1 (ha : PT X a (tB X.K W ba)) : PW X (.BoolOp .Or [a] pos) (tB X.K W ba) := pw_or1 ha
theorem tB_if {x : Bool} {m1 m2 : EMt Bool} {rho : Nat → Addr} {e : Sl} {S : Sto} {sg : L2.St} {H : Hp} {Q : Bool → Hp → Prop} {A B : Prop} (s : Sim K rho S H) (re : RepE K rho S.n H sg e)
    (f : Fin K (rE Bool) rho S H Q (fun c d H' => W c d sg H') ((if x = true then m1 else m2) e S)) (h1 : x = true → tB K W m1 sg H Q → A) (h2 : x = false → tB K W m2 sg H Q → B) : if x = true then A else B := by
  cases x with
  | true => rw [if_pos rfl] at f ⊢; exact h1 rfl ⟨rho, e, S, s, re, f⟩
  | false => rw [if_neg (by decide)] at f ⊢; exact h2 rfl ⟨rho, e, S, s, re, f⟩
theorem tB_pure {x : Bool} {sg : L2.St} {H : Hp} {Q : Bool → Hp → Prop} (h : tB K W (fun _ S => .ok x S) sg H Q) : Q x H := by
  obtain ⟨rho, e, S, s, re, f⟩ := h
  exact f rho H x s Le.refl rfl
theorem mw_and (ha : PT X a (tB X.K W ba)) (hb : PW X (.BoolOp .And (b :: rest) pos) (tB X.K W bb)) : PW X (.BoolOp .And (a :: b :: rest) pos) (tB X.K W (andB ba bb)) :=
  PW.to (pw_and ha hb) fun sg H Q h => (tG_bind (rel := rE Bool) h).imp fun c H1 ⟨rho, e, S, x, s, re, rx, f⟩ => by
    cases rx
    exact tB_if s re f (fun _ q => q) fun _ q => tB_pure q
theorem mw_or (ha : PT X a (tB X.K W ba)) (hb : PW X (.BoolOp .Or (b :: rest) pos) (tB X.K W bb)) : PW X (.BoolOp .Or (a :: b :: rest) pos) (tB X.K W (orB ba bb)) :=
  PW.to (pw_or ha hb) fun sg H Q h => (tG_bind (rel := rE Bool) h).imp fun c H1 ⟨rho, e, S, x, s, re, rx, f⟩ => by
    cases rx
    exact tB_if s re f (fun _ q => tB_pure q) fun _ q => q
theorem mt_pw (h : PW X e (tB X.K W ba)) : PT X e (tB X.K W ba) := h.pt
theorem mt_not (ha : PT X a (tB X.K W ba)) : PT X (.UnaryOp .Not a pos) (tB X.K W (notB ba)) :=
  PT.to (pt_not ha) fun sg H Q h => (tG_bind (rel := rE Bool) h).imp fun c H1 ⟨rho, e, S, x, s, re, rx, f⟩ => by
    cases rx
    exact f rho H1 _ s Le.refl rfl
/-- as values, by truth -/
def andV (ma mb : EM) : EM := bindM ma fun x => bindM (fun _ S => truV x S) fun b => if b = true then mb else fun _ S => .ok x S
def orV (ma mb : EM) : EM := bindM ma fun x => bindM (fun _ S => truV x S) fun b => if b = true then (fun _ S => .ok x S) else mb
def notV (ma : EM) : EM := bindM ma fun x => bindM (fun _ S => truV x S) fun b => fun _ S => .ok (.bl (!b)) S
theorem fin_truth {al be : Type} {rel : RelT al be} {x : MV} {v : V} {k : Bool → EMt al} {rho : Nat → Addr} {e : Sl} {S : Sto} {H : Hp} {Q : be → Hp → Prop} {E : XK} (s : Sim K rho S H) (rx : Rep K rho S.n H x v)
    (f : Fin K rel rho S H Q E (bindM (fun _ S => truV x S) k e S)) : ∃ b, TruV K v H b ∧ Fin K rel rho S H Q E (k b e S) := by
  have hv : ∃ r, truV x S = r ∧ (∀ S' b, r = .ok b S' → S' = S) ∧ (∀ x S', r ≠ .exc x S') := by
    refine ⟨_, rfl, ?_, ?_⟩
    · intro S' b h
      cases x <;> simp only [truV] at h <;> first | (cases h; done) | (cases h; rfl) | (split at h <;> first | (cases h; done) | (cases h; rfl))
    · intro y S' h
      cases x <;> simp only [truV] at h <;> first | cases h | (split at h <;> cases h)
  obtain ⟨r, h1, h2, h3⟩ := hv
  unfold bindM at f
  simp only [h1] at f
  cases r with
  | bad => exact f.elim
  | exc y S' => exact absurd rfl (h3 y S')
  | ok b S' =>
    cases h2 S' b rfl
    obtain ⟨k', hk, q⟩ := truV_ok (Q := fun c _ => c = b) (E := fun _ _ _ => False) s rx (by rw [h1]; exact fun _ _ v _ _ e => e.symm)
    subst q
    exact ⟨k', hk, f⟩
theorem mp_and (ha : PE X a (tM X.K W ma)) (hb : PE X (.BoolOp .And (b :: rest) pos) (tM X.K W mb)) : PE X (.BoolOp .And (a :: b :: rest) pos) (tM X.K W (andV ma mb)) :=
  PE.to (pe_andT ha hb) fun sg H Q h => (tG_bind (rel := rV) h).imp fun c H1 ⟨rho, e, S, x, s, re, rx, f⟩ => by
    obtain ⟨k, hk, f⟩ := fin_truth s rx f
    refine ⟨k, hk, ?_⟩
    cases k with
    | true => rw [if_pos rfl] at f ⊢; exact ⟨rho, e, S, s, re, f⟩
    | false => rw [if_neg (by decide)] at f ⊢; exact f rho H1 _ s Le.refl rx
theorem mp_or (ha : PE X a (tM X.K W ma)) (hb : PE X (.BoolOp .Or (b :: rest) pos) (tM X.K W mb)) : PE X (.BoolOp .Or (a :: b :: rest) pos) (tM X.K W (orV ma mb)) :=
  PE.to (pe_orT ha hb) fun sg H Q h => (tG_bind (rel := rV) h).imp fun c H1 ⟨rho, e, S, x, s, re, rx, f⟩ => by
    obtain ⟨k, hk, f⟩ := fin_truth s rx f
    refine ⟨k, hk, ?_⟩
    cases k with
    | true => rw [if_pos rfl] at f ⊢; exact f rho H1 _ s Le.refl rx
    | false => rw [if_neg (by decide)] at f ⊢; exact ⟨rho, e, S, s, re, f⟩
theorem mp_one {op} (h : PE X a (tM X.K W ma)) : PE X (.BoolOp op [a] pos) (tM X.K W ma) := pe_one h
theorem mp_not (ha : PE X a (tM X.K W ma)) : PE X (.UnaryOp .Not a pos) (tM X.K W (notV ma)) :=
  PE.to (pe_notT ha) fun sg H Q h => (tG_bind (rel := rV) h).imp fun c H1 ⟨rho, e, S, x, s, re, rx, f⟩ => by
    obtain ⟨k, hk, f⟩ := fin_truth s rx f
    exact ⟨k, hk, f rho H1 _ s Le.refl rfl⟩
/-- a if t else b -/
def ifV (t : EMt Bool) (ma mb : EM) : EM := bindM t fun b => if b = true then ma else mb
theorem mp_if (hc : PT X c (tB X.K W ba)) (ha : PE X a (tM X.K W ma)) (hb : PE X b (tM X.K W mb)) : PE X (.IfExp c a b pos) (tM X.K W (ifV ba ma mb)) :=
  PE.to (pe_ifExp hc ha hb) fun sg H Q h => (tG_bind (rel := rE Bool) h).imp fun k H1 ⟨rho, e, S, x, s, re, rx, f⟩ => by
    cases rx
    cases k with
    | true => rw [if_pos rfl] at f ⊢; exact ⟨rho, e, S, s, re, f⟩
    | false => rw [if_neg (by decide)] at f ⊢; exact ⟨rho, e, S, s, re, f⟩
/-- a op1 b op2 c -/
def chM (g g' : MV → MV → Sto → Res MV) (ma mb mc : EM) : EM := bindM ma fun x => bindM mb fun y => bindM (fun _ S => g x y S) fun z => bindM (fun _ S => blV z S) fun k => if k = true then (bindM mc fun w => fun _ S => g' y w S) else fun _ S => .ok (.bl false) S
end
end
end Mm
end

section
/-! ## M, part 3: operations -/
namespace Mm
open PySem L2
section
variable {K : PySem.W.Frag} {rho : Nat → Addr} {S : Sto} {H : Hp} {Q : VK} {E : XK}
/-- the ends of operations -/
theorem Fin.val {x : MV} {v : V} (f : Fin K rV rho S H Q E (.ok x S)) (s : Sim K rho S H) (r : Rep K rho S.n H x v) : Q v H := f rho H v s Le.refl r
/-- a new tuple -/
theorem Fin.tup {xs : List MV} {vs : List V} (f : Fin K rV rho S H Q E (.ok (.tup xs) S)) (s : Sim K rho S H) (r : RepL K rho S.n H xs vs) {p : Addr} (hp : H p = none) : Q (.ref p) (upd H p (.tup vs)) :=
  f rho _ _ (s.ofNew hp) (Le.ofNew hp) ⟨p, vs, rfl, SqT.of upd_same, r.upd (isMut_none hp)⟩
/-- a new list -/
theorem Fin.lst {xs : List MV} {vs : List V} (f : Fin K rV rho S H Q E (.ok (.ref S.n) (S.add (.lst xs)))) (s : Sim K rho S H) (r : RepL K rho S.n H xs vs) {p : Addr} (hp : H p = none) : Q (.ref p) (upd H p (.lst vs)) :=
  f (ext rho S.n p) _ _ (s.add hp rfl ⟨vs, upd_same, RepL.mono (Nat.le_succ _) (fun _ h => ext_lt h) (fun _ _ => sqT_upd (isMut_none hp)) r⟩) (Le.add hp) ⟨Nat.lt_succ_self _, by rw [ext_at]⟩
theorem Fin.dK {xs : List (Key × MV)} {vs : List (Key × V)} (f : Fin K rV rho S H Q E (.ok (.ref S.n) (S.add (.dK xs)))) (s : Sim K rho S H) (r : RepP K rho S.n H xs vs) {p : Addr} (hp : H p = none) : Q (.ref p) (upd H p (.dK vs)) :=
  f (ext rho S.n p) _ _ (s.add hp rfl ⟨vs, upd_same, RepP.mono (Nat.le_succ _) (fun _ h => ext_lt h) (fun _ _ => sqT_upd (isMut_none hp)) r⟩) (Le.add hp) ⟨Nat.lt_succ_self _, by rw [ext_at]⟩
theorem Fin.dT {xs : List (List Key × MV)} {vs : List (List Key × V)} (f : Fin K rV rho S H Q E (.ok (.ref S.n) (S.add (.dT xs)))) (s : Sim K rho S H) (r : RepP K rho S.n H xs vs) {p : Addr} (hp : H p = none) : Q (.ref p) (upd H p (.dT vs)) :=
  f (ext rho S.n p) _ _ (s.add hp rfl ⟨vs, upd_same, RepP.mono (Nat.le_succ _) (fun _ h => ext_lt h) (fun _ _ => sqT_upd (isMut_none hp)) r⟩) (Le.add hp) ⟨Nat.lt_succ_self _, by rw [ext_at]⟩
/-- a list that is read -/
def seqO : MO → Option (List MV)
  | .lst xs => some xs
  | .con xs => some xs
  | _ => none
theorem seqO_at (s : Sim K rho S H) {k : Nat} (hk : k < S.n) {xs : List MV} (h : seqO (S.g k) = some xs) : ∃ vs, SqL K H (rho k) vs ∧ RepL K rho S.n H xs vs := by
  have ho := s.obj k hk
  cases q : S.g k with
  | lst ys =>
    rw [q] at ho h
    cases h
    obtain ⟨vs, h1, h2⟩ := ho
    exact ⟨vs, SqL.of h1, h2⟩
  | con ys =>
    rw [q] at ho h
    cases h
    exact sq_con ho
  | dK _ => rw [q] at h; cases h
  | dT _ => rw [q] at h; cases h
  | ins _ _ => rw [q] at h; cases h
  | exn _ _ => rw [q] at h; cases h
theorem lst_at (s : Sim K rho S H) {k : Nat} (hk : k < S.n) {xs : List MV} (h : S.g k = .lst xs) : ∃ vs, H (rho k) = some (.lst vs) ∧ RepL K rho S.n H xs vs := by
  have ho := s.obj k hk
  rw [h] at ho
  exact ho
theorem dK_at (s : Sim K rho S H) {k : Nat} (hk : k < S.n) {xs : List (Key × MV)} (h : S.g k = .dK xs) : ∃ vs, H (rho k) = some (.dK vs) ∧ RepP K rho S.n H xs vs := by
  have ho := s.obj k hk
  rw [h] at ho
  exact ho
theorem dT_at (s : Sim K rho S H) {k : Nat} (hk : k < S.n) {xs : List (List Key × MV)} (h : S.g k = .dT xs) : ∃ vs, H (rho k) = some (.dT vs) ∧ RepP K rho S.n H xs vs := by
  have ho := s.obj k hk
  rw [h] at ho
  exact ho
end

/-! ### + - * // % ** -/
def addV : MV → MV → Sto → Res MV
  | .int i, .int j, S => .ok (.int (i + j)) S
  | .str i, .str j, S => if i.length + j.length ≤ sizeLine then .ok (.str (i ++ j)) S else .bad
  | .tup xs, .tup ys, S => if xs.length + ys.length ≤ sizeLine then .ok (.tup (xs ++ ys)) S else .bad
  | .ref a, .ref b, S => match S.g a, S.g b with
    | .lst xs, .lst ys => if xs.length + ys.length ≤ sizeLine then .ok (.ref S.n) (S.add (.lst (xs ++ ys))) else .bad
    | _, _ => .bad
  | _, _, _ => .bad
def rAddV (K : PySem.W.Frag) : R2 := fun x y H Q => ((rI0 fun i j => .int (i + j)) x y H Q ∨ (∃ i j, x = .str i ∧ y = .str j ∧ i.length + j.length ≤ sizeLine ∧ Q (.str (i ++ j)) H)) ∨ (rCat x y H Q ∨ rCatA K x y H Q)
theorem op_addV {X : Cx} : OpR X (binaryOp .Add) (rAddV X.K) := OpR.or (OpR.or op_add op_add_str) (OpR.or op_cat op_catA)
theorem addV_ok {K : PySem.W.Frag} : Snd2 K (rAddV K) addV := by
  intro rho S H x y vx vy Q E s rx ry f
  unfold addV at f
  split at f
  · exact .inl (.inl ⟨_, _, rx, ry, f.val s rfl⟩)
  · split at f
    · rename_i h; exact .inl (.inr ⟨_, _, rx, ry, h, f.val s rfl⟩)
    · exact f.elim
  · rename_i xs ys
    split at f
    · rename_i h
      obtain ⟨a, vs, h1, h2, h3⟩ := rx
      obtain ⟨b, ws, g1, g2, g3⟩ := ry
      refine .inr (.inr ⟨a, b, vs, ws, h1, g1, h2, g2, by rw [h3.len, g3.len]; exact h, fun e => ?_, fun _ e => ?_, fun _ _ p hp => ?_⟩)
      · have e2 : xs = [] := h3.nil_iff.mp e
        subst e2
        exact f.val s ⟨b, ws, rfl, g2, g3⟩
      · have e2 : ys = [] := g3.nil_iff.mp e
        subst e2
        rw [List.append_nil] at f
        exact f.val s ⟨a, vs, rfl, h2, h3⟩
      · exact f.tup s (h3.app g3) hp
    · exact f.elim
  · rename_i a b
    split at f
    · rename_i xs ys qa qb
      split at f
      · rename_i h
        obtain ⟨ha, ea⟩ := rx
        obtain ⟨hb, eb⟩ := ry
        obtain ⟨vs, h1, h2⟩ := lst_at s ha qa
        obtain ⟨ws, g1, g2⟩ := lst_at s hb qb
        exact .inr (.inl ⟨_, _, vs, ws, ea, eb, h1, g1, by rw [h2.len, g2.len]; exact h, fun p hp => f.lst s (h2.app g2) hp⟩)
      · exact f.elim
    · exact f.elim
  · exact f.elim
def subV : MV → MV → Sto → Res MV
  | .int i, .int j, S => .ok (.int (i - j)) S
  | _, _, _ => .bad
theorem subV_ok {K : PySem.W.Frag} : Snd2 K (rI0 fun i j => .int (i - j)) subV := by
  intro rho S H x y vx vy Q E s rx ry f
  unfold subV at f
  split at f
  · exact ⟨_, _, rx, ry, f.val s rfl⟩
  · exact f.elim
def MulOk (i j : Int) : Prop := CMul i j ∨ CMulW i j
open Classical in
noncomputable def mulV : MV → MV → Sto → Res MV
  | .int i, .int j, S => if MulOk i j then .ok (.int (i * j)) S else .bad
  | _, _, _ => .bad
def rMulV : R2 := fun x y H Q => rI CMul (fun i j => .int (i * j)) x y H Q ∨ rI CMulW (fun i j => .int (i * j)) x y H Q
theorem op_mulV {X : Cx} : OpR X (binaryOp .Mult) rMulV := OpR.or op_mul op_mulW
theorem mulV_ok {K : PySem.W.Frag} : Snd2 K rMulV mulV := by
  intro rho S H x y vx vy Q E s rx ry f
  unfold mulV at f
  split at f
  · split at f
    · rename_i h
      rcases h with h | h
      · exact .inl ⟨_, _, rx, ry, h, f.val s rfl⟩
      · exact .inr ⟨_, _, rx, ry, h, f.val s rfl⟩
    · exact f.elim
  · exact f.elim
def divV : MV → MV → Sto → Res MV
  | .int i, .int j, S => if 0 < j ∧ j.natAbs.log2 < 9000 then .ok (.int (i / j)) S else .bad
  | _, _, _ => .bad
theorem divV_ok {K : PySem.W.Frag} : Snd2 K (rI CDivW fun i j => .int (i / j)) divV := by
  intro rho S H x y vx vy Q E s rx ry f
  unfold divV at f
  split at f
  · split at f
    · rename_i h; exact ⟨_, _, rx, ry, h, f.val s rfl⟩
    · exact f.elim
  · exact f.elim
def modV : MV → MV → Sto → Res MV
  | .int i, .int j, S => if 0 < j then .ok (.int (i % j)) S else .bad
  | _, _, _ => .bad
theorem modV_ok {K : PySem.W.Frag} : Snd2 K (rI (fun _ j => 0 < j) fun i j => .int (i % j)) modV := by
  intro rho S H x y vx vy Q E s rx ry f
  unfold modV at f
  split at f
  · split at f
    · rename_i h; exact ⟨_, _, rx, ry, h, f.val s rfl⟩
    · exact f.elim
  · exact f.elim
def powV : MV → MV → Sto → Res MV
  | .int i, .int j, S => if 0 ≤ j ∧ j ≤ 1000000 ∧ i.natAbs < 2 ^ 64 then .ok (.int (i ^ j.toNat)) S else .bad
  | _, _, _ => .bad
theorem powV_ok {K : PySem.W.Frag} : Snd2 K (rI CPow fun i j => .int (i ^ j.toNat)) powV := by
  intro rho S H x y vx vy Q E s rx ry f
  unfold powV at f
  split at f
  · split at f
    · rename_i h; exact ⟨_, _, rx, ry, h, f.val s rfl⟩
    · exact f.elim
  · exact f.elim
def negV : MV → Sto → Res MV
  | .int i, S => .ok (.int (-i)) S
  | _, _ => .bad
theorem negV_ok {K : PySem.W.Frag} : Snd1 K (rU fun i => .int (-i)) negV := by
  intro rho S H x vx Q E s rx f
  unfold negV at f
  split at f
  · exact ⟨_, rx, f.val s rfl⟩
  · exact f.elim

/-! ### == -/
mutual
/-- data by value; numbers are looked up by f -/
def toDw (f : Nat → Option PyData) : MV → Option PyData
  | .non => some .none
  | .bl b => some (.bool b)
  | .int i => some (.int i)
  | .str x => some (.str x)
  | .ty _ => none
  | .obj _ => none
  | .ref k => f k
  | .tup xs => (toDwL f xs).map .tuple
def toDwL (f : Nat → Option PyData) : List MV → Option (List PyData)
  | [] => some []
  | x :: xs => match toDw f x, toDwL f xs with
    | some d, some ds => some (d :: ds)
    | _, _ => none
end
def look (S : Sto) : Nat → Nat → Option PyData
  | 0, _ => none
  | f + 1, k => match seqO (S.g k) with
    | some xs => (toDwL (look S f) xs).map .list
    | none => none
/-- lists within lists to a depth of eight -/
def toD (S : Sto) (x : MV) : Option PyData := toDw (look S 8) x
section
variable {K : PySem.W.Frag} {rho : Nat → Addr} {S : Sto} {H : Hp}
mutual
theorem toDw_ok {n : Nat} {f : Nat → Option PyData} (hf : ∀ k d, k < n → f k = some d → Dp K H (.ref (rho k)) d) : ∀ {x : MV} {v : V} {d : PyData}, Rep K rho n H x v → toDw f x = some d → Dp K H v d
  | .non, v, d, r, e => by cases e; cases (show v = .non from r); exact .non
  | .bl b, v, d, r, e => by cases e; cases (show v = .bl b from r); exact .bl b
  | .int b, v, d, r, e => by cases e; cases (show v = .int b from r); exact .int b
  | .str b, v, d, r, e => by cases e; cases (show v = .str b from r); exact .str b
  | .ty _, _, _, _, e => by cases e
  | .obj _, _, _, _, e => by cases e
  | .ref k, v, d, r, e => by
    obtain ⟨h1, h2⟩ := r
    rw [h2]
    exact hf k d h1 e
  | .tup xs, v, d, r, e => by
    obtain ⟨a, vs, h1, h2, h3⟩ := r
    rw [h1]
    cases q : toDwL f xs with
    | none => simp only [toDw, q] at e; cases e
    | some ds =>
      simp only [toDw, q, Option.map_some, Option.some.injEq] at e
      subst e
      exact .tup h2 (toDwL_ok hf h3 q)
theorem toDwL_ok {n : Nat} {f : Nat → Option PyData} (hf : ∀ k d, k < n → f k = some d → Dp K H (.ref (rho k)) d) : ∀ {xs : List MV} {vs : List V} {ds : List PyData}, RepL K rho n H xs vs → toDwL f xs = some ds → DpAll K H vs ds
  | [], vs, ds, r, e => by cases e; cases (show vs = [] from r); exact .nil
  | x :: xs, vs, ds, r, e => by
    obtain ⟨w, r', h1, h2, h3⟩ := r
    subst h1
    simp only [toDwL] at e
    split at e
    · rename_i d ds' q1 q2
      cases e
      exact .cons (toDw_ok hf h2 q1) (toDwL_ok hf h3 q2)
    · cases e
end
theorem look_ok (s : Sim K rho S H) : ∀ (f k : Nat) (d : PyData), k < S.n → look S f k = some d → Dp K H (.ref (rho k)) d
  | 0, _, _, _, e => by cases e
  | f + 1, k, d, hk, e => by
    simp only [look] at e
    split at e
    · rename_i xs q
      obtain ⟨vs, h1, h2⟩ := seqO_at s hk q
      cases q2 : toDwL (look S f) xs with
      | none => rw [q2] at e; cases e
      | some ds =>
        rw [q2] at e
        cases e
        exact .lst h1 (toDwL_ok (fun k d hk e => look_ok s f k d hk e) h2 q2)
    · cases e
theorem toD_ok (s : Sim K rho S H) {x : MV} {v : V} {d : PyData} (r : Rep K rho S.n H x v) (e : toD S x = some d) : Dp K H v d := toDw_ok (fun k d hk e => look_ok s 8 k d hk e) r e
end
def twoS (x y : MV) : Bool := match x, y with
  | .str _, .str _ => true
  | _, _ => false
def eqV (x y : MV) (S : Sto) : Res MV := match toD S x, toD S y with
  | some d, some e => if (SeqAt.shaped d = true ∧ SeqAt.shaped e = true) ∨ twoS x y = true then .ok (.bl (PyData.eqv d e)) S else .bad
  | _, _ => .bad
def neV (x y : MV) (S : Sto) : Res MV := match toD S x, toD S y with
  | some d, some e => if (SeqAt.shaped d = true ∧ SeqAt.shaped e = true) ∨ twoS x y = true then .ok (.bl (!PyData.eqv d e)) S else .bad
  | _, _ => .bad
theorem twoS_eq {x y : MV} (h : twoS x y = true) : ∃ a b, x = .str a ∧ y = .str b := by
  cases x <;> cases y <;> first | exact ⟨_, _, rfl, rfl⟩ | cases h
def rEqM (K : PySem.W.Frag) : R2 := fun x y H Q => rEq x y H Q ∨ rEqD K x y H Q
def rNeM (K : PySem.W.Frag) : R2 := fun x y H Q => rNe x y H Q ∨ rNeD K x y H Q
theorem op_eqM {X : Cx} (hu : X.A.units + 64 < cLine) : OpR X (compareOp .Eq) (rEqM X.K) := OpR.or op_eq (op_eqD hu)
theorem op_neM {X : Cx} (hu : X.A.units + 64 < cLine) : OpR X (compareOp .NotEq) (rNeM X.K) := OpR.or op_ne (op_neD hu)
theorem eqV_ok {K : PySem.W.Frag} : Snd2 K (rEqM K) eqV := by
  intro rho S H x y vx vy Q E s rx ry f
  unfold eqV at f
  split at f
  · rename_i d e q1 q2
    split at f
    · rename_i h
      have q := f.val s rfl
      rcases h with h | h
      · exact .inr ⟨d, e, toD_ok s rx q1, toD_ok s ry q2, h.1, h.2, q⟩
      · obtain ⟨a, b, rfl, rfl⟩ := twoS_eq h
        cases q1; cases q2
        cases (show vx = .str a from rx)
        cases (show vy = .str b from ry)
        exact .inl ⟨rfl, by rw [dec_str]; exact q⟩
    · exact f.elim
  · exact f.elim
theorem neV_ok {K : PySem.W.Frag} : Snd2 K (rNeM K) neV := by
  intro rho S H x y vx vy Q E s rx ry f
  unfold neV at f
  split at f
  · rename_i d e q1 q2
    split at f
    · rename_i h
      have q := f.val s rfl
      rcases h with h | h
      · exact .inr ⟨d, e, toD_ok s rx q1, toD_ok s ry q2, h.1, h.2, q⟩
      · obtain ⟨a, b, rfl, rfl⟩ := twoS_eq h
        cases q1; cases q2
        cases (show vx = .str a from rx)
        cases (show vy = .str b from ry)
        exact .inl ⟨rfl, by rw [dec_str]; exact q⟩
    · exact f.elim
  · exact f.elim

/-! ### < <= > >= is -/
def ltV : MV → MV → Sto → Res MV
  | .int i, .int j, S => .ok (.bl (decide (i < j))) S
  | .str i, .str j, S => .ok (.bl (decide (i.cps.toList < j.cps.toList))) S
  | _, _, _ => .bad
def rLtV : R2 := fun x y H Q => (rI0 fun i j => .bl (decide (i < j))) x y H Q ∨ ∃ i j, x = .str i ∧ y = .str j ∧ Q (.bl (decide (i.cps.toList < j.cps.toList))) H
theorem op_ltV {X : Cx} : OpR X (compareOp .Lt) rLtV := OpR.or op_lt op_lt_str
theorem ltV_ok {K : PySem.W.Frag} : Snd2 K rLtV ltV := by
  intro rho S H x y vx vy Q E s rx ry f
  unfold ltV at f
  split at f
  · exact .inl ⟨_, _, rx, ry, f.val s rfl⟩
  · exact .inr ⟨_, _, rx, ry, f.val s rfl⟩
  · exact f.elim
def leV : MV → MV → Sto → Res MV
  | .int i, .int j, S => .ok (.bl (decide (i ≤ j))) S
  | _, _, _ => .bad
theorem leV_ok {K : PySem.W.Frag} : Snd2 K (rI0 fun i j => .bl (decide (i ≤ j))) leV := by
  intro rho S H x y vx vy Q E s rx ry f
  unfold leV at f
  split at f
  · exact ⟨_, _, rx, ry, f.val s rfl⟩
  · exact f.elim
def gtV : MV → MV → Sto → Res MV
  | .int i, .int j, S => .ok (.bl (decide (j < i))) S
  | _, _, _ => .bad
theorem gtV_ok {K : PySem.W.Frag} : Snd2 K (rI0 fun i j => .bl (decide (j < i))) gtV := by
  intro rho S H x y vx vy Q E s rx ry f
  unfold gtV at f
  split at f
  · exact ⟨_, _, rx, ry, f.val s rfl⟩
  · exact f.elim
def geV : MV → MV → Sto → Res MV
  | .int i, .int j, S => .ok (.bl (decide (j ≤ i))) S
  | _, _, _ => .bad
theorem geV_ok {K : PySem.W.Frag} : Snd2 K (rI0 fun i j => .bl (decide (j ≤ i))) geV := by
  intro rho S H x y vx vy Q E s rx ry f
  unfold geV at f
  split at f
  · exact ⟨_, _, rx, ry, f.val s rfl⟩
  · exact f.elim
def isNon : MV → Bool
  | .non => true
  | _ => false
def isNV : MV → MV → Sto → Res MV
  | x, .non, S => .ok (.bl (isNon x)) S
  | _, _, _ => .bad
def notNV : MV → MV → Sto → Res MV
  | x, .non, S => .ok (.bl (!isNon x)) S
  | _, _, _ => .bad
theorem isNon_eq {K : PySem.W.Frag} {rho : Nat → Addr} {n : Nat} {H : Hp} {x : MV} {v : V} (r : Rep K rho n H x v) : decide (v = .non) = isNon x := by
  cases x with
  | non => cases (show v = .non from r); rfl
  | bl b => cases (show v = .bl b from r); rfl
  | int b => cases (show v = .int b from r); rfl
  | str b => cases (show v = .str b from r); rfl
  | ty b => cases (show v = .ty b from r); rfl
  | obj b => cases (show v = .ref b from r); rfl
  | ref k => obtain ⟨_, e⟩ := r; rw [e]; rfl
  | tup k => obtain ⟨_, _, e, _⟩ := r; rw [e]; rfl
theorem isNV_ok {K : PySem.W.Frag} : Snd2 K (fun x y H Q => y = .non ∧ Q (.bl (decide (x = .non))) H) isNV := by
  intro rho S H x y vx vy Q E s rx ry f
  unfold isNV at f
  split at f
  · exact ⟨ry, by rw [isNon_eq rx]; exact f.val s rfl⟩
  · exact f.elim
theorem notNV_ok {K : PySem.W.Frag} : Snd2 K (fun x y H Q => y = .non ∧ Q (.bl (!decide (x = .non))) H) notNV := by
  intro rho S H x y vx vy Q E s rx ry f
  unfold notNV at f
  split at f
  · exact ⟨ry, by rw [isNon_eq rx]; exact f.val s rfl⟩
  · exact f.elim
end Mm
end

section
/-! ## M, part 4: sequences and dicts -/
namespace Mm
open PySem L2 PyProof.Rows
/-! ### displays, argument lists -/
def nilM : EMt (List MV) := fun _ S => .ok [] S
def consM (ma : EM) (mr : EMt (List MV)) : EMt (List MV) := bindM ma fun x => bindM mr fun xs => fun _ S => .ok (x :: xs) S
def lenOk (n : Nat) : Bool := decide (n ≤ sizeLine)
def tupV (xs : List MV) (S : Sto) : Res MV := if xs.length ≤ sizeLine then .ok (.tup xs) S else .bad
def lstV (xs : List MV) (S : Sto) : Res MV := if xs.length ≤ sizeLine then .ok (.ref S.n) (S.add (.lst xs)) else .bad
section
variable {X : Cx} {e a b : Expr} {es : List Expr} {pos : Pos} {W : WX} {m ma mb : EM} {ml : EMt (List MV)}
theorem mp_nil : PA X [] (tA X.K W nilM) := PA.to pa_nil fun sg H Q h => by
  obtain ⟨rho, e, S, s, re, f⟩ := h
  exact f rho H [] s Le.refl rfl
theorem mp_cons (ha : PE X e (tM X.K W m)) (hr : PA X es (tA X.K W ml)) (hs : starEach (e :: es) X.env = (false, eval e X.env) :: starEach es X.env := by rfl) : PA X (e :: es) (tA X.K W (consM m ml)) :=
  PA.to (pa_cons ha hr hs) fun sg H Q h => (tG_bind (rel := rV) h).imp fun v H1 ⟨rho, e, S, x, s, re, rx, f⟩ => by
    refine ⟨rho, e, S, s, re, ?_⟩
    unfold bindM at f
    cases q : ml e S with
    | ok xs S' =>
      rw [q] at f
      exact fun rho' H' vs s' l' rs => f rho' H' _ s' l' ⟨v, vs, rfl, rx.le l', rs⟩
    | exc ex S' => rw [q] at f; exact f
    | bad => rw [q] at f; exact f
theorem mp_tup {k} (h : PA X es (tA X.K W ml)) : PE X (.Tuple es k pos) (tM X.K W (opL tupV ml)) :=
  PE.to (pe_tup h) fun sg H Q h => (tG_bind (rel := rL) h).imp fun vs H1 ⟨rho, e, S, xs, s, re, rx, f⟩ => by
    unfold tupV at f
    split at f
    · rename_i hl
      exact ⟨by rw [rx.len]; exact hl, fun p hp => f.tup s rx hp⟩
    · exact f.elim
theorem mp_lst (h : PA X es (tA X.K W ml)) : PE X (.List es pos) (tM X.K W (opL lstV ml)) :=
  PE.to (pe_lst h) fun sg H Q h => (tG_bind (rel := rL) h).imp fun vs H1 ⟨rho, e, S, xs, s, re, rx, f⟩ => by
    unfold lstV at f
    split at f
    · rename_i hl
      exact ⟨by rw [rx.len]; exact hl, fun p hp => f.lst s rx hp⟩
    · exact f.elim
def dNewK : EM := fun _ S => .ok (.ref S.n) (S.add (.dK []))
def dNewT : EM := fun _ S => .ok (.ref S.n) (S.add (.dT []))
theorem mp_dnewK : PE X (.Dict [] [] pos) (tM X.K W dNewK) := PE.to pe_dnewK fun sg H Q h => by
  obtain ⟨rho, e, S, s, re, f⟩ := h
  exact fun p hp => f.dK s (vs := []) rfl hp
theorem mp_dnewT : PE X (.Dict [] [] pos) (tM X.K W dNewT) := PE.to pe_dnewT fun sg H Q h => by
  obtain ⟨rho, e, S, s, re, f⟩ := h
  exact fun p hp => f.dT s (vs := []) rfl hp
end

/-! ### keys -/
def toK : MV → Option Key
  | .int i => some (.inl i)
  | .str x => some (.inr x)
  | _ => none
section
variable {ka : Type} [DecidableEq ka]
def valM (kvs : List (ka × MV)) (k : ka) : Option MV := (kvs.find? fun kv => decide (kv.1 = k)).map (·.2)
def putM (kvs : List (ka × MV)) (k : ka) (v : MV) : List (ka × MV) :=
  if (kvs.any fun kv => decide (kv.1 = k)) = true then kvs.map (fun kv => if kv.1 = k then (kv.1, v) else kv) else kvs ++ [(k, v)]
def dropM (kvs : List (ka × MV)) (k : ka) : List (ka × MV) := kvs.filter fun kv => decide (kv.1 ≠ k)
variable {K : PySem.W.Frag} {rho : Nat → Addr} {n : Nat} {H : Hp}
theorem RepP.len {ka : Type} : ∀ {ps : List (ka × MV)} {ws : List (ka × V)}, RepP K rho n H ps ws → ws.length = ps.length
  | [], ws, h => by rw [show ws = [] from h]; rfl
  | p :: ps, ws, h => by
    obtain ⟨w, r, h1, _, h3⟩ := h
    rw [h1, List.length_cons, List.length_cons, RepP.len h3]
theorem RepP.val {k : ka} : ∀ {ps : List (ka × MV)} {ws : List (ka × V)}, RepP K rho n H ps ws → (∀ x, valM ps k = some x → ∃ v, valV ws k = some v ∧ Rep K rho n H x v) ∧ (valM ps k = none → valV ws k = none)
  | [], ws, h => by rw [show ws = [] from h]; exact ⟨fun x e => by simp [valM] at e, fun _ => valV_nil⟩
  | p :: ps, ws, h => by
    obtain ⟨w, r, h1, h2, h3⟩ := h
    subst h1
    by_cases e : p.1 = k
    · refine ⟨fun x q => ⟨w, valV_pos e, ?_⟩, fun q => ?_⟩
      · simp [valM, List.find?_cons, e] at q; rw [← q]; exact h2
      · simp [valM, List.find?_cons, e] at q
    · have q : valM (p :: ps) k = valM ps k := by simp [valM, List.find?_cons, e]
      rw [q, valV_neg (p := (p.1, w)) e]
      exact RepP.val h3
theorem RepP.any {k : ka} : ∀ {ps : List (ka × MV)} {ws : List (ka × V)}, RepP K rho n H ps ws → (ws.any fun kv => decide (kv.1 = k)) = (ps.any fun kv => decide (kv.1 = k))
  | [], ws, h => by rw [show ws = [] from h]; rfl
  | p :: ps, ws, h => by
    obtain ⟨w, r, h1, h2, h3⟩ := h
    subst h1
    rw [List.any_cons, List.any_cons, RepP.any h3]
theorem RepP.repl {k : ka} {x : MV} {v : V} (rx : Rep K rho n H x v) : ∀ {ps : List (ka × MV)} {ws : List (ka × V)}, RepP K rho n H ps ws → RepP K rho n H (ps.map fun kv => if kv.1 = k then (kv.1, x) else kv) (ws.map fun kv => if kv.1 = k then (kv.1, v) else kv)
  | [], ws, h => by rw [show ws = [] from h]; rfl
  | p :: ps, ws, h => by
    obtain ⟨w, r, h1, h2, h3⟩ := h
    subst h1
    rw [List.map_cons, List.map_cons]
    by_cases e : p.1 = k
    · rw [if_pos e, if_pos e]; exact ⟨v, _, rfl, rx, RepP.repl rx h3⟩
    · rw [if_neg e, if_neg e]; exact ⟨w, _, rfl, h2, RepP.repl rx h3⟩
theorem RepP.app {ka : Type} : ∀ {ps qs : List (ka × MV)} {ws us : List (ka × V)}, RepP K rho n H ps ws → RepP K rho n H qs us → RepP K rho n H (ps ++ qs) (ws ++ us)
  | [], qs, ws, us, h, q => by rw [show ws = [] from h]; exact q
  | p :: ps, qs, ws, us, h, q => by
    obtain ⟨w, r, h1, h2, h3⟩ := h
    subst h1
    exact ⟨w, _, rfl, h2, RepP.app h3 q⟩
theorem RepP.put {k : ka} {x : MV} {v : V} (rx : Rep K rho n H x v) {ps : List (ka × MV)} {ws : List (ka × V)} (h : RepP K rho n H ps ws) : RepP K rho n H (putM ps k x) (putK ws k v) := by
  unfold putM putK
  rw [h.any]
  split
  · exact RepP.repl rx h
  · exact h.app ⟨v, [], rfl, rx, rfl⟩
theorem RepP.filt {k : ka} : ∀ {ps : List (ka × MV)} {ws : List (ka × V)}, RepP K rho n H ps ws → RepP K rho n H (dropM ps k) (dropK ws k)
  | [], ws, h => by rw [show ws = [] from h]; rfl
  | p :: ps, ws, h => by
    obtain ⟨w, r, h1, h2, h3⟩ := h
    subst h1
    have ih := RepP.filt (k := k) h3
    unfold dropM dropK at ih ⊢
    rw [List.filter_cons, List.filter_cons]
    by_cases e : p.1 = k
    · rw [if_neg (by simp [e]), if_neg (by simp [e])]; exact ih
    · rw [if_pos (by simp [e]), if_pos (by simp [e])]; exact ⟨w, _, rfl, h2, ih⟩
end
theorem toK_rep {K : PySem.W.Frag} {rho : Nat → Addr} {n : Nat} {H : Hp} {x : MV} {v : V} {k : Key} (r : Rep K rho n H x v) (e : toK x = some k) : v = kV k := by
  cases x with
  | int i => cases e; exact r
  | str i => cases e; exact r
  | _ => cases e

/-! ### places -/
theorem atI_len {al be : Type} {xs : List al} {vs : List be} (h : vs.length = xs.length) {i : Int} {x : al} (e : atI xs i = some x) : ∃ j, ixN xs.length i = some j ∧ xs[j]? = some x ∧ ∀ v, vs[j]? = some v → atI vs i = some v := by
  unfold atI at e
  cases q : ixN xs.length i with
  | none => rw [q] at e; cases e
  | some j =>
    rw [q] at e
    refine ⟨j, rfl, e, fun v hv => ?_⟩
    unfold atI
    rw [h, q]
    exact hv
theorem RepL.at {K : PySem.W.Frag} {rho : Nat → Addr} {n : Nat} {H : Hp} {xs : List MV} {vs : List V} (r : RepL K rho n H xs vs) {i : Int} {x : MV} (e : atI xs i = some x) : ∃ v, atI vs i = some v ∧ Rep K rho n H x v := by
  obtain ⟨j, _, h2, h3⟩ := atI_len r.len e
  obtain ⟨v, h4, h5⟩ := r.get h2
  exact ⟨v, h3 v h4, h5⟩
def optV (o : Option MV) (S : Sto) : Res MV := match o with
  | some x => .ok x S
  | none => .bad
def idxV : MV → MV → Sto → Res MV
  | .tup xs, .int i, S => optV (atI xs i) S
  | .str z, .int i, S => if z.length ≤ sizeLine then optV ((atI z.cps.toList i).map fun c => .str ⟨#[c]⟩) S else .bad
  | .ref k, y, S => match S.g k with
    | .lst xs => (match y with
      | .int i => optV (atI xs i) S
      | _ => .bad)
    | .con xs => (match y with
      | .int i => optV (atI xs i) S
      | _ => .bad)
    | .dK kvs => (match toK y with
      | some key => optV (valM kvs key) S
      | none => .bad)
    | _ => .bad
  | _, _, _ => .bad
def rDGet : R2 := fun x y H Q => ∃ a v, x = .ref a ∧ DGet H a y (some v) ∧ Q v H
theorem ix_dict {X : Cx} (hu : X.A.units + 1 < cLine) : IxR X rDGet := by
  intro value slice pins s sg H x y v u Q I rx ry h hs
  obtain ⟨a, z, rfl, g, q⟩ := h
  cases rx
  exact tail_any (dict_typeIs I g) PySem.F.slot_dict_getitem.lookup (d_getItem hu I g ry fun w' s' I' rw' => ⟨z, H, I', rw', q⟩) hs
def rIdxV (K : PySem.W.Frag) : R2 := fun x y H Q => rIx K x y H Q ∨ rDGet x y H Q
theorem ix_idxV {X : Cx} (hu : X.A.units + 1 < cLine) : IxR X (rIdxV X.K) := IxR.or ix_seq (ix_dict hu)
theorem Fin.opt {K : PySem.W.Frag} {rho : Nat → Addr} {S : Sto} {H : Hp} {Q : VK} {E : XK} {o : Option MV} (f : Fin K rV rho S H Q E (optV o S)) : ∃ x, o = some x ∧ Fin K rV rho S H Q E (.ok x S) := by
  cases o with
  | some x => exact ⟨x, rfl, f⟩
  | none => exact f.elim
theorem idxV_ok {K : PySem.W.Frag} : Snd2 K (rIdxV K) idxV := by
  intro rho S H x y vx vy Q E s rx ry f
  unfold idxV at f
  split at f
  · obtain ⟨z, e, f⟩ := f.opt
    obtain ⟨a, vs, h1, h2, h3⟩ := rx
    obtain ⟨v, h4, h5⟩ := h3.at e
    exact .inl (.inr (.inl ⟨a, vs, _, v, h1, ry, h2, h4, f.val s h5⟩))
  · split at f
    · rename_i hl
      obtain ⟨z, e, f⟩ := f.opt
      cases q : atI _ _ with
      | none => rw [q] at e; cases e
      | some c =>
        rw [q] at e; cases e
        exact .inl (.inr (.inr ⟨_, _, c, rx, ry, hl, q, f.val s rfl⟩))
    · exact f.elim
  · rename_i k
    obtain ⟨hk, ek⟩ := rx
    subst ek
    cases q : S.g k with
    | lst xs =>
      simp only [q] at f
      split at f
      · obtain ⟨z, e, f⟩ := f.opt
        obtain ⟨vs, h1, h2⟩ := lst_at s hk q
        obtain ⟨v, h4, h5⟩ := h2.at e
        exact .inl (.inl ⟨_, vs, _, v, rfl, ry, SqL.of h1, h4, f.val s h5⟩)
      · exact f.elim
    | con xs =>
      simp only [q] at f
      split at f
      · obtain ⟨z, e, f⟩ := f.opt
        obtain ⟨vs, h1, h2⟩ := seqO_at s hk (xs := xs) (by rw [q]; rfl)
        obtain ⟨v, h4, h5⟩ := h2.at e
        exact .inl (.inl ⟨_, vs, _, v, rfl, ry, h1, h4, f.val s h5⟩)
      · exact f.elim
    | dK kvs =>
      simp only [q] at f
      split at f
      · rename_i key hkey
        obtain ⟨z, e, f⟩ := f.opt
        obtain ⟨ws, h1, h2⟩ := dK_at s hk q
        obtain ⟨v, h4, h5⟩ := h2.val.1 z e
        exact .inr ⟨_, v, rfl, .inl ⟨ws, key, .inl h1, toK_rep ry hkey, h4.symm⟩, f.val s h5⟩
      · exact f.elim
    | dT kvs => simp only [q] at f; exact f.elim
    | ins C fs => simp only [q] at f; exact f.elim
    | exn C fs => simp only [q] at f; exact f.elim
  · exact f.elim
section
variable {X : Cx} {e a b : Expr} {es : List Expr} {pos : Pos} {W : WX} {m ma mb : EM} {ml : EMt (List MV)} {K : PySem.W.Frag}
theorem mp_ix {r : R2} {g : MV → MV → Sto → Res MV} (hi : IxR X r) (hs : Snd2 X.K r g) (ha : PE X a (tM X.K W ma)) (hb : PE X b (tM X.K W mb)) (hp : PlainIx b := by exact fun _ _ => rfl) : PE X (.Subscript a b pos) (tM X.K W (op2 g ma mb)) :=
  PE.to (pe_ix hi ha hb hp) fun _ _ _ => tM_op2 hs
theorem mp_idx (hu : X.A.units + 1 < cLine) (ha : PE X a (tM X.K W ma)) (hb : PE X b (tM X.K W mb)) (hp : PlainIx b := by exact fun _ _ => rfl) : PE X (.Subscript a b pos) (tM X.K W (op2 idxV ma mb)) :=
  mp_ix (ix_idxV hu) idxV_ok ha hb hp

/-! ### slices -/
def prtM (o : Option EM) : EMt (Option Int) := match o with
  | none => fun _ S => .ok none S
  | some m => bindM m fun x => fun _ S => match x with
    | .int i => .ok (some i) S
    | _ => .bad
abbrev tP (K : PySem.W.Frag) (W : WX) (m : EMt (Option Int)) : TO := tG K (rE (Option Int)) W m
theorem mp_pno : PO X none (tP X.K W (prtM none)) := ⟨fun pins s sg H Q I h => po_none.run pins s sg H Q I (by
  obtain ⟨rho, e, S, s, re, f⟩ := h
  exact f rho H none s Le.refl rfl)⟩
theorem mp_psome (ha : PE X e (tM X.K W m)) : PO X (some e) (tP X.K W (prtM (some m))) := ⟨fun pins s sg H Q I h => (po_some ha).run pins s sg H Q I ((tG_bind (rel := rV) h).imp fun v H1 ⟨rho, e, S, x, s, re, rx, f⟩ => by
  cases x with
  | int i => exact ⟨i, rx, f rho H1 _ s Le.refl rfl⟩
  | _ => exact f.elim)⟩
/-- the items of xs[lo:hi] -/
def cutM {al : Type} (xs : List al) (lo hi : Option Int) : List al := (xs.drop (HT.sIx xs.length 0 lo)).take (HT.sIx xs.length xs.length hi - HT.sIx xs.length 0 lo)
def cutSV (x : MV) (lo hi : Option Int) (S : Sto) : Res MV := match x with
  | .tup xs => .ok (.tup (cutM xs lo hi)) S
  | .str z => if z.length ≤ sizeLine then .ok (.str (cutS z lo hi)) S else .bad
  | .ref k => match seqO (S.g k) with
    | some xs => .ok (.ref S.n) (S.add (.lst (cutM xs lo hi)))
    | none => .bad
  | _ => .bad
theorem RepL.cut {rho : Nat → Addr} {n : Nat} {H : Hp} {xs : List MV} {vs : List V} (r : RepL K rho n H xs vs) (lo hi : Option Int) : RepL K rho n H (cutM xs lo hi) (cutV vs lo hi) := by
  unfold cutM cutV
  rw [r.len]
  exact RepL.take _ (RepL.drop _ r)
def slcM (mo : EM) (ml mh : Option EM) : EM := bindM mo fun x => bindM (prtM ml) fun l => bindM (prtM mh) fun h => fun _ S => cutSV x l h S
def rSlV (K : PySem.W.Frag) : V → Option Int → Option Int → Hp → VK → Prop := fun x lo hi H Q => rSlL K x lo hi H Q ∨ (rSlA K x lo hi H Q ∨ rSlS x lo hi H Q)
theorem mp_slice {lo hi : Option Expr} {ml mh : Option EM} {p2 : Pos} (ha : PE X e (tM X.K W m)) (hl : PO X lo (tP X.K W (prtM ml))) (hh : PO X hi (tP X.K W (prtM mh))) : PE X (.Subscript e (.Slice lo hi none p2) pos) (tM X.K W (slcM m ml mh)) :=
  PE.to (pe_slice (SlR.or sl_list (SlR.or sl_tupA sl_str)) ha hl hh) fun sg H Q h => (tG_bind (rel := rV) h).imp fun v H1 ⟨rho, e, S, x, s, re, rx, f⟩ => by
    have h1 : tM X.K W (bindM (prtM ml) fun l => bindM (prtM mh) fun h => fun _ S => cutSV x l h S) sg H1 Q := ⟨rho, e, S, s, re, f⟩
    refine ⟨rho, e, S, s, re, ?_⟩
    unfold bindM at f
    cases q : prtM ml e S with
    | exc ex S' => rw [q] at f; exact f
    | bad => rw [q] at f; exact f
    | ok l S' =>
      rw [q] at f
      intro rho' H' o' s' l' ro
      have ro' : l = o' := ro
      subst ro'
      have f' := f.step l'
      have rx' := rx.le l'
      refine ⟨rho', e, S', s', re.le l', ?_⟩
      simp only at f'
      cases q2 : prtM mh e S' with
      | exc ex S' => rw [q2] at f'; exact f'
      | bad => rw [q2] at f'; exact f'
      | ok hb S2 =>
        rw [q2] at f'
        intro rho2 H2 o2 s2 l2 ro2
        have ro2' : hb = o2 := ro2
        subst ro2'
        have f2 := f'.step l2
        have rx2 := rx'.le l2
        simp only at f2
        unfold cutSV at f2
        split at f2
        · rename_i xs
          obtain ⟨a, vs, e1, e2, e3⟩ := rx2
          refine .inr (.inl ⟨a, vs, e1, e2, fun e => ?_, fun _ p hp => f2.tup s2 (e3.cut _ _) hp⟩)
          have : cutM xs l hb = xs := by
            unfold cutM
            rw [← e3.len, e.1, e.2, e3.len]
            simp
          rw [this] at f2
          exact f2.val s2 ⟨a, vs, rfl, e2, e3⟩
        · split at f2
          · rename_i z hl
            exact .inr (.inr ⟨_, rx2, hl, f2.val s2 rfl⟩)
          · exact f2.elim
        · split at f2
          · rename_i k xs qk
            obtain ⟨hk, ek⟩ := rx2
            obtain ⟨vs, e1, e2⟩ := seqO_at s2 hk qk
            exact .inl ⟨_, vs, ek, e1, fun p hp => f2.lst s2 (e2.cut _ _) hp⟩
          · exact f2.elim
        · exact f2.elim
/-- xs[::-1] -/
def revLV (x : MV) (S : Sto) : Res MV := match x with
  | .ref k => match seqO (S.g k) with
    | some xs => .ok (.ref S.n) (S.add (.lst xs.reverse))
    | none => .bad
  | _ => .bad
theorem mp_revL {k : Nat} {p1 p2 p3 : Pos} (ha : PE X e (tM X.K W m)) : PE X (.Subscript e (.Slice none none (some (.UnaryOp .USub (.Constant (.int 1) k p1) p2)) p3) pos) (tM X.K W (op1 revLV m)) :=
  PE.to (pe_revL ha) fun sg H Q h => (tG_bind (rel := rV) h).imp fun v H1 ⟨rho, e, S, x, s, re, rx, f⟩ => by
    unfold revLV at f
    split at f
    · split at f
      · rename_i k xs q
        obtain ⟨hk, ek⟩ := rx
        obtain ⟨vs, h1, h2⟩ := seqO_at s hk q
        exact ⟨_, vs, ek, h1, fun p hp => f.lst s h2.rev hp⟩
      · exact f.elim
    · exact f.elim

/-! ### in -/
def toF : MV → Option V
  | .non => some .non
  | .bl b => some (.bl b)
  | .int i => some (.int i)
  | .str x => some (.str x)
  | _ => none
def toFs : List MV → Option (List V)
  | [] => some []
  | x :: xs => match toF x, toFs xs with
    | some v, some vs => some (v :: vs)
    | _, _ => none
theorem toF_ok {rho : Nat → Addr} {n : Nat} {H : Hp} {x : MV} {v u : V} (r : Rep K rho n H x v) (e : toF x = some u) : v = u ∧ flatV u = true := by
  cases x <;> simp only [toF] at e <;> first | (cases e; exact ⟨r, rfl⟩) | cases e
theorem toFs_ok {rho : Nat → Addr} {n : Nat} {H : Hp} : ∀ {xs : List MV} {vs us : List V}, RepL K rho n H xs vs → toFs xs = some us → vs = us ∧ us.all flatV = true
  | [], vs, us, r, e => by cases e; exact ⟨r, rfl⟩
  | x :: xs, vs, us, r, e => by
    obtain ⟨w, r', h1, h2, h3⟩ := r
    subst h1
    simp only [toFs] at e
    split at e
    · rename_i v vs' q1 q2
      cases e
      obtain ⟨e1, e2⟩ := toF_ok h2 q1
      obtain ⟨e3, e4⟩ := toFs_ok h3 q2
      subst e1 e3
      exact ⟨rfl, by simp [e2]; simpa using e4⟩
    · cases e
def inFl (x : MV) (xs : List MV) : Option Bool := match toF x, toFs xs with
  | some v, some vs => some (inV v vs)
  | _, _ => none
def inO (x y : MV) (S : Sto) : Option Bool := match y with
  | .tup xs => inFl x xs
  | .str z => match x with
    | .str w => (match w.cps.toList with
      | [c] => some (decide (c ∈ z.cps.toList))
      | _ => some (!(Builtin.Str.occurrences z w 0 z.length 1).isEmpty))
    | _ => none
  | .ref k => match S.g k with
    | .lst xs => inFl x xs
    | .con xs => inFl x xs
    | .dK kvs => (toK x).map fun key => (valM kvs key).isSome
    | _ => none
  | _ => none
def inVv (x y : MV) (S : Sto) : Res MV := match inO x y S with
  | some b => .ok (.bl b) S
  | none => .bad
def notInV (x y : MV) (S : Sto) : Res MV := match inO x y S with
  | some b => .ok (.bl (!b)) S
  | none => .bad
def rDIn (neg : Bool) : R2 := fun x y H Q => ∃ a o, y = .ref a ∧ DGet H a x o ∧ Q (.bl (if neg then !o.isSome else o.isSome)) H
theorem op_dIn (hu : X.A.units + 1 < cLine) : OpR X (compareOp .In) (rDIn false) := by
  intro pins s sg H x y v u Q I rx ry h
  obtain ⟨a, o, rfl, g, q⟩ := h
  cases ry
  exact d_in hu I g rx fun s' I' => ⟨.bl o.isSome, H, I', rfl, q⟩
theorem op_dNotIn (hu : X.A.units + 1 < cLine) : OpR X (compareOp .NotIn) (rDIn true) := by
  intro pins s sg H x y v u Q I rx ry h
  obtain ⟨a, o, rfl, g, q⟩ := h
  cases ry
  exact d_notIn hu I g rx fun s' I' => ⟨.bl (!o.isSome), H, I', rfl, q⟩
def rStrIn (neg : Bool) : R2 := fun x y H Q => ∃ i j, x = .str i ∧ y = .str j ∧ Q (.bl (if neg then !(!(Builtin.Str.occurrences j i 0 j.length 1).isEmpty) else !(Builtin.Str.occurrences j i 0 j.length 1).isEmpty)) H
def rSgnIn (neg : Bool) : R2 := fun x y H Q => ∃ (c : Nat) (z : Str), x = .str ⟨#[c]⟩ ∧ y = .str z ∧ Q (.bl (if neg then !decide (c ∈ z.cps.toList) else decide (c ∈ z.cps.toList))) H
def rInV (K : PySem.W.Frag) (neg : Bool) : R2 := fun x y H Q => (rIn K neg x y H Q ∨ rDIn neg x y H Q) ∨ (rStrIn neg x y H Q ∨ rSgnIn neg x y H Q)
theorem op_inV (hu : X.A.units + 1 < cLine) : OpR X (compareOp .In) (rInV X.K false) := OpR.or (OpR.or op_in_seq (op_dIn hu)) (OpR.or op_in_str op_in_sign)
theorem op_notInV (hu : X.A.units + 1 < cLine) : OpR X (compareOp .NotIn) (rInV X.K true) := OpR.or (OpR.or op_notIn_seq (op_dNotIn hu)) (OpR.or op_notin_str op_notIn_sign)
theorem inO_ok {rho : Nat → Addr} {S : Sto} {H : Hp} {x y : MV} {vx vy : V} {Q : VK} {b neg : Bool} (s : Sim K rho S H) (rx : Rep K rho S.n H x vx) (ry : Rep K rho S.n H y vy) (e : inO x y S = some b) (q : Q (.bl (if neg then !b else b)) H) : rInV K neg vx vy H Q := by
  have fl : ∀ {xs : List MV} {vs : List V} {a : Addr}, (SqL K H a vs ∨ SqT K H a vs) → RepL K rho S.n H xs vs → inFl x xs = some b → vy = .ref a → rInV K neg vx vy H Q := by
    intro xs vs a hs hr e hy
    unfold inFl at e
    split at e
    · rename_i v vs' q1 q2
      cases e
      obtain ⟨e1, e2⟩ := toF_ok rx q1
      obtain ⟨e3, e4⟩ := toFs_ok hr q2
      subst e1 e3
      exact .inl (.inl ⟨a, vs, hy, hs, e2, e4, q⟩)
    · cases e
  unfold inO at e
  split at e
  · obtain ⟨a, vs, h1, h2, h3⟩ := ry
    exact fl (.inr h2) h3 e h1
  · split at e
    · rename_i z _ w
      split at e
      · rename_i c hc
        cases e
        refine .inr (.inr ⟨c, z, ?_, ry, q⟩)
        rw [show vx = .str w from rx]
        congr 1
        cases w with
        | mk l => simp only at hc; congr 1; exact Array.toList_inj.mp (by simpa using hc)
      · cases e
        exact .inr (.inl ⟨w, z, rx, ry, q⟩)
    · cases e
  · rename_i k
    obtain ⟨hk, ek⟩ := ry
    split at e
    · rename_i xs qk
      obtain ⟨vs, h1, h2⟩ := lst_at s hk qk
      exact fl (.inl (SqL.of h1)) h2 e ek
    · rename_i xs qk
      obtain ⟨vs, h1, h2⟩ := seqO_at s hk (xs := xs) (by rw [qk]; rfl)
      exact fl (.inl h1) h2 e ek
    · rename_i kvs qk
      cases qx : toK x with
      | none => rw [qx] at e; cases e
      | some key =>
        rw [qx] at e
        cases e
        obtain ⟨ws, h1, h2⟩ := dK_at s hk qk
        have hv := h2.val (k := key)
        refine .inl (.inr ⟨_, _, ek, .inl ⟨ws, key, .inl h1, toK_rep rx qx, rfl⟩, ?_⟩)
        have : (valV ws key).isSome = (valM kvs key).isSome := by
          cases q3 : valM kvs key with
          | none => rw [hv.2 q3]; rfl
          | some z => obtain ⟨v, h4, _⟩ := hv.1 z q3; rw [h4]; rfl
        rw [this]
        exact q
    · cases e
  · cases e
theorem inV_ok : Snd2 K (rInV K false) inVv := by
  intro rho S H x y vx vy Q E s rx ry f
  unfold inVv at f
  split at f
  · rename_i b e
    exact inO_ok s rx ry e (f.val s rfl)
  · exact f.elim
theorem notInV_ok : Snd2 K (rInV K true) notInV := by
  intro rho S H x y vx vy Q E s rx ry f
  unfold notInV at f
  split at f
  · rename_i b e
    exact inO_ok s rx ry e (f.val s rfl)
  · exact f.elim

/-! ### built-ins by values -/
theorem mp_callB {id : String} {r : List V → Hp → VK → Prop} {g : List MV → Sto → Res MV} {x : Str} {p : Pos} (hc : CallR X (.builtin id) r) (hs : SndL X.K r g) (hg : Gl X x) (hm : X.mg x = none) (hv : bootBuiltins x = some (.builtin id)) (ha : PA X (e :: es) (tA X.K W ml)) (hn : x ≠ "__name__" := by decide) (hdb : (x == ("__debug__" : Str)) = false := by decide)
    (he : starEach (e :: es) X.env = (false, eval e X.env) :: starEach es X.env := by rfl) (hpl : (backTo pos (starEach es X.env)).any (·.1) = false := by rfl) : PE X (.Call (.Name x p) (e :: es) [] pos) (tM X.K W (opL g ml)) :=
  PE.to (pe_callB hc hg hm hv ha hn hdb he hpl) fun _ _ _ => tM_opL hs
theorem mp_callTy {T : String} {r : List V → Hp → VK → Prop} {g : List MV → Sto → Res MV} {x : Str} {p : Pos} (hc : CallR X (.type T) r) (hs : SndL X.K r g) (hg : Gl X x) (hm : X.mg x = none) (hv : bootBuiltins x = some (.type T)) (ha : PA X (e :: es) (tA X.K W ml)) (hn : x ≠ "__name__" := by decide) (hdb : (x == ("__debug__" : Str)) = false := by decide)
    (he : starEach (e :: es) X.env = (false, eval e X.env) :: starEach es X.env := by rfl) (hpl : (backTo pos (starEach es X.env)).any (·.1) = false := by rfl) : PE X (.Call (.Name x p) (e :: es) [] pos) (tM X.K W (opL g ml)) :=
  PE.to (pe_callTy hc hg hm hv ha hn hdb he hpl) fun _ _ _ => tM_opL hs
theorem rep1 {rho : Nat → Addr} {n : Nat} {H : Hp} {x : MV} {vs : List V} (r : RepL K rho n H [x] vs) : ∃ v, vs = [v] ∧ Rep K rho n H x v := by
  obtain ⟨v, r', h1, h2, h3⟩ := r
  rw [show r' = [] from h3] at h1
  exact ⟨v, h1, h2⟩
theorem rep2 {rho : Nat → Addr} {n : Nat} {H : Hp} {x y : MV} {vs : List V} (r : RepL K rho n H [x, y] vs) : ∃ v w, vs = [v, w] ∧ Rep K rho n H x v ∧ Rep K rho n H y w := by
  obtain ⟨v, r', h1, h2, h3⟩ := r
  obtain ⟨w, h4, h5⟩ := rep1 h3
  exact ⟨v, w, by rw [h1, h4], h2, h5⟩
def lenO (x : MV) (S : Sto) : Option Nat := match x with
  | .tup xs => some xs.length
  | .str z => if z.length ≤ sizeLine then some z.length else none
  | .ref k => match S.g k with
    | .lst xs => some xs.length
    | .con xs => some xs.length
    | .dK kvs => some kvs.length
    | _ => none
  | _ => none
def lenV : List MV → Sto → Res MV
  | [x], S => match lenO x S with
    | some n => .ok (.int n) S
    | none => .bad
  | _, _ => .bad
def rLenV (K : PySem.W.Frag) : List V → Hp → VK → Prop := fun xs H Q => (∃ x n, xs = [x] ∧ LenV K x H n ∧ Q (.int n) H) ∨ ∃ a kvs, xs = [V.ref a] ∧ H a = some (.dK kvs) ∧ Q (.int kvs.length) H
theorem call_lenV : CallR X (.builtin "len") (rLenV X.K) := CallR.or call_len call_lenD
theorem lenV_ok : SndL K (rLenV K) lenV := by
  intro rho S H xs vs Q E s rx f
  unfold lenV at f
  split at f
  · rename_i x
    obtain ⟨v, h1, h2⟩ := rep1 rx
    subst h1
    split at f
    · rename_i n e
      have q : Q (.int n) H := f.val s rfl
      unfold lenO at e
      split at e
      · cases e
        obtain ⟨a, vs, g1, g2, g3⟩ := h2
        exact .inl ⟨v, _, rfl, by rw [g1]; exact .inr ⟨vs, g2, g3.len.symm⟩, q⟩
      · split at e
        · rename_i hl
          cases e
          exact .inl ⟨v, _, rfl, by rw [show v = .str _ from h2]; exact ⟨hl, rfl⟩, q⟩
        · cases e
      · rename_i k
        obtain ⟨hk, ek⟩ := h2
        subst ek
        split at e
        · rename_i ys qk
          cases e
          obtain ⟨vs, g1, g2⟩ := lst_at s hk qk
          exact .inl ⟨_, _, rfl, .inl ⟨vs, SqL.of g1, g2.len.symm⟩, q⟩
        · rename_i ys qk
          cases e
          obtain ⟨vs, g1, g2⟩ := seqO_at s hk (xs := ys) (by rw [qk]; rfl)
          exact .inl ⟨_, _, rfl, .inl ⟨vs, g1, g2.len.symm⟩, q⟩
        · rename_i kvs qk
          cases e
          obtain ⟨ws, g1, g2⟩ := dK_at s hk qk
          exact .inr ⟨_, ws, rfl, g1, by rw [g2.len]; exact q⟩
        · cases e
      · cases e
    · exact f.elim
  · exact f.elim
def intV : List MV → Sto → Res MV
  | [.int i], S => .ok (.int i) S
  | [.bl b], S => .ok (.int (if b then 1 else 0)) S
  | [.str a], S => match PySem.intText? a with
    | some n => if a.length ≤ 640 then .ok (.int n) S else .bad
    | none => .bad
  | _, _ => .bad
def rIntV : List V → Hp → VK → Prop := fun xs H Q => ((∃ i, xs = [.int i] ∧ Q (.int i) H) ∨ ∃ k, xs = [.bl k] ∧ Q (.int (if k then 1 else 0)) H) ∨ ∃ a n, xs = [.str a] ∧ PySem.intText? a = some n ∧ a.length ≤ 640 ∧ Q (.int n) H
theorem call_intV : CallR X (.type "int") rIntV := CallR.or call_int1 call_int_str
theorem intV_ok : SndL K rIntV intV := by
  intro rho S H xs vs Q E s rx f
  unfold intV at f
  split at f
  · obtain ⟨v, h1, h2⟩ := rep1 rx
    exact .inl (.inl ⟨_, by rw [h1, show v = .int _ from h2], f.val s rfl⟩)
  · obtain ⟨v, h1, h2⟩ := rep1 rx
    exact .inl (.inr ⟨_, by rw [h1, show v = .bl _ from h2], f.val s rfl⟩)
  · obtain ⟨v, h1, h2⟩ := rep1 rx
    split at f
    · rename_i n e
      split at f
      · rename_i hl
        exact .inr ⟨_, n, by rw [h1, show v = .str _ from h2], e, hl, f.val s rfl⟩
      · exact f.elim
    · exact f.elim
  · exact f.elim
def absVl : List MV → Sto → Res MV
  | [.int i], S => .ok (.int (if i < 0 then -i else i)) S
  | _, _ => .bad
theorem absV_ok : SndL K (fun xs H Q => ∃ i, xs = [.int i] ∧ Q (.int (if i < 0 then -i else i)) H) absVl := by
  intro rho S H xs vs Q E s rx f
  unfold absVl at f
  split at f
  · obtain ⟨v, h1, h2⟩ := rep1 rx
    exact ⟨_, by rw [h1, show v = .int _ from h2], f.val s rfl⟩
  · exact f.elim
def minVl : List MV → Sto → Res MV
  | [.int i, .int j], S => .ok (.int (if j < i then j else i)) S
  | _, _ => .bad
theorem minV_ok : SndL K (fun xs H Q => ∃ i j, xs = [.int i, .int j] ∧ Q (.int (if j < i then j else i)) H) minVl := by
  intro rho S H xs vs Q E s rx f
  unfold minVl at f
  split at f
  · obtain ⟨v, w, h1, h2, h3⟩ := rep2 rx
    exact ⟨_, _, by rw [h1, show v = .int _ from h2, show w = .int _ from h3], f.val s rfl⟩
  · exact f.elim
def maxVl : List MV → Sto → Res MV
  | [.int i, .int j], S => .ok (.int (if j > i then j else i)) S
  | _, _ => .bad
theorem maxV_ok : SndL K (fun xs H Q => ∃ i j, xs = [.int i, .int j] ∧ Q (.int (if j > i then j else i)) H) maxVl := by
  intro rho S H xs vs Q E s rx f
  unfold maxVl at f
  split at f
  · obtain ⟨v, w, h1, h2, h3⟩ := rep2 rx
    exact ⟨_, _, by rw [h1, show v = .int _ from h2, show w = .int _ from h3], f.val s rfl⟩
  · exact f.elim
def tupOf : List MV → Sto → Res MV
  | [.tup xs], S => .ok (.tup xs) S
  | [.ref k], S => match seqO (S.g k) with
    | some xs => .ok (.tup xs) S
    | none => .bad
  | _, _ => .bad
theorem tupOf_ok : SndL K (fun xs H Q => ∃ p ys, xs = [.ref p] ∧ ((SqL K H p ys ∧ ∀ l, H l = none → Q (.ref l) (upd H l (.tup ys))) ∨ (SqT K H p ys ∧ Q (.ref p) H))) tupOf := by
  intro rho S H xs vs Q E s rx f
  unfold tupOf at f
  split at f
  · obtain ⟨v, h1, a, ws, h2, h3, h4⟩ := rep1 rx
    exact ⟨a, ws, by rw [h1, h2], .inr ⟨h3, f.val s ⟨a, ws, rfl, h3, h4⟩⟩⟩
  · obtain ⟨v, h1, hk, ek⟩ := rep1 rx
    split at f
    · rename_i ys qk
      obtain ⟨ws, g1, g2⟩ := seqO_at s hk qk
      exact ⟨_, ws, by rw [h1, ek], .inl ⟨g1, fun p hp => f.tup s g2 hp⟩⟩
    · exact f.elim
  · exact f.elim
def lstOf : List MV → Sto → Res MV
  | [.tup xs], S => .ok (.ref S.n) (S.add (.lst xs))
  | [.ref k], S => match seqO (S.g k) with
    | some xs => .ok (.ref S.n) (S.add (.lst xs))
    | none => .bad
  | _, _ => .bad
theorem lstOf_ok : SndL K (fun xs H Q => ∃ p ys, xs = [.ref p] ∧ (SqL K H p ys ∨ SqT K H p ys) ∧ ∀ l, H l = none → Q (.ref l) (upd H l (.lst ys))) lstOf := by
  intro rho S H xs vs Q E s rx f
  unfold lstOf at f
  split at f
  · obtain ⟨v, h1, a, ws, h2, h3, h4⟩ := rep1 rx
    exact ⟨a, ws, by rw [h1, h2], .inr h3, fun p hp => f.lst s h4 hp⟩
  · obtain ⟨v, h1, hk, ek⟩ := rep1 rx
    split at f
    · rename_i ys qk
      obtain ⟨ws, g1, g2⟩ := seqO_at s hk qk
      exact ⟨_, ws, by rw [h1, ek], .inl g1, fun p hp => f.lst s g2 hp⟩
    · exact f.elim
  · exact f.elim

/-! ### methods of built-in types -/
def SndB (K : PySem.W.Frag) (T : String) (r : V → List V → Hp → VK → Prop) (g : MV → List MV → Sto → Res MV) : Prop := ∀ rho S H x vx xs vs Q E, Sim K rho S H → Rep K rho S.n H x vx → RepL K rho S.n H xs vs → Fin K rV rho S H Q E (g x xs S) → r vx vs H Q
/-- the type is what the method's call wants -/
def tyOk (T : String) (x : MV) (S : Sto) : Bool := match x with
  | .str _ => T == "str"
  | .int _ => T == "int"
  | .ref k => match S.g k with
    | .lst _ => T == "list"
    | .con _ => T == "list"
    | .dK _ => T == "dict"
    | .dT _ => T == "dict"
    | _ => false
  | _ => false
def bmM (T : String) (g : MV → List MV → Sto → Res MV) (mo : EM) (ml : EMt (List MV)) : EM := bindM mo fun x => fun e S => if tyOk T x S = true then bindM ml (fun xs => fun _ S => g x xs S) e S else .bad
theorem tyOk_ok {rho : Nat → Addr} {S : Sto} {H : Hp} {x : MV} {v : V} {T : String} (s : Sim K rho S H) (rx : Rep K rho S.n H x v) (h : tyOk T x S = true) : tyV K T v H := by
  unfold tyOk at h
  split at h
  · rw [show v = .str _ from rx]; exact (show T = "str" by simpa using h)
  · rw [show v = .int _ from rx]; exact (show T = "int" by simpa using h)
  · rename_i k
    obtain ⟨hk, ek⟩ := rx
    subst ek
    split at h
    · rename_i xs q
      obtain ⟨vs, h1, h2⟩ := lst_at s hk q
      exact .inl ⟨by simpa using h, vs, SqL.of h1⟩
    · rename_i xs q
      obtain ⟨vs, h1, h2⟩ := seqO_at s hk (xs := xs) (by rw [q]; rfl)
      exact .inl ⟨by simpa using h, vs, h1⟩
    · rename_i xs q
      obtain ⟨vs, h1, h2⟩ := dK_at s hk q
      exact .inr (.inr (.inl ⟨by simpa using h, .inl ⟨vs, h1⟩⟩))
    · rename_i xs q
      obtain ⟨vs, h1, h2⟩ := dT_at s hk q
      exact .inr (.inr (.inl ⟨by simpa using h, .inr ⟨vs, h1⟩⟩))
    · cases h
  · cases h
theorem tM_bm {T : String} {r : V → List V → Hp → VK → Prop} {g : MV → List MV → Sto → Res MV} (hs : SndB K T r g) {sg : L2.St} {H : Hp} {Q : VK} (h : tM K W (bmM T g ma ml) sg H Q) : tBM K T r (tM K W ma) (tA K W ml) sg H Q :=
  (tG_bind (rel := rV) h).imp fun v H1 ⟨rho, e, S, x, s, re, rx, f⟩ => by
    by_cases ht : tyOk T x S = true
    · rw [if_pos ht] at f
      refine ⟨tyOk_ok s rx ht, rho, e, S, s, re, ?_⟩
      unfold bindM at f
      cases q : ml e S with
      | ok xs S' =>
        rw [q] at f
        exact fun rho' H' vs s' l' rs => hs _ _ _ _ _ _ _ _ _ s' (rx.le l') rs (f.step l')
      | exc ex S' => rw [q] at f; exact f
      | bad => rw [q] at f; exact f
    · rw [if_neg ht] at f; exact f.elim
theorem tM_bm0 {T : String} {r : V → List V → Hp → VK → Prop} {g : MV → List MV → Sto → Res MV} (hs : SndB K T r g) {sg : L2.St} {H : Hp} {Q : VK} (h : tM K W (bmM T g ma nilM) sg H Q) : tBM0 K T r (tM K W ma) sg H Q :=
  (tG_bind (rel := rV) h).imp fun v H1 ⟨rho, e, S, x, s, re, rx, f⟩ => by
    by_cases ht : tyOk T x S = true
    · rw [if_pos ht] at f
      exact ⟨tyOk_ok s rx ht, hs _ _ _ _ _ [] [] _ _ s rx rfl f⟩
    · rw [if_neg ht] at f; exact f.elim
variable {o : Expr} {name : Str} {apos cpos : Pos} {T id : String}
theorem mp_bm0 {r : V → List V → Hp → VK → Prop} {g : MV → List MV → Sto → Res MV} (pa : PlainAttrs T) (slot : Slot T name id) (hty : typeOf (.builtin id) = pure (.type "method_descriptor")) (hm : MtR X id r) (hs : SndB X.K T r g) (ho : PE X o (tM X.K W ma))
    (hbase : attributeBase o name X.env (eval o X.env) = eval o X.env := by rfl) (hline : (apos.endLine == cpos.line) = true := by rfl) : PE X (.Call (.Attribute o name apos) [] [] cpos) (tM X.K W (bmM T g ma nilM)) :=
  PE.to (pe_bm0 pa slot hty hm ho hbase hline) fun _ _ _ => tM_bm0 hs
theorem mp_bm {r : V → List V → Hp → VK → Prop} {g : MV → List MV → Sto → Res MV} (pa : PlainAttrs T) (slot : Slot T name id) (hty : typeOf (.builtin id) = pure (.type "method_descriptor")) (hm : MtR X id r) (hs : SndB X.K T r g) (ho : PE X o (tM X.K W ma)) (ha : PA X (e :: es) (tA X.K W ml))
    (hbase : attributeBase o name X.env (eval o X.env) = eval o X.env := by rfl)
    (hfew : ((backTo cpos (starEach (e :: es) X.env)).all (fun x => !x.1) && (backToKw cpos (keywordEach [] X.env)).all (fun x => x.1.isSome)
      && decide ((e :: es).length + ([] : List Keyword).length + (if ([] : List Keyword).isEmpty then 0 else 1) < 30)) = true := by rfl)
    (hline : (apos.endLine == cpos.line) = true := by rfl) (hs2 : starEach (e :: es) X.env = (false, eval e X.env) :: starEach es X.env := by rfl) (hplain : (backTo cpos (starEach es X.env)).any (·.1) = false := by rfl) :
    PE X (.Call (.Attribute o name apos) (e :: es) [] cpos) (tM X.K W (bmM T g ma ml)) :=
  PE.to (pe_bm pa slot hty hm ho ha hbase hfew hline hs2 hplain) fun _ _ _ => tM_bm hs
theorem Fin.put {rho : Nat → Addr} {S : Sto} {H : Hp} {Q : VK} {E : XK} {k : Nat} {o : MO} {x : MV} {v : V} {u : HO} (f : Fin K rV rho S H Q E (.ok x (S.put k o))) (s : Sim K rho S H) (hk : k < S.n) (hm : (S.g k).mut = true)
    (ho : RepO K rho S.n (upd H (rho k) u) (rho k) o) (rx : Rep K rho S.n (upd H (rho k) u) x v) (hmo : o.mut = true := by rfl) : Q v (upd H (rho k) u) := f rho _ _ (s.put hk hm ho) (Le.put s hk hm hmo) rx
def appendV : MV → List MV → Sto → Res MV
  | .ref k, [y], S => match S.g k with
    | .lst xs => if xs.length < sizeLine then .ok .non (S.put k (.lst (xs ++ [y]))) else .bad
    | _ => .bad
  | _, _, _ => .bad
theorem appendV_ok : SndB K "list" rAppend appendV := by
  intro rho S H x vx xs vs Q E s rx rs f
  unfold appendV at f
  split at f
  · rename_i k y
    obtain ⟨hk, ek⟩ := rx
    obtain ⟨v, h1, h2⟩ := rep1 rs
    split at f
    · rename_i ys q
      split at f
      · rename_i hl
        obtain ⟨ws, g1, g2⟩ := lst_at s hk q
        have hm : isMut (H (rho k)) := isMut_some g1 trivial
        exact ⟨_, ws, v, ek, h1, g1, by rw [g2.len]; exact hl, f.put s hk (by rw [q]; rfl) ⟨_, upd_same, (g2.upd hm).app (RepL.one (h2.upd hm))⟩ rfl⟩
      · exact f.elim
    · exact f.elim
  · exact f.elim
def extendV : MV → List MV → Sto → Res MV
  | .ref k, [.ref j], S => match S.g k, S.g j with
    | .lst xs, .lst ys => if xs.length + ys.length ≤ sizeLine then .ok .non (S.put k (.lst (xs ++ ys))) else .bad
    | _, _ => .bad
  | _, _, _ => .bad
theorem extendV_ok : SndB K "list" rExtend extendV := by
  intro rho S H x vx xs vs Q E s rx rs f
  unfold extendV at f
  split at f
  · rename_i k j
    obtain ⟨hk, ek⟩ := rx
    obtain ⟨v, h1, hj, ej⟩ := rep1 rs
    split at f
    · rename_i ys zs q q2
      split at f
      · rename_i hl
        obtain ⟨ws, g1, g2⟩ := lst_at s hk q
        obtain ⟨us, g3, g4⟩ := lst_at s hj q2
        have hm : isMut (H (rho k)) := isMut_some g1 trivial
        exact ⟨_, _, ws, us, ek, by rw [h1, ej], g1, g3, by rw [g2.len, g4.len]; exact hl, f.put s hk (by rw [q]; rfl) ⟨_, upd_same, (g2.upd hm).app (g4.upd hm)⟩ rfl⟩
      · exact f.elim
    · exact f.elim
  · exact f.elim
def popV : MV → List MV → Sto → Res MV
  | .ref k, [], S => match S.g k with
    | .lst xs => match xs[xs.length - 1]? with
      | some y => .ok y (S.put k (.lst xs.dropLast))
      | none => .bad
    | _ => .bad
  | _, _, _ => .bad
theorem popV_ok : SndB K "list" rPop popV := by
  intro rho S H x vx xs vs Q E s rx rs f
  unfold popV at f
  split at f
  · rename_i k
    obtain ⟨hk, ek⟩ := rx
    split at f
    · rename_i ys q
      split at f
      · rename_i y hy
        obtain ⟨ws, g1, g2⟩ := lst_at s hk q
        have hm : isMut (H (rho k)) := isMut_some g1 trivial
        obtain ⟨v, h4, h5⟩ := g2.get hy
        exact ⟨_, ws, v, ek, rs, g1, by rw [g2.len]; exact h4, f.put s hk (by rw [q]; rfl) ⟨_, upd_same, (g2.upd hm).dropLast⟩ (h5.upd hm)⟩
      · exact f.elim
    · exact f.elim
  · exact f.elim
end
end Mm
end

section
/-! ## M, part 5: statements, loops, comprehensions -/
namespace Mm
open PySem L2 PyProof.Rows
inductive SR where
  | nx (e : Sl) (S : Sto) | ret (x : MV) (S : Sto) | brk (e : Sl) (S : Sto) | ct (e : Sl) (S : Sto) | exc (ex : Exc) (e : Sl) (S : Sto) | bad
abbrev SM := Sl → Sto → SR
section
variable {K : PySem.W.Frag} {W : WX}
def FinS (K : PySem.W.Frag) (rho : Nat → Addr) (S : Sto) (H : Hp) (D : Ends) (W : WX) : SR → Prop
  | .nx e' S' => ∀ rho' H' sg', Sim K rho' S' H' → Le K rho S H rho' S' H' → RepE K rho' S'.n H' sg' e' → D.nx sg' H'
  | .ret x S' => ∀ rho' H' v, Sim K rho' S' H' → Le K rho S H rho' S' H' → Rep K rho' S'.n H' x v → D.rt v H'
  | .brk e' S' => ∀ rho' H' sg', Sim K rho' S' H' → Le K rho S H rho' S' H' → RepE K rho' S'.n H' sg' e' → D.bk sg' H'
  | .ct e' S' => ∀ rho' H' sg', Sim K rho' S' H' → Le K rho S H rho' S' H' → RepE K rho' S'.n H' sg' e' → D.ct sg' H'
  | .exc ex e' S' => ∀ rho' H' sg' d, Sim K rho' S' H' → Le K rho S H rho' S' H' → RepE K rho' S'.n H' sg' e' → RepX K rho' S'.n H' d ex → W ex.cls d sg' H'
  | .bad => False
theorem FinS.step {rho rho1 : Nat → Addr} {S S1 : Sto} {H H1 : Hp} {D : Ends} {r : SR} (h : FinS K rho S H D W r) (l : Le K rho S H rho1 S1 H1) : FinS K rho1 S1 H1 D W r := by
  cases r with
  | nx e' S' => exact fun a b c s l' q => h a b c s (l.trans l') q
  | ret x S' => exact fun a b c s l' q => h a b c s (l.trans l') q
  | brk e' S' => exact fun a b c s l' q => h a b c s (l.trans l') q
  | ct e' S' => exact fun a b c s l' q => h a b c s (l.trans l') q
  | exc ex e' S' => exact fun a b c d s l' q => h a b c d s (l.trans l') q
  | bad => exact h
def tS (K : PySem.W.Frag) (W : WX) (m : SM) : TS := fun D sg H => ∃ rho e S, Sim K rho S H ∧ RepE K rho S.n H sg e ∧ FinS K rho S H D W (m e S)
/-- an expression, then what follows -/
def useM {al : Type} (m : EMt al) (k : al → SM) : SM := fun e S => match m e S with
  | .ok x S' => k x e S'
  | .exc ex S' => .exc ex e S'
  | .bad => .bad
theorem tS_use {al be : Type} {rel : RelT al be} {m : EMt al} {k : al → SM} {D : Ends} {sg : L2.St} {H : Hp} (h : tS K W (useM m k) D sg H) :
    tG K rel W m sg H fun v H1 => ∃ rho e S x, Sim K rho S H1 ∧ RepE K rho S.n H1 sg e ∧ rel K rho S.n H1 x v ∧ FinS K rho S H1 D W (k x e S) := by
  obtain ⟨rho, e, S, s, re, f⟩ := h
  refine ⟨rho, e, S, s, re, ?_⟩
  unfold useM at f
  cases q : m e S with
  | ok x S' =>
    rw [q] at f
    exact fun rho' H' v s' l' r' => ⟨rho', e, S', x, s', re.le l', r', f.step l'⟩
  | exc ex S' =>
    rw [q] at f
    exact fun rho' H' d s' l' r' => f rho' H' sg d s' l' (re.le l') r'
  | bad => rw [q] at f; exact f
theorem RepE.set {rho : Nat → Addr} {n : Nat} {H : Hp} {sg : L2.St} {e : Sl} (h : RepE K rho n H sg e) {i : Nat} {x : MV} {v : V} (r : Rep K rho n H x v) : RepE K rho n H (sg.set i (some v)) (e.set i (some x)) := by
  refine ⟨by rw [List.length_set, List.length_set]; exact h.1, fun j y q => ?_⟩
  by_cases hj : i = j
  · subst hj
    by_cases hl : i < e.length
    · rw [List.getElem?_set_self hl] at q
      cases q
      exact ⟨v, by rw [List.getElem?_set_self (by rw [h.1]; exact hl)], r⟩
    · rw [List.getElem?_eq_none (by rw [List.length_set]; omega)] at q
      cases q
  · rw [List.getElem?_set_ne hj] at q ⊢
    exact h.2 j y q
end

/-! ### targets -/
inductive Pt where
  | nm (i : Nat) | tp (ps : List Pt)
mutual
def asg : Pt → MV → Sto → Sl → Option Sl
  | .nm i, x, _, e => some (e.set i (some x))
  | .tp ps, .tup xs, S, e => asgL ps xs S e
  | .tp ps, .ref k, S, e => match seqO (S.g k) with
    | some xs => asgL ps xs S e
    | none => none
  | .tp _, _, _, _ => none
def asgL : List Pt → List MV → Sto → Sl → Option Sl
  | [], [], _, e => some e
  | p :: ps, x :: xs, S, e => match asg p x S e with
    | some e1 => asgL ps xs S e1
    | none => none
  | _, _, _, _ => none
end
mutual
def Pt.ns : Pt → List Nat
  | .nm i => [i]
  | .tp ps => Pt.nsL ps
def Pt.nsL : List Pt → List Nat
  | [] => []
  | p :: ps => p.ns ++ Pt.nsL ps
end
theorem wipe_get (sg : L2.St) : ∀ (vs : List Nat) (i : Nat), (wipe sg vs)[i]? = if i < sg.length then (if i ∈ vs then some none else sg[i]?) else none
  | [], i => by
    by_cases h : i < sg.length
    · simp [wipe, h]
    · simp [wipe, h]
  | v :: vs, i => by
    show ((wipe sg vs).set v none)[i]? = _
    have hl := wipe_length sg vs
    by_cases hi : i < sg.length
    · rw [if_pos hi]
      by_cases hv : v = i
      · subst hv
        rw [List.getElem?_set_self (by omega), if_pos (by simp)]
      · rw [List.getElem?_set_ne hv, wipe_get sg vs i, if_pos hi]
        by_cases hm : i ∈ vs
        · rw [if_pos hm, if_pos (by simp [hm])]
        · rw [if_neg hm, if_neg (by simp [hm]; omega)]
    · rw [if_neg hi]
      exact List.getElem?_eq_none (by rw [List.length_set]; omega)
theorem wipe_set {sg : L2.St} {vs : List Nat} {j : Nat} {y : Option V} (h : j ∈ vs) : wipe (sg.set j y) vs = wipe sg vs := by
  apply List.ext_getElem?
  intro i
  rw [wipe_get, wipe_get, List.length_set]
  by_cases hi : i < sg.length
  · rw [if_pos hi, if_pos hi]
    by_cases hm : i ∈ vs
    · rw [if_pos hm, if_pos hm]
    · rw [if_neg hm, if_neg hm, List.getElem?_set_ne (by intro e; subst e; exact hm h)]
  · rw [if_neg hi, if_neg hi]
def wipeE (e : Sl) : List Nat → Sl
  | [] => e
  | v :: vs => (wipeE e vs).set v none
section
variable {K : PySem.W.Frag} {W : WX}
theorem RepE.wipe {rho : Nat → Addr} {n : Nat} {H : Hp} {sg : L2.St} {e : Sl} (h : RepE K rho n H sg e) : ∀ vs : List Nat, RepE K rho n H (wipe sg vs) (wipeE e vs)
  | [] => h
  | v :: vs => by
    have ih := RepE.wipe h vs
    refine ⟨by show ((L2.wipe sg vs).set v none).length = ((wipeE e vs).set v none).length; rw [List.length_set, List.length_set]; exact ih.1, fun j y q => ?_⟩
    have q' : ((wipeE e vs).set v none)[j]? = some (some y) := q
    show ∃ u, ((L2.wipe sg vs).set v none)[j]? = some (some u) ∧ _
    by_cases hj : v = j
    · subst hj
      by_cases hl : v < (wipeE e vs).length
      · rw [List.getElem?_set_self hl] at q'; cases q'
      · rw [List.getElem?_eq_none (by rw [List.length_set]; omega)] at q'; cases q'
    · rw [List.getElem?_set_ne hj] at q' ⊢
      exact ih.2 j y q'
/-- a target's reading -/
def tT (K : PySem.W.Frag) (p : Pt) : TG := fun v sg H Q => ∃ rho e S x, Sim K rho S H ∧ RepE K rho S.n H sg e ∧ Rep K rho S.n H x v ∧ match asg p x S e with
  | some e' => ∀ sg', RepE K rho S.n H sg' e' → (∀ vs, (∀ j ∈ p.ns, j ∈ vs) → wipe sg' vs = wipe sg vs) → Q sg' H
  | none => False
def tTs (K : PySem.W.Frag) (ps : List Pt) : TGs := fun vs sg H Q => ∃ rho e S xs, Sim K rho S H ∧ RepE K rho S.n H sg e ∧ RepL K rho S.n H xs vs ∧ match asgL ps xs S e with
  | some e' => ∀ sg', RepE K rho S.n H sg' e' → (∀ vs, (∀ j ∈ Pt.nsL ps, j ∈ vs) → wipe sg' vs = wipe sg vs) → Q sg' H
  | none => False
variable {X : Cx} {pos : Pos}
theorem PG.to {e : Expr} {t t' : TG} (h : PG X e t) (i : ∀ v sg H Q, t' v sg H Q → t v sg H Q) : PG X e t' := ⟨fun pins s sg H v u Q I r q => h.run pins s sg H v u Q I r (i _ _ _ _ q)⟩
theorem PGs.to {e : List Expr} {t t' : TGs} (h : PGs X e t) (i : ∀ v sg H Q, t' v sg H Q → t v sg H Q) : PGs X e t' := ⟨fun pins s sg H v u Q I r q => h.run pins s sg H v u Q I r (i _ _ _ _ q)⟩
theorem mg_name {i : Nat} {x : Str} (hN : X.N.Nodup) (hi : X.N[i]? = some x := by rfl) (hx : Loc X.env.scope x := by first | exact Or.inl rfl | exact Or.inr rfl) (hf : X.fn x = true ∨ X.env.scope.names.lookup x = some .local := by first | exact .inl rfl | exact .inr rfl | assumption) : PG X (.Name x pos) (tT X.K (.nm i)) :=
  PG.to (pg_name hN hi hx hf) fun v sg H Q ⟨rho, e, S, y, s, re, r, f⟩ => f _ (re.set r) fun vs hv => wipe_set (hv i (by simp [Pt.ns]))
theorem mg_nil : PGs X [] (tTs X.K []) := PGs.to pgs_nil fun v sg H Q ⟨rho, e, S, ys, s, re, r, f⟩ => by
  cases ys with
  | nil => exact ⟨r, f _ re fun _ _ => rfl⟩
  | cons => exact f.elim
theorem mg_cons {e : Expr} {es : List Expr} {p : Pt} {ps : List Pt} (h1 : PG X e (tT X.K p)) (h2 : PGs X es (tTs X.K ps)) (hs : (assignEach (e :: es) X.env).map (·.2) = assign e X.env :: (assignEach es X.env).map (·.2) := by rfl) : PGs X (e :: es) (tTs X.K (p :: ps)) :=
  PGs.to (pgs_cons h1 h2 hs) fun v sg H Q ⟨rho, e, S, ys, s, re, r, f⟩ => by
    cases ys with
    | nil => exact f.elim
    | cons y ys =>
      obtain ⟨w, r', e1, e2, e3⟩ := r
      refine ⟨w, r', e1, rho, e, S, y, s, re, e2, ?_⟩
      simp only [asgL] at f
      cases q : asg p y S e with
      | none => rw [q] at f; exact f.elim
      | some e' =>
        rw [q] at f
        simp only at f ⊢
        intro sg' re' hw
        refine ⟨rho, e', S, ys, s, re', e3, ?_⟩
        cases q2 : asgL ps ys S e' with
        | none => rw [q2] at f; exact f.elim
        | some e2 =>
          rw [q2] at f
          simp only at f ⊢
          intro sg2 re2 hw2
          refine f sg2 re2 fun vs hv => ?_
          rw [hw2 vs fun j hj => hv j (by simp [Pt.nsL, hj]), hw vs fun j hj => hv j (by simp [Pt.nsL, hj])]
theorem asgL_len {S : Sto} : ∀ {ps : List Pt} {xs : List MV} {e e' : Sl}, asgL ps xs S e = some e' → xs.length = ps.length
  | [], [], _, _, _ => rfl
  | [], _ :: _, _, _, h => by simp [asgL] at h
  | _ :: _, [], _, _, h => by simp [asgL] at h
  | p :: ps, x :: xs, e, e', h => by
    simp only [asgL] at h
    split at h
    · rw [List.length_cons, List.length_cons, asgL_len h]
    · cases h
theorem PG.or {e : Expr} {t1 t2 : TG} (h1 : PG X e t1) (h2 : PG X e t2) : PG X e (fun v sg H Q => t1 v sg H Q ∨ t2 v sg H Q) := ⟨fun pins s sg H v u Q I r q => by
  rcases q with q | q
  · exact h1.run pins s sg H v u Q I r q
  · exact h2.run pins s sg H v u Q I r q⟩
/-- a tuple of that length, or a list -/
theorem mg_tup {es : List Expr} {k : Nat} {ps : List Pt} (hc : X.calm = true) (h : PGs X es (tTs X.K ps))
    (hn : (assignEach es X.env).length = ps.length := by rfl) (hst : (assignEach es X.env).findIdx? (·.1) = none := by rfl) : PG X (.Tuple es k pos) (tT X.K (.tp ps)) :=
  PG.to (PG.or (pg_tup hc h hn hst) (pg_unl hc h hn hst)) fun v sg H Q ⟨rho, e, S, y, s, re, r, f⟩ => by
    cases y with
    | tup xs =>
      obtain ⟨a, vs, e1, e2, e3⟩ := r
      simp only [asg] at f
      cases q : asgL ps xs S e with
      | none => rw [q] at f; exact f.elim
      | some e' =>
        rw [q] at f
        exact .inl ⟨a, vs, e1, e2, by rw [e3.len, asgL_len q], rho, e, S, xs, s, re, e3, by rw [q]; exact f⟩
    | ref k =>
      obtain ⟨hk, rfl⟩ := r
      simp only [asg] at f
      cases q0 : seqO (S.g k) with
      | none => rw [q0] at f; exact f.elim
      | some xs =>
        rw [q0] at f
        obtain ⟨vs, g1, g2⟩ := seqO_at s hk q0
        simp only at f
        cases q : asgL ps xs S e with
        | none => rw [q] at f; exact f.elim
        | some e' =>
          rw [q] at f
          exact .inr ⟨_, vs, rfl, g1, by rw [g2.len, asgL_len q], rho, e, S, xs, s, re, g2, by rw [q]; exact f⟩
    | _ => exact f.elim

/-! ### statements -/
variable {st : Stmt} {rest : List Stmt} {a b : SM} {m : EM} {e c o i : Expr} {bm : EMt Bool}
theorem PS.to {t t' : TS} (h : PS X st t) (i : ∀ D sg H, t' D sg H → t D sg H) : PS X st t' := ⟨fun pins s sg H D I q => h.run pins s sg H D I (i _ _ _ q)⟩
theorem PSs.to {t t' : TS} (h : PSs X rest t) (i : ∀ D sg H, t' D sg H → t D sg H) : PSs X rest t' := ⟨fun pins s sg H D I q => h.run pins s sg H D I (i _ _ _ q)⟩
def seqM (a b : SM) : SM := fun e S => match a e S with
  | .nx e' S' => b e' S'
  | r => r
def nextM : SM := fun e S => .nx e S
theorem ms_nil : PSs X [] (tS X.K W nextM) := PSs.to pss_nil fun D sg H ⟨rho, e, S, s, re, f⟩ => f rho H sg s Le.refl re
theorem ms_one (h : PS X st (tS X.K W a)) : PSs X [st] (tS X.K W a) := pss_one h
theorem ms_cons (h1 : PS X st (tS X.K W a)) (h2 : PSs X rest (tS X.K W b)) : PSs X (st :: rest) (tS X.K W (seqM a b)) :=
  PSs.to (pss_cons h1 h2) fun D sg H ⟨rho, e, S, s, re, f⟩ => by
    refine ⟨rho, e, S, s, re, ?_⟩
    unfold seqM at f
    cases q : a e S with
    | nx e' S' => rw [q] at f; exact fun rho' H' sg' s' l' re' => ⟨rho', e', S', s', re', f.step l'⟩
    | ret x S' => rw [q] at f; exact f
    | brk e' S' => rw [q] at f; exact f
    | ct e' S' => rw [q] at f; exact f
    | exc ex e' S' => rw [q] at f; exact f
    | bad => rw [q] at f; exact f
def brkM : SM := fun e S => .brk e S
def ctM : SM := fun e S => .ct e S
def badM : SM := fun _ _ => .bad
theorem ms_pass : PS X (.Pass pos) (tS X.K W nextM) := PS.to ps_pass fun D sg H ⟨rho, e, S, s, re, f⟩ => f rho H sg s Le.refl re
theorem ms_break : PS X (.Break pos) (tS X.K W brkM) := PS.to ps_break fun D sg H ⟨rho, e, S, s, re, f⟩ => f rho H sg s Le.refl re
theorem ms_continue : PS X (.Continue pos) (tS X.K W ctM) := PS.to ps_continue fun D sg H ⟨rho, e, S, s, re, f⟩ => f rho H sg s Le.refl re
theorem ms_doc {x j pos pos'} : PS X (.Expr (.Constant (.str x) j pos) pos') (tS X.K W nextM) := PS.to ps_doc fun D sg H ⟨rho, e, S, s, re, f⟩ => f rho H sg s Le.refl re
/-- what is never come to -/
theorem ms_never : PS X st (tS X.K W badM) := PS.to ps_never fun D sg H ⟨rho, e, S, s, re, f⟩ => f
theorem mss_never : PSs X rest (tS X.K W badM) := PSs.to pss_never fun D sg H ⟨rho, e, S, s, re, f⟩ => f
def asgM (p : Pt) (m : EM) : SM := useM m fun x => fun e S => match asg p x S e with
  | some e' => .nx e' S
  | none => .bad
theorem FinS.asg {rho : Nat → Addr} {S : Sto} {H : Hp} {D : Ends} {p : Pt} {x : MV} {e : Sl} (f : FinS K rho S H D W (match asg p x S e with | some e' => .nx e' S | none => .bad)) (s : Sim K rho S H) : ∃ e', Mm.asg p x S e = some e' ∧ ∀ sg', RepE K rho S.n H sg' e' → D.nx sg' H := by
  cases q : Mm.asg p x S e with
  | none => rw [q] at f; exact f.elim
  | some e' => rw [q] at f; exact ⟨e', rfl, fun sg' re' => f rho H sg' s Le.refl re'⟩
/-- name = e -/
theorem ms_set {i : Nat} {x : Str} {pos' : Pos} (hN : X.N.Nodup) (he : PE X e (tM X.K W m)) (hi : X.N[i]? = some x := by rfl) (hx : Loc X.env.scope x := by first | exact Or.inl rfl | exact Or.inr rfl) (hs : swapsWith e (some (.Name x pos')) pos.line X.env = pure false := by rfl) (hf : X.fn x = true ∨ X.env.scope.names.lookup x = some .local := by first | exact .inl rfl | exact .inr rfl | assumption) :
    PS X (.Assign [.Name x pos'] e pos) (tS X.K W (asgM (.nm i) m)) :=
  PS.to (ps_set hN hi hx he hs hf) fun D sg H h => (tS_use (rel := rV) h).imp fun v H1 ⟨rho, e, S, y, s, re, r, f⟩ => f rho H1 _ s Le.refl (re.set r)
/-- target = e -/
theorem ms_asg {tg : Expr} {p : Pt} (he : PE X e (tM X.K W m)) (hg : PG X tg (tT X.K p)) (hs : swapsWithSole [tg] e pos.line X.env = pure false := by rfl) (hw : swappedStores [tg] e X.env = pure none := by rfl)
    (h1 : (assignEach [tg] X.env).map (·.2) = [assign tg X.env] := by rfl) : PS X (.Assign [tg] e pos) (tS X.K W (asgM p m)) :=
  PS.to (ps_asg he hg hs hw h1) fun D sg H h => (tS_use (rel := rV) h).imp fun v H1 ⟨rho, e, S, y, s, re, r, f⟩ => by
    obtain ⟨e', q, k⟩ := FinS.asg f s
    refine ⟨rho, e, S, y, s, re, r, ?_⟩
    rw [q]
    exact fun sg' re' _ => k sg' re'
/-- a, b = x, y -/
def parM (i j : Nat) (ml : EMt (List MV)) : SM := useM ml fun xs => fun e S => match xs with
  | [x, y] => .nx ((e.set i (some x)).set j (some y)) S
  | _ => .bad
theorem ms_par {i j : Nat} {x y : Str} {a b : Expr} {ml : EMt (List MV)} {px py pt : Pos} {kt k2 pt2} (hc : X.calm = true) (hN : X.N.Nodup) (hij : i ≠ j) (ha : PA X [a, b] (tA X.K W ml))
    (hw : swappedStores [.Tuple [.Name x px, .Name y py] kt pt] (.Tuple [a, b] k2 pt2) X.env = pure (some [x, y])) (hi : X.N[i]? = some x := by rfl) (hj : X.N[j]? = some y := by rfl)
    (hx : X.env.scope.names.lookup x = some .local := by rfl) (hy : X.env.scope.names.lookup y = some .local := by rfl)
    (hs : swapsWithSole [.Tuple [.Name x px, .Name y py] kt pt] (.Tuple [a, b] k2 pt2) pos.line X.env = pure false := by rfl) :
    PS X (.Assign [.Tuple [.Name x px, .Name y py] kt pt] (.Tuple [a, b] k2 pt2) pos) (tS X.K W (parM i j ml)) :=
  PS.to (ps_par hc hN hi hj hij hx hy ha hw hs) fun D sg H h => (tS_use (rel := rL) h).imp fun vs H1 ⟨rho, e, S, ys, s, re, r, f⟩ => by
    split at f
    · obtain ⟨v, w, e1, r1, r2⟩ := rep2 r
      exact ⟨v, w, e1, f rho H1 _ s Le.refl ((re.set r1).set r2)⟩
    · exact f.elim
def dropM' (m : EM) : SM := useM m fun _ => nextM
theorem ms_expr (he : PE X e (tM X.K W m)) (hs : swapsWith e none pos.line X.env = pure false := by rfl) : PS X (.Expr e pos) (tS X.K W (dropM' m)) :=
  PS.to (ps_expr he hs) fun D sg H h => (tS_use (rel := rV) h).imp fun v H1 ⟨rho, e, S, y, s, re, r, f⟩ => f rho H1 _ s Le.refl re
def retM (m : EM) : SM := useM m fun x => fun _ S => .ret x S
theorem ms_ret (he : PE X e (tM X.K W m)) : PS X (.Return (some e) pos) (tS X.K W (retM m)) :=
  PS.to (ps_ret he) fun D sg H h => (tS_use (rel := rV) h).imp fun v H1 ⟨rho, e, S, y, s, re, r, f⟩ => f rho H1 _ s Le.refl r
def retNM : SM := fun _ S => .ret .non S
theorem ms_retN : PS X (.Return none pos) (tS X.K W retNM) := PS.to ps_retN fun D sg H ⟨rho, e, S, s, re, f⟩ => f rho H .non s Le.refl rfl
def ifM (t : EMt Bool) (a b : SM) : SM := useM t fun k => if k = true then a else b
theorem ms_if {p q : List Stmt} (hc : PT X c (tB X.K W bm)) (ha : PSs X p (tS X.K W a)) (hb : PSs X q (tS X.K W b)) : PS X (.If c p q pos) (tS X.K W (ifM bm a b)) :=
  PS.to (ps_if hc ha hb) fun D sg H h => (tS_use (rel := rE Bool) h).imp fun k H1 ⟨rho, e, S, y, s, re, r, f⟩ => by
    cases r
    cases k with
    | true => rw [if_pos rfl] at f ⊢; exact ⟨rho, e, S, s, re, f⟩
    | false => rw [if_neg (by decide)] at f ⊢; exact ⟨rho, e, S, s, re, f⟩
/-- name op= e -/
def augM (i : Nat) (g : MV → MV → Sto → Res MV) (m : EM) : SM := useM (varM i) fun x => useM m fun y => useM (fun _ S => g x y S) fun z => fun e S => .nx (e.set i (some z)) S
theorem ms_aug {i : Nat} {x : Str} {op : Operator} {r : R2} {g : MV → MV → Sto → Res MV} {pos' : Pos} (ho : OpR X (inplaceOp op) r) (hs : Snd2 X.K r g) (hN : X.N.Nodup) (he : PE X e (tM X.K W m)) (hi : X.N[i]? = some x := by rfl) (hx : Loc X.env.scope x := by first | exact Or.inl rfl | exact Or.inr rfl) (hf : X.fn x = true ∨ X.env.scope.names.lookup x = some .local := by first | exact .inl rfl | exact .inr rfl | assumption) :
    PS X (.AugAssign (.Name x pos') op e pos) (tS X.K W (augM i g m)) := by
  refine PS.to (ps_aug (ti := r) hN hi hx he (fun pins s sg H x y v u Q I r1 r2 h => ho pins s sg H x y v u Q I r1 r2 h) hf) fun D sg H ⟨rho, e, S, s, re, f⟩ => ?_
  simp only [augM, useM, varM] at f
  split at f
  · rename_i x' S' q
    split at q
    · rename_i y q2
      cases q
      obtain ⟨v, h1, h2⟩ := re.2 _ _ q2
      refine ⟨v, h1, rho, e, S, s, re, ?_⟩
      cases q3 : m e S with
      | ok z S' =>
        rw [q3] at f
        intro rho' H' w s' l' rw'
        have f' := f.step l'
        simp only at f'
        refine hs rho' S' H' _ _ _ _ _ (fun c d H'' => W c d sg H'') s' (h2.le l') rw' ?_
        cases q4 : g x' z S' with
        | ok z2 S2 => rw [q4] at f'; exact fun rho2 H2 v2 s2 l2 r2 => f' rho2 H2 _ s2 l2 (((re.le l').le l2).set r2)
        | exc ex S2 => rw [q4] at f'; exact fun rho2 H2 d s2 l2 r2 => f' rho2 H2 sg d s2 l2 ((re.le l').le l2) r2
        | bad => rw [q4] at f'; exact f'
      | exc ex S' => rw [q3] at f; exact fun rho' H' d s' l' r' => f rho' H' sg d s' l' (re.le l') r'
      | bad => rw [q3] at f; exact f
    · cases q
  · rename_i x' S' q
    split at q <;> cases q
  · exact f.elim
/-- o[i] = v -/
def SndS (K : PySem.W.Frag) (t : TSet) (g : MV → MV → MV → Sto → Option Sto) : Prop := ∀ rho S H o i v vo vi vv Q S', Sim K rho S H → Rep K rho S.n H o vo → Rep K rho S.n H i vi → Rep K rho S.n H v vv → g o i v S = some S' → (∀ H', Sim K rho S' H' → Le K rho S H rho S' H' → Q H') → t vo vi vv H Q
def setM (g : MV → MV → MV → Sto → Option Sto) (mo mi mv : EM) : SM := useM mv fun v => useM mo fun o => useM mi fun i => fun e S => match g o i v S with
  | some S' => .nx e S'
  | none => .bad
theorem ms_setItem {t : TSet} {g : MV → MV → MV → Sto → Option Sto} {mo mi mv : EM} {pos' : Pos} (hst : PSet X t) (hg : SndS X.K t g) (ho : PE X o (tM X.K W mo)) (hi : PE X i (tM X.K W mi)) (he : PE X e (tM X.K W mv))
    (ha : ∀ v, assign (.Subscript o i pos') X.env v = (do
      let ov ← holding [v] (eval o X.env)
      let iv ← holding [v, ov] (eval i X.env)
      standAt pos'
      holding [v, ov, iv] (setItem ov iv v)
      release [v, ov, iv] []) := by intro _; rfl) (hs : swapsWithSole [.Subscript o i pos'] e pos.line X.env = pure false := by rfl) (hw : swappedStores [.Subscript o i pos'] e X.env = pure none := by rfl)
    (h1 : (assignEach [.Subscript o i pos'] X.env).map (·.2) = [assign (.Subscript o i pos') X.env] := by rfl) : PS X (.Assign [.Subscript o i pos'] e pos) (tS X.K W (setM g mo mi mv)) :=
  PS.to (ps_asg he (pg_sub ho hi hst ha) hs hw h1) fun D sg H h => (tS_use (rel := rV) h).imp fun vv H1 ⟨rho, e, S, y, s, re, r, f⟩ => by
    have f1 : tS X.K W (useM mo fun o => useM mi fun i => fun e S => match g o i y S with | some S' => .nx e S' | none => .bad) D sg H1 := ⟨rho, e, S, s, re, f⟩
    refine ⟨rho, e, S, s, re, ?_⟩
    unfold useM at f
    cases q : mo e S with
    | exc ex S' => rw [q] at f; exact fun rho' H' d s' l' r' => f rho' H' sg d s' l' (re.le l') r'
    | bad => rw [q] at f; exact f
    | ok o' S' =>
      rw [q] at f
      intro rho' H' vo s' l' ro
      have f' := f.step l'
      refine ⟨rho', e, S', s', re.le l', ?_⟩
      simp only at f'
      cases q2 : mi e S' with
      | exc ex S' => rw [q2] at f'; exact fun rho2 H2 d s2 l2 r2 => f' rho2 H2 sg d s2 l2 ((re.le l').le l2) r2
      | bad => rw [q2] at f'; exact f'
      | ok i' S2 =>
        rw [q2] at f'
        intro rho2 H2 vi s2 l2 ri
        have f2 := f'.step l2
        simp only at f2
        split at f2
        · rename_i S3 q3
          exact hg rho2 S2 H2 _ _ _ _ _ _ _ S3 s2 (ro.le l2) ri ((r.le l').le l2) q3 fun H3 s3 l3 => f2 rho2 H3 sg s3 l3 (((re.le l').le l2).le l3)
        · exact f2.elim
def setV (o i v : MV) (S : Sto) : Option Sto := match o with
  | .ref k => match S.g k with
    | .lst xs => (match i with
      | .int j => (ixN xs.length j).map fun j => S.put k (.lst (xs.set j v))
      | _ => none)
    | .dK kvs => (match toK i with
      | some key => if kvs.length < sizeLine then some (S.put k (.dK (putM kvs key v))) else none
      | none => none)
    | _ => none
  | _ => none
def rDSet : TSet := fun o i v H Q => ∃ a H', o = .ref a ∧ DPut H a i v H' ∧ Q H'
theorem set_dict (hu : X.A.units + 1 < cLine) : PSet X rDSet := by
  intro pins s sg H o i v ov iv u Q I ro ri rv h
  obtain ⟨a, H', rfl, g, q⟩ := h
  cases ro
  exact d_setItem hu I g ri rv fun s' I' => ⟨H', I', q⟩
theorem PSet.or {t t' : TSet} (h : PSet X t) (h' : PSet X t') : PSet X (fun o i v H Q => t o i v H Q ∨ t' o i v H Q) := fun pins s sg H o i v ov iv u Q I ro ri rv hq => by
  rcases hq with hq | hq
  · exact h pins s sg H o i v ov iv u Q I ro ri rv hq
  · exact h' pins s sg H o i v ov iv u Q I ro ri rv hq
def rSetV : TSet := fun o i v H Q => rSetL o i v H Q ∨ rDSet o i v H Q
theorem setV_set (hu : X.A.units + 1 < cLine) : PSet X rSetV := PSet.or set_list (set_dict hu)
theorem setV_ok : SndS K rSetV setV := by
  intro rho S H o i v vo vi vv Q S' s ro ri rv e k
  unfold setV at e
  split at e
  · rename_i n
    obtain ⟨hk, ek⟩ := ro
    split at e
    · rename_i xs q
      split at e
      · rename_i j
        cases q2 : ixN xs.length j with
        | none => rw [q2] at e; cases e
        | some j' =>
          rw [q2] at e
          cases e
          obtain ⟨ws, g1, g2⟩ := lst_at s hk q
          have hm : isMut (H (rho n)) := isMut_some g1 trivial
          have hmt : (S.g n).mut = true := by rw [q]; rfl
          exact .inl ⟨_, ws, j, j', ek, ri, g1, by rw [g2.len]; exact q2, k _ (s.put hk hmt ⟨_, upd_same, RepL.set _ (g2.upd hm) (rv.upd hm)⟩) (Le.put s hk hmt rfl)⟩
      · cases e
    · rename_i kvs q
      split at e
      · rename_i key hkey
        split at e
        · rename_i hl
          cases e
          obtain ⟨ws, g1, g2⟩ := dK_at s hk q
          have hm : isMut (H (rho n)) := isMut_some g1 trivial
          have hmt : (S.g n).mut = true := by rw [q]; rfl
          exact .inr ⟨_, _, ek, .inl ⟨ws, key, g1, toK_rep ri hkey, by rw [g2.len]; exact hl, rfl⟩, k _ (s.put hk hmt ⟨_, upd_same, RepP.put (rv.upd hm) (g2.upd hm)⟩) (Le.put s hk hmt rfl)⟩
        · cases e
      · cases e
    · cases e
  · cases e
theorem ms_put {mo mi mv : EM} {pos' : Pos} (hu : X.A.units + 1 < cLine) (ho : PE X o (tM X.K W mo)) (hi : PE X i (tM X.K W mi)) (he : PE X e (tM X.K W mv))
    (ha : ∀ v, assign (.Subscript o i pos') X.env v = (do
      let ov ← holding [v] (eval o X.env)
      let iv ← holding [v, ov] (eval i X.env)
      standAt pos'
      holding [v, ov, iv] (setItem ov iv v)
      release [v, ov, iv] []) := by intro _; rfl) (hs : swapsWithSole [.Subscript o i pos'] e pos.line X.env = pure false := by rfl) (hw : swappedStores [.Subscript o i pos'] e X.env = pure none := by rfl)
    (h1 : (assignEach [.Subscript o i pos'] X.env).map (·.2) = [assign (.Subscript o i pos') X.env] := by rfl) : PS X (.Assign [.Subscript o i pos'] e pos) (tS X.K W (setM setV mo mi mv)) :=
  ms_setItem (setV_set hu) setV_ok ho hi he ha hs hw h1
end
end Mm
end

section
/-! ## M, part 6: what is walked; for, while, comprehensions -/
namespace Mm
open PySem L2 PyProof.Rows
/-- what is walked: its items, and the lists that must stay as they are -/
structure Itm where
  xs : List MV
  ck : List (Nat × List MV)
def ckOk (ck : List (Nat × List MV)) (S : Sto) : Prop := ∀ c ∈ ck, seqO (S.g c.1) = some c.2
@[simp] theorem ckOk_nil (S : Sto) : ckOk [] S = True := by simp [ckOk]
@[simp] theorem ckOk_cons (c : Nat × List MV) (ck) (S : Sto) : ckOk (c :: ck) S = (seqO (S.g c.1) = some c.2 ∧ ckOk ck S) := by simp [ckOk]
section
variable {K : PySem.W.Frag} {W : WX}
/-- the iterator J walks over these items -/
def rI : RelT Itm It := fun K rho n _ itm J => ∀ rho' S' H', n ≤ S'.n → (∀ i, i < n → rho' i = rho i) → Sim K rho' S' H' → ckOk itm.ck S' →
  J.stop itm.xs.length H' ∧ ∀ (i : Nat) (x : MV), itm.xs[i]? = some x → J.go i H' ∧ ∀ v H2, J.yld i H' v H2 → Sim K rho' S' H2 ∧ Le K rho' S' H' rho' S' H2 ∧ Rep K rho' S'.n H2 x v
/-- the same, where the items' values must still stand -/
def rJ : RelT Itm It := fun K rho n H itm J => ∀ rho' S' H', n ≤ S'.n → (∀ i, i < n → rho' i = rho i) → (∀ a vs, SqT K H a vs → SqT K H' a vs) → Sim K rho' S' H' → ckOk itm.ck S' →
  J.stop itm.xs.length H' ∧ ∀ (i : Nat) (x : MV), itm.xs[i]? = some x → J.go i H' ∧ ∀ v H2, J.yld i H' v H2 → Sim K rho' S' H2 ∧ Le K rho' S' H' rho' S' H2 ∧ Rep K rho' S'.n H2 x v
instance : RelM rJ := ⟨fun h1 h2 h3 h rho2 S2 H2 g1 g2 g3 s c => h rho2 S2 H2 (Nat.le_trans h1 g1) (fun i hi => by rw [g2 i (Nat.lt_of_lt_of_le hi h1), h2 i hi]) (fun a vs q => g3 a vs (h3 a vs q)) s c⟩
abbrev tI (K : PySem.W.Frag) (W : WX) (m : EMt Itm) : TI := fun sg H R => tG K rJ W m sg H R
theorem rJ_le {rho rho' : Nat → Addr} {S S' : Sto} {H H' : Hp} {itm : Itm} {J : It} (h : rJ K rho S.n H itm J) (l : Le K rho S H rho' S' H') : rJ K rho' S'.n H' itm J := RelM.mono (rel := rJ) l.n l.r l.tup h
open Classical in
noncomputable def loopM (ck : List (Nat × List MV)) (p : Pt) (body : SM) : List MV → SM
  | [] => fun e S => if ckOk ck S then .nx e S else .bad
  | x :: r => fun e S => if ckOk ck S then (match asg p x S e with
    | none => .bad
    | some e1 => match body e1 S with
      | .nx e' S' => loopM ck p body r e' S'
      | .ct e' S' => loopM ck p body r e' S'
      | .brk e' S' => .nx e' S'
      | .ret y S' => .ret y S'
      | .exc ex e' S' => .exc ex e' S'
      | .bad => .bad) else .bad
noncomputable def forM (mi : EMt Itm) (p : Pt) (body : SM) : SM := useM mi fun itm => loopM itm.ck p body itm.xs
theorem rJ_self {rho : Nat → Addr} {S : Sto} {H : Hp} {itm : Itm} {J : It} (h : rJ K rho S.n H itm J) (s : Sim K rho S H) (c : ckOk itm.ck S) :
    J.stop itm.xs.length H ∧ ∀ (i : Nat) (x : MV), itm.xs[i]? = some x → J.go i H ∧ ∀ v H2, J.yld i H v H2 → Sim K rho S H2 ∧ Le K rho S H rho S H2 ∧ Rep K rho S.n H2 x v :=
  h rho S H (Nat.le_refl _) (fun _ _ => rfl) (fun _ _ q => q) s c
theorem drop_cons' {al : Type} {xs : List al} {i : Nat} (h : i < xs.length) : xs.drop i = xs[i] :: xs.drop (i + 1) := List.drop_eq_getElem_cons h
theorem loop_ok {itm : Itm} {J : It} {p : Pt} {body : SM} {D : Ends} {rho : Nat → Addr} {e : Sl} {S : Sto} {sg : L2.St} {H : Hp} (s : Sim K rho S H) (re : RepE K rho S.n H sg e) (r : rJ K rho S.n H itm J)
    (f : FinS K rho S H D W (loopM itm.ck p body itm.xs e S)) : ∃ Wv : Nat → Nat → L2.St → Hp → Prop, (∃ m, Wv 0 m sg H) ∧ ∀ i m sg H, Wv i m sg H →
      (J.stop i H ∧ D.nx sg H) ∨ (J.go i H ∧ ∃ N : L2.St → Hp → Prop, (∀ sg' H', N sg' H' → ∃ m', m' < m ∧ Wv (i + 1) m' sg' H') ∧ ∀ x H', J.yld i H x H' → tT K p x sg H' fun sg2 H2 => tS K W body { D with nx := N, ct := N, bk := D.nx } sg2 H2) := by
  refine ⟨fun i m sg H => m = itm.xs.length - i ∧ i ≤ itm.xs.length ∧ ∃ rho e S, Sim K rho S H ∧ RepE K rho S.n H sg e ∧ rJ K rho S.n H itm J ∧ FinS K rho S H D W (loopM itm.ck p body (itm.xs.drop i) e S), ⟨_, rfl, Nat.zero_le _, rho, e, S, s, re, r, f⟩, ?_⟩
  rintro i m sg H ⟨rfl, hi, rho, e, S, s, re, r, f⟩
  by_cases hl : i < itm.xs.length
  · rw [drop_cons' hl] at f
    simp only [loopM] at f
    split at f
    · rename_i hc
      obtain ⟨_, h2⟩ := rJ_self r s hc
      obtain ⟨h3, h4⟩ := h2 i _ (List.getElem?_eq_getElem hl)
      refine .inr ⟨h3, fun sg' H' => i + 1 ≤ itm.xs.length ∧ ∃ rho e S, Sim K rho S H' ∧ RepE K rho S.n H' sg' e ∧ rJ K rho S.n H' itm J ∧ FinS K rho S H' D W (loopM itm.ck p body (itm.xs.drop (i + 1)) e S), fun sg' H' ⟨q1, q2⟩ => ⟨itm.xs.length - (i + 1), by omega, rfl, q1, q2⟩, fun v H2 y => ?_⟩
      obtain ⟨s2, l2, r2⟩ := h4 v H2 y
      refine ⟨rho, e, S, _, s2, re.le l2, r2, ?_⟩
      cases q : asg p itm.xs[i] S e with
      | none => rw [q] at f; exact f.elim
      | some e1 =>
        rw [q] at f
        simp only at f ⊢
        intro sg' re' _
        refine ⟨rho, e1, S, s2, re', ?_⟩
        have f2 := f.step l2
        have r3 := rJ_le r l2
        cases q2 : body e1 S with
        | nx e' S' => rw [q2] at f2; exact fun rho' H' sg2 s' l' re2 => ⟨hl, rho', e', S', s', re2, rJ_le r3 l', f2.step l'⟩
        | ct e' S' => rw [q2] at f2; exact fun rho' H' sg2 s' l' re2 => ⟨hl, rho', e', S', s', re2, rJ_le r3 l', f2.step l'⟩
        | brk e' S' => rw [q2] at f2; exact f2
        | ret y S' => rw [q2] at f2; exact f2
        | exc ex e' S' => rw [q2] at f2; exact f2
        | bad => rw [q2] at f2; exact f2
    · exact f.elim
  · have e1 : i = itm.xs.length := by omega
    subst e1
    rw [List.drop_length] at f
    simp only [loopM] at f
    split at f
    · rename_i hc
      exact .inl ⟨(rJ_self r s hc).1, f rho H sg s Le.refl re⟩
    · exact f.elim
variable {X : Cx} {pos : Pos} {tg iter : Expr}
theorem PI.to {t t' : TI} (h : PI X tg iter t) (i : ∀ sg H R, t' sg H R → t sg H R) : PI X tg iter t' := ⟨fun pins s sg H R I q => h.run pins s sg H R I (i _ _ _ q)⟩
theorem ms_for {body : List Stmt} {mi : EMt Itm} {p : Pt} {b : SM} (hp : PassesOwn (model X.prog X.w) X.A X.env X.xe) (hc : X.calm = true) (hi : PI X tg iter (tI X.K W mi)) (hg : PG X tg (tT X.K p)) (hb : PSs X body (tS X.K W b))
    (hs : ∀ x, foldedSetIterable iter X.env x = pure x := by intro _; rfl) : PS X (.For tg iter body [] pos) (tS X.K W (forM mi p b)) :=
  PS.to (ps_for hp hc hi hg hb hs) fun D sg H h => (tS_use (rel := rJ) h).imp fun J H1 ⟨rho, e, S, itm, s, re, r, f⟩ => loop_ok s re r f

/-! ### comprehensions -/
open Classical in
noncomputable def lcLoop (ck : List (Nat × List MV)) (p : Pt) (tt : EMt Bool) (te : EM) (e : Sl) : List MV → List MV → Sto → Res (List MV)
  | [], acc, S => if ckOk ck S then .ok acc S else .bad
  | x :: r, acc, S => if ckOk ck S then (match asg p x S e with
    | none => .bad
    | some e1 => match tt e1 S with
      | .ok true S1 => (match te e1 S1 with
        | .ok y S2 => if acc.length < sizeLine then lcLoop ck p tt te e r (acc ++ [y]) S2 else .bad
        | _ => .bad)
      | .ok false S1 => lcLoop ck p tt te e r acc S1
      | _ => .bad) else .bad
noncomputable def lcM (mi : EMt Itm) (p : Pt) (tt : EMt Bool) (te : EM) (vs : List Nat) : EM := bindM mi fun itm => fun e S => match lcLoop itm.ck p tt te (wipeE e vs) itm.xs [] S with
  | .ok acc S' => .ok (.ref S'.n) (S'.add (.lst acc))
  | _ => .bad
def yesM : EMt Bool := fun _ S => .ok true S
/-- a list that the store did not know is taken into it -/
theorem Sim.adopt {rho : Nat → Addr} {S : Sto} {H : Hp} (s : Sim K rho S H) {D : Addr} {vs : List V} {xs : List MV} (hD : H D = some (.lst vs)) (hn : ∀ i, i < S.n → (S.g i).mut = true → rho i ≠ D) (r : RepL K rho S.n H xs vs) : Sim K (ext rho S.n D) (S.add (.lst xs)) H where
  inj := fun i j hi hj mi mj e => by
    have hi' : i < S.n + 1 := hi
    have hj' : j < S.n + 1 := hj
    by_cases h1 : i = S.n
    · by_cases h2 : j = S.n
      · omega
      · rw [Sto.add_g, if_neg h2] at mj
        subst h1
        rw [ext_at, ext_lt (by omega)] at e
        exact absurd e.symm (hn j (by omega) mj)
    · by_cases h2 : j = S.n
      · rw [Sto.add_g, if_neg h1] at mi
        subst h2
        rw [ext_at, ext_lt (by omega)] at e
        exact absurd e (hn i (by omega) mi)
      · rw [ext_lt (by omega), ext_lt (by omega)] at e
        rw [Sto.add_g, if_neg h1] at mi
        rw [Sto.add_g, if_neg h2] at mj
        exact s.inj i j (by omega) (by omega) mi mj e
  obj := fun i hi => by
    have hi' : i < S.n + 1 := hi
    by_cases h1 : i = S.n
    · subst h1
      rw [ext_at, Sto.add_g, if_pos rfl]
      exact ⟨vs, hD, RepL.mono (Nat.le_succ _) (fun _ h => ext_lt h) (fun _ _ q => q) r⟩
    · have h2 : i < S.n := by omega
      rw [ext_lt h2, Sto.add_g, if_neg h1]
      have ho := s.obj i h2
      cases q : S.g i with
      | lst ys => rw [q] at ho; obtain ⟨ws, g1, g2⟩ := ho; exact ⟨ws, g1, RepL.mono (Nat.le_succ _) (fun _ h => ext_lt h) (fun _ _ q => q) g2⟩
      | con ys => rw [q] at ho; obtain ⟨ws, g1, g2⟩ := ho; exact ⟨ws, g1, RepL.mono (Nat.le_succ _) (fun _ h => ext_lt h) (fun _ _ q => q) g2⟩
      | dK ys => rw [q] at ho; obtain ⟨ws, g1, g2⟩ := ho; exact ⟨ws, g1, RepP.mono (Nat.le_succ _) (fun _ h => ext_lt h) (fun _ _ q => q) g2⟩
      | dT ys => rw [q] at ho; obtain ⟨ws, g1, g2⟩ := ho; exact ⟨ws, g1, RepP.mono (Nat.le_succ _) (fun _ h => ext_lt h) (fun _ _ q => q) g2⟩
      | ins C ys => rw [q] at ho; obtain ⟨dx, ws, g1, g2⟩ := ho; exact ⟨dx, ws, g1, RepP.mono (Nat.le_succ _) (fun _ h => ext_lt h) (fun _ _ q => q) g2⟩
      | exn C ys => rw [q] at ho; obtain ⟨d, g1, g2⟩ := ho; exact ⟨d, g1, g2.mono (Nat.le_succ _) (fun _ h => ext_lt h) (fun _ _ q => q) fun _ _ q => q⟩
/-- what the store does not know changes -/
theorem Sim.mutAt {rho : Nat → Addr} {S : Sto} {H : Hp} (s : Sim K rho S H) {D : Addr} {u : HO} (hm : isMut (H D)) (hn : ∀ i, i < S.n → (S.g i).mut = true → rho i ≠ D) : Sim K rho S (upd H D u) where
  inj := s.inj
  obj := fun i hi => RepO.stay hm (fun q => hn i hi q) (s.obj i hi) (fun _ _ => rfl) (Nat.le_refl _)
theorem Le.mutAt {rho rho' : Nat → Addr} {S S' : Sto} {H H' : Hp} (l : Le K rho S H rho' S' H') {D : Addr} {u : HO} (hm : isMut (H' D)) (h0 : H D = none) : Le K rho S H rho' S' (upd H' D u) where
  n := l.n
  r := l.r
  tup := fun a vs q => sqT_upd hm (l.tup a vs q)
  fr := fun a o q hc => by rw [upd_ne (ne_of_none q h0)]; exact l.fr a o q hc
  new := l.new
  th := fun a q => by
    by_cases e : a = D
    · subst e; exact h0
    · rw [upd_ne e] at q; exact l.th a q
  mu := l.mu
theorem Le.adopt {rho rho' : Nat → Addr} {S S' : Sto} {H H' : Hp} (l : Le K rho S H rho' S' H') {D : Addr} {o : MO} (h0 : H D = none) : Le K rho S H (ext rho' S'.n D) (S'.add o) H' where
  n := Nat.le_trans l.n (Nat.le_succ _)
  r := fun i hi => by rw [ext_lt (Nat.lt_of_lt_of_le hi l.n)]; exact l.r i hi
  tup := l.tup
  fr := l.fr
  new := fun i h1 h2 => by
    have h2' : i < S'.n + 1 := h2
    by_cases e : i = S'.n
    · subst e; rw [ext_at]; exact h0
    · rw [ext_lt (by omega)]; exact l.new i h1 (by omega)
  th := l.th
  mu := fun i hi => by rw [Sto.add_g, if_neg (by have := l.n; omega)]; exact l.mu i hi
/-- numbers that come new are not D's -/
theorem Le.notD {rho rho' : Nat → Addr} {S S' : Sto} {H H' : Hp} (l : Le K rho S H rho' S' H') {D : Addr} {u : HO} (hD : H D = some u) (hn : ∀ i, i < S.n → (S.g i).mut = true → rho i ≠ D) : ∀ i, i < S'.n → (S'.g i).mut = true → rho' i ≠ D := fun i hi hm => by
  by_cases h : i < S.n
  · rw [l.r i h]; exact hn i h (by rw [← l.mu i h]; exact hm)
  · intro e
    have := l.new i (by omega) hi
    rw [e, hD] at this; cases this
theorem wipe_wipe (sg : L2.St) (vs : List Nat) : L2.wipe (L2.wipe sg vs) vs = L2.wipe sg vs := by
  apply List.ext_getElem?
  intro i
  rw [wipe_get, wipe_length, wipe_get]
  by_cases h : i < sg.length
  · by_cases h2 : i ∈ vs
    · simp [h, h2]
    · simp [h, h2]
  · simp [h]
theorem lc_ok {itm : Itm} {J : It} {p : Pt} {tt : EMt Bool} {te : EM} {vs : List Nat} {rho : Nat → Addr} {e : Sl} {S : Sto} {sg : L2.St} {H1 : Hp} {Q : VK} {E : XK} (hp : ∀ j ∈ p.ns, j ∈ vs) (s : Sim K rho S H1) (re : RepE K rho S.n H1 sg e) (r : rJ K rho S.n H1 itm J)
    (f : Fin K rV rho S H1 Q E (match lcLoop itm.ck p tt te (wipeE e vs) itm.xs [] S with | .ok acc S' => .ok (.ref S'.n) (S'.add (.lst acc)) | _ => .bad))
    (D : Addr) (hD : H1 D = none) : ∃ Wv : Nat → Nat → Hp → Prop, (∃ m, Wv 0 m (upd H1 D (.lst []))) ∧ ∀ i m H, Wv i m H →
      (J.stop i H ∧ Q (.ref D) H) ∨ (J.go i H ∧ ∃ Nx : Hp → Prop, (∀ H', Nx H' → ∃ m', m' < m ∧ Wv (i + 1) m' H') ∧ ∀ x H', J.yld i H x H' → tT K p x (L2.wipe sg vs) H' fun sg2 H2 => L2.wipe sg2 vs = L2.wipe sg vs ∧ tB K (fun _ _ _ _ => False) tt sg2 H2 fun b H3 =>
        if b = true then tM K (fun _ _ _ _ => False) te sg2 H3 fun y H4 => ∃ acc, H4 D = some (.lst acc) ∧ acc.length < sizeLine ∧ Nx (upd H4 D (.lst (acc ++ [y]))) else Nx H3) := by
  -- the state of the block ahead of the i-th item
  refine ⟨fun i m H => m = itm.xs.length - i ∧ i ≤ itm.xs.length ∧ ∃ rho' S' acc av, Sim K rho' S' H ∧ Le K rho S H1 rho' S' H ∧ (∀ i, i < S'.n → (S'.g i).mut = true → rho' i ≠ D) ∧ H D = some (.lst av) ∧ RepL K rho' S'.n H acc av ∧
      Fin K rV rho S H1 Q E (match lcLoop itm.ck p tt te (wipeE e vs) (itm.xs.drop i) acc S' with | .ok acc S' => .ok (.ref S'.n) (S'.add (.lst acc)) | _ => .bad), ⟨_, rfl, Nat.zero_le _, rho, S, [], [], s.ofNew hD, Le.ofNew hD, fun i hi hm => ?_, upd_same, rfl, f⟩, ?_⟩
  · obtain ⟨o, q, _⟩ := (s.obj i hi).tracked hm
    exact ne_of_none q hD
  · rintro i m H ⟨rfl, hi, rho1, S1, acc, av, s1, l1, n1, hD1, ra, f1⟩
    have r1 := rJ_le r l1
    by_cases hl : i < itm.xs.length
    · rw [drop_cons' hl] at f1
      simp only [lcLoop] at f1
      by_cases hc : ckOk itm.ck S1
      · rw [if_pos hc] at f1
        obtain ⟨_, h2⟩ := rJ_self r1 s1 hc
        obtain ⟨h3, h4⟩ := h2 i _ (List.getElem?_eq_getElem hl)
        refine .inr ⟨h3, fun H => i + 1 ≤ itm.xs.length ∧ ∃ rho' S' acc av, Sim K rho' S' H ∧ Le K rho S H1 rho' S' H ∧ (∀ i, i < S'.n → (S'.g i).mut = true → rho' i ≠ D) ∧ H D = some (.lst av) ∧ RepL K rho' S'.n H acc av ∧
          Fin K rV rho S H1 Q E (match lcLoop itm.ck p tt te (wipeE e vs) (itm.xs.drop (i + 1)) acc S' with | .ok acc S' => .ok (.ref S'.n) (S'.add (.lst acc)) | _ => .bad), fun H' ⟨q1, q2⟩ => ⟨itm.xs.length - (i + 1), by omega, rfl, q1, q2⟩, fun v H2 y => ?_⟩
        obtain ⟨s2, l2, r2⟩ := h4 v H2 y
        have l12 := l1.trans l2
        have hD2 : H2 D = some (.lst av) := l2.fr D _ hD1 n1
        have ra2 := ra.le l2
        refine ⟨rho1, wipeE e vs, S1, _, s2, (re.wipe vs).le l12, r2, ?_⟩
        cases q : asg p itm.xs[i] S1 (wipeE e vs) with
        | none => rw [q] at f1; exact f1.elim
        | some e1 =>
          rw [q] at f1
          simp only at f1 ⊢
          intro sg2 re2 hw
          refine ⟨?_, rho1, e1, S1, s2, re2, ?_⟩
          · rw [hw vs hp]
            exact wipe_wipe sg vs
          · cases q2 : tt e1 S1 with
            | bad => rw [q2] at f1; exact f1.elim
            | exc ex S2 => rw [q2] at f1; exact f1.elim
            | ok b S2 =>
              rw [q2] at f1
              intro rho3 H3 b' s3 l3 rb
              have rb' : b = b' := rb
              subst rb'
              have n3 := l3.notD hD2 n1
              have hD3 : H3 D = some (.lst av) := l3.fr D _ hD2 n1
              have l13 := l12.trans l3
              cases b with
              | false =>
                rw [if_neg (by decide)]
                exact ⟨hl, rho3, S2, acc, av, s3, l13, n3, hD3, ra2.le l3, f1⟩
              | true =>
                rw [if_pos rfl]
                refine ⟨rho3, e1, S2, s3, re2.le l3, ?_⟩
                simp only at f1
                cases q3 : te e1 S2 with
                | bad => rw [q3] at f1; exact f1.elim
                | exc ex S3 => rw [q3] at f1; exact f1.elim
                | ok yv S3 =>
                  rw [q3] at f1
                  intro rho4 H4 y' s4 l4 ry
                  have n4 := l4.notD hD3 n3
                  have hD4 : H4 D = some (.lst av) := l4.fr D _ hD3 n3
                  have ra4 := (ra2.le l3).le l4
                  simp only at f1
                  by_cases hz : acc.length < sizeLine
                  · rw [if_pos hz] at f1
                    have hm : isMut (H4 D) := isMut_some hD4 trivial
                    exact ⟨av, hD4, by rw [ra4.len]; exact hz, hl, rho4, S3, acc ++ [yv], av ++ [y'], s4.mutAt hm n4, (l13.trans l4).mutAt hm hD, n4, upd_same, (ra4.upd hm).app (RepL.one (ry.upd hm)), f1⟩
                  · rw [if_neg hz] at f1; exact f1.elim
      · rw [if_neg hc] at f1; exact f1.elim
    · have e1 : i = itm.xs.length := by omega
      subst e1
      rw [List.drop_length] at f1
      simp only [lcLoop] at f1
      by_cases hc : ckOk itm.ck S1
      · rw [if_pos hc] at f1
        refine .inl ⟨(rJ_self r1 s1 hc).1, ?_⟩
        exact f1 (ext rho1 S1.n D) H _ (s1.adopt hD1 n1 ra) (l1.adopt hD) ⟨Nat.lt_succ_self _, by rw [ext_at]⟩
      · rw [if_neg hc] at f1; exact f1.elim
theorem mp_lc {elt : Expr} {ifs : List Expr} {scope : Scope} {own : List (Str × Nat)} {mi : EMt Itm} {p : Pt} {tt : EMt Bool} {te : EM} {W : WX} (hc : X.calm = true) (hN : X.N.Nodup) (hi : PI X tg iter (tI X.K W mi)) (ok : BlkOk X.N X.env.scope scope own)
    (hp : ∀ j ∈ p.ns, j ∈ own.map (·.2))
    (hg : ∀ (s : Shared) (H : Hp) (C : Addr) (cl : List (Str × Addr)) (fp : List Addr), PG (X.blk s H scope (compEnvC scope cl C X.env) fp) tg (tT X.K p))
    (ht : ∀ (s : Shared) (H : Hp) (C : Addr) (cl : List (Str × Addr)) (fp : List Addr), PTs (X.blk s H scope (compEnvC scope cl C X.env) fp) ifs (tB X.K (fun _ _ _ _ => False) tt))
    (he : ∀ (s : Shared) (H : Hp) (C : Addr) (cl : List (Str × Addr)) (fp : List Addr), PE (X.blk s H scope (compEnvC scope cl C X.env) fp) elt (tM X.K (fun _ _ _ _ => False) te)) (hs : ∀ x, foldedSetIterable iter X.env x = pure x := by intro _; rfl) :
    PE X (.ListComp elt [⟨tg, iter, ifs, 0⟩] scope pos) (tM X.K W (lcM mi p tt te (own.map (·.2)))) :=
  PE.to (pe_lc hc hN hi ok hg ht he hs) fun sg H Q h => (tG_bind (rel := rJ) h).imp fun J H1 ⟨rho, e, S, itm, s, re, r, f⟩ => lc_ok hp s re r f
end
end Mm
end

section
/-! ## M, part 7: iterables, while, defs and their calls, the law's end -/
namespace Mm
open PySem L2 PyProof.Rows
def itmOf (x : MV) (S : Sto) : Option Itm := match x with
  | .tup xs => some ⟨xs, []⟩
  | .str z => some ⟨z.cps.toList.map fun c => .str ⟨#[c]⟩, []⟩
  | .ref k => match S.g k with
    | .lst xs => some ⟨xs, [(k, xs)]⟩
    | .con xs => some ⟨xs, [(k, xs)]⟩
    | _ => none
  | _ => none
def itmV (o : Option Itm) (S : Sto) : Res Itm := match o with
  | some i => .ok i S
  | none => .bad
def iterM (m : EM) : EMt Itm := bindM m fun x => fun _ S => itmV (itmOf x S) S
section
variable {K : PySem.W.Frag} {W : WX} {X : Cx} {pos : Pos} {tg iter e : Expr} {m : EM}
theorem PI.or {w1 w2 : TI} (h1 : PI X tg iter w1) (h2 : PI X tg iter w2) : PI X tg iter (fun sg H R => w1 sg H R ∨ w2 sg H R) := ⟨fun pins s sg H R I h => by
  rcases h with h | h
  · exact h1.run pins s sg H R I h
  · exact h2.run pins s sg H R I h⟩
theorem rJ_seqT {rho : Nat → Addr} {n : Nat} {H : Hp} {a : Addr} {vs : List V} {xs : List MV} (h : SqT K H a vs) (r : RepL K rho n H xs vs) : rJ K rho n H ⟨xs, []⟩ (Itt K a) := by
  intro rho' S' H' hn hr ht s hc
  have h' := ht a vs h
  have r' := RepL.mono hn hr ht r
  refine ⟨⟨vs, h', by rw [r'.len]; exact Nat.le_refl _⟩, fun i x hx => ?_⟩
  obtain ⟨v, h1, h2⟩ := r'.get hx
  refine ⟨⟨vs, v, h', h1⟩, fun v2 H2 ⟨e1, e2⟩ => ?_⟩
  subst e1
  have := e2 vs h'
  rw [h1] at this; cases this
  exact ⟨s, Le.refl, h2⟩
theorem ck_at {rho rho' : Nat → Addr} {S' : Sto} {n k : Nat} {H' : Hp} {xs : List MV} (hk : k < n) (hn : n ≤ S'.n) (hr : ∀ i, i < n → rho' i = rho i) (s : Sim K rho' S' H') (hc : ckOk [(k, xs)] S') : ∃ vs, SqL K H' (rho k) vs ∧ RepL K rho' S'.n H' xs vs := by
  simp at hc
  obtain ⟨vs, h1, h2⟩ := seqO_at s (Nat.lt_of_lt_of_le hk hn) hc
  exact ⟨vs, by rw [← hr k hk]; exact h1, h2⟩
theorem sq_inj {H : Hp} {a : Addr} {xs : List MV} {vs : List V} {rho : Nat → Addr} {n : Nat} {i : Nat} {v : V} {x : MV} (r : RepL K rho n H xs vs) (hx : xs[i]? = some x) (h : SqL K H a vs) (e : ∀ ys, SqL K H a ys → ys[i]? = some v) : Rep K rho n H x v := by
  obtain ⟨w, h1, h2⟩ := r.get hx
  have := e vs h
  rw [h1] at this; cases this
  exact h2
theorem rJ_seqL {rho : Nat → Addr} {n k : Nat} {H : Hp} {xs : List MV} (hk : k < n) : rJ K rho n H ⟨xs, [(k, xs)]⟩ (Itl K (rho k)) := by
  intro rho' S' H' hn hr ht s hc
  obtain ⟨vs, h', r'⟩ := ck_at hk hn hr s hc
  refine ⟨⟨vs, h', by rw [r'.len]; exact Nat.le_refl _⟩, fun i x hx => ?_⟩
  obtain ⟨v, h1, h2⟩ := r'.get hx
  refine ⟨⟨vs, v, h', h1⟩, fun v2 H2 ⟨e1, e2⟩ => ?_⟩
  subst e1
  exact ⟨s, Le.refl, sq_inj r' hx h' e2⟩
theorem rJ_str {rho : Nat → Addr} {n : Nat} {H : Hp} {z : Str} : rJ K rho n H ⟨z.cps.toList.map fun c => .str ⟨#[c]⟩, []⟩ (Its z) := by
  intro rho' S' H' hn hr ht s hc
  refine ⟨by show z.cps.size ≤ (z.cps.toList.map _).length; simp, fun i x hx => ?_⟩
  simp only [List.getElem?_map, Option.map_eq_some_iff] at hx
  obtain ⟨c, h1, h2⟩ := hx
  have hl : i < z.cps.size := by
    have := (List.getElem?_eq_some_iff.mp h1).1
    simpa using this
  refine ⟨hl, fun v H2 ⟨e1, c', h3, h4⟩ => ?_⟩
  subst e1
  have : c = c' := by
    rw [← Array.getElem?_toList] at h3
    rw [h1] at h3; exact Option.some.inj h3
  subst this
  exact ⟨s, Le.refl, by rw [← h2]; exact h4⟩
/-- a value that is walked: a tuple, a list, a text -/
theorem mi_seq (he : PE X e (tM X.K W m)) : PI X tg e (tI X.K W (iterM m)) :=
  PI.to (PI.or (pi_list he) (PI.or (pi_tup he) (pi_str he))) fun sg H R ⟨rho, en, S, s, re, f⟩ => by
    unfold iterM bindM at f
    cases q : m en S with
    | exc ex S' => rw [q] at f; exact .inl ⟨rho, en, S, s, re, by rw [q]; exact f⟩
    | bad => rw [q] at f; exact f.elim
    | ok x S' =>
      rw [q] at f
      simp only at f
      cases q2 : itmOf x S' with
      | none => rw [q2] at f; exact f.elim
      | some itm =>
        rw [q2] at f
        unfold itmOf at q2
        split at q2
        · cases q2
          refine .inr (.inl ⟨rho, en, S, s, re, ?_⟩)
          rw [q]
          intro rho' H' v s' l' ⟨a, vs, h1, h2, h3⟩
          exact ⟨a, h1, ⟨vs, h2⟩, f rho' H' _ s' l' (rJ_seqT h2 h3)⟩
        · cases q2
          refine .inr (.inr ⟨rho, en, S, s, re, ?_⟩)
          rw [q]
          intro rho' H' v s' l' h1
          exact ⟨_, h1, f rho' H' _ s' l' rJ_str⟩
        · rename_i k
          refine .inl ⟨rho, en, S, s, re, ?_⟩
          rw [q]
          intro rho' H' v s' l' ⟨hk, h1⟩
          split at q2
          · rename_i xs qk
            cases q2
            obtain ⟨vs, g1, g2⟩ := lst_at s' hk qk
            exact ⟨_, h1, ⟨vs, SqL.of g1⟩, f rho' H' _ s' l' (rJ_seqL hk)⟩
          · rename_i xs qk
            cases q2
            obtain ⟨vs, g1, g2⟩ := seqO_at s' hk (xs := xs) (by rw [qk]; rfl)
            exact ⟨_, h1, ⟨vs, g1⟩, f rho' H' _ s' l' (rJ_seqL hk)⟩
          · cases q2
        · cases q2
/-- range -/
theorem range_get {c i c' : Nat} (h : (List.range c)[i]? = some c') : i < c ∧ c' = i := by
  obtain ⟨h1, h2⟩ := List.getElem?_eq_some_iff.mp h
  rw [List.getElem_range] at h2
  exact ⟨by simpa using h1, h2.symm⟩
def rngL (lo : Int) (n : Nat) : List MV := (List.range n).map fun i => .int (lo + (i : Nat))
@[irreducible] def rngO1 : List MV → Option Itm
  | [.int j] => if -(2 ^ 62) ≤ j ∧ j < 2 ^ 62 then some ⟨rngL 0 j.toNat, []⟩ else none
  | _ => none
@[irreducible] def rngO2 : List MV → Option Itm
  | [.int i, .int j] => if -(2 ^ 62) ≤ i ∧ i < 2 ^ 62 ∧ -(2 ^ 62) ≤ j ∧ j < 2 ^ 62 then some ⟨rngL i (j - i).toNat, []⟩ else none
  | _ => none
/-- down by ones -/
@[irreducible] def rngO3 : List MV → Option Itm
  | [.int i, .int j, .int c] => if c = -1 ∧ -(2 ^ 62) ≤ i ∧ i < 2 ^ 62 ∧ -(2 ^ 62) ≤ j ∧ j < 2 ^ 62 then some ⟨(List.range (i - j).toNat).map fun k => .int (i + (k : Nat) * (-1)), []⟩ else none
  | _ => none
def itmM (g : List MV → Option Itm) (ml : EMt (List MV)) : EMt Itm := bindM ml fun xs => fun _ S => itmV (g xs) S
theorem rJ_rng {rho : Nat → Addr} {n : Nat} {H : Hp} {lo : Int} {c : Nat} : rJ K rho n H ⟨rngL lo c, []⟩ (Itr lo c) := by
  intro rho' S' H' hn hr ht s hc
  refine ⟨by show c ≤ (rngL lo c).length; simp [rngL], fun i x hx => ?_⟩
  simp only [rngL, List.getElem?_map, Option.map_eq_some_iff] at hx
  obtain ⟨c', h1, h2⟩ := hx
  obtain ⟨hl, rfl⟩ := range_get h1
  refine ⟨hl, fun v H2 ⟨e1, e2⟩ => ?_⟩
  subst e1
  exact ⟨s, Le.refl, by rw [← h2]; exact e2⟩
theorem rJ_rngC {rho : Nat → Addr} {n : Nat} {H : Hp} {lo st : Int} {c : Nat} : rJ K rho n H ⟨(List.range c).map fun k => .int (lo + (k : Nat) * st), []⟩ (Itc lo st c) := by
  intro rho' S' H' hn hr ht s hc
  refine ⟨by show c ≤ ((List.range c).map _).length; simp, fun i x hx => ?_⟩
  simp only [List.getElem?_map, Option.map_eq_some_iff] at hx
  obtain ⟨c', h1, h2⟩ := hx
  obtain ⟨hl, rfl⟩ := range_get h1
  refine ⟨hl, fun v H2 ⟨e1, e2⟩ => ?_⟩
  subst e1
  exact ⟨s, Le.refl, by rw [← h2]; exact e2⟩
theorem fin_itm {al : Type} {rho : Nat → Addr} {S : Sto} {H : Hp} {Q : It → Hp → Prop} {E : XK} {o : Option Itm} (f : Fin K rJ rho S H Q E (itmV o S)) (s : Sim K rho S H) : ∃ itm, o = some itm ∧ ∀ J, rJ K rho S.n H itm J → Q J H := by
  cases o with
  | none => exact f.elim
  | some itm => exact ⟨itm, rfl, fun J h => f rho H J s Le.refl h⟩
theorem mi_range1 {a : Expr} {ml : EMt (List MV)} {p : Pos} (hg : Gl X "range") (hm : X.mg "range" = none) (ha : PA X [a] (tA X.K W ml)) (hs : starEach [a] X.env = [(false, eval a X.env)] := by rfl) : PI X tg (.Call (.Name "range" p) [a] [] pos) (tI X.K W (itmM rngO1 ml)) :=
  PI.to (pi_range1 hg hm ha hs) fun sg H R h => (tG_bind (rel := rL) h).imp fun vs H1 ⟨rho, en, S, xs, s, re, r, f⟩ => by
    obtain ⟨itm, q, k⟩ := fin_itm (al := Unit) f s
    unfold rngO1 at q
    split at q
    · split at q
      · rename_i j hj
        cases q
        obtain ⟨v, h1, h2⟩ := rep1 r
        exact ⟨j, by rw [h1, show v = .int j from h2], hj.1, hj.2, k _ rJ_rng⟩
      · cases q
    · cases q
theorem mi_range2 {a b : Expr} {ml : EMt (List MV)} {p : Pos} (hg : Gl X "range") (hm : X.mg "range" = none) (ha : PA X [a, b] (tA X.K W ml)) (hs : starEach [a, b] X.env = [(false, eval a X.env), (false, eval b X.env)] := by rfl) (hs2 : starEach [b] X.env = [(false, eval b X.env)] := by rfl) : PI X tg (.Call (.Name "range" p) [a, b] [] pos) (tI X.K W (itmM rngO2 ml)) :=
  PI.to (pi_range2 hg hm ha hs hs2) fun sg H R h => (tG_bind (rel := rL) h).imp fun vs H1 ⟨rho, en, S, xs, s, re, r, f⟩ => by
    obtain ⟨itm, q, k⟩ := fin_itm (al := Unit) f s
    unfold rngO2 at q
    split at q
    · split at q
      · rename_i i j hj
        cases q
        obtain ⟨v, w, h1, h2, h3⟩ := rep2 r
        exact ⟨i, j, by rw [h1, show v = .int i from h2, show w = .int j from h3], hj, k _ rJ_rng⟩
      · cases q
    · cases q
theorem mi_range3 {a b c : Expr} {ml : EMt (List MV)} {p : Pos} (hg : Gl X "range") (hm : X.mg "range" = none) (ha : PA X [a, b, c] (tA X.K W ml)) (hs : starEach [a, b, c] X.env = (false, eval a X.env) :: starEach [b, c] X.env := by rfl) (hpl : (backTo pos (starEach [b, c] X.env)).any (·.1) = false := by rfl) :
    PI X tg (.Call (.Name "range" p) [a, b, c] [] pos) (tI X.K W (itmM rngO3 ml)) :=
  PI.to (pi_range3 hg hm ha hs hpl) fun sg H R h => (tG_bind (rel := rL) h).imp fun vs H1 ⟨rho, en, S, xs, s, re, r, f⟩ => by
    obtain ⟨itm, q, k⟩ := fin_itm (al := Unit) f s
    unfold rngO3 at q
    split at q
    · split at q
      · rename_i i j c hj
        cases q
        obtain ⟨v, r1, h1, h2, h3⟩ := r
        obtain ⟨w, z, h4, h5, h6⟩ := rep2 h3
        obtain ⟨rfl, a1, a2, a3, a4⟩ := hj
        exact ⟨i, j, -1, (i - j).toNat, by rw [h1, h4, show v = .int i from h2, show w = .int j from h5, show z = .int (-1) from h6], RgC.neg a1 a2 a3 a4, k _ rJ_rngC⟩
      · cases q
    · cases q
/-- enumerate of a list -/
def prI (xs : List MV) : List MV := (List.range xs.length).zipWith (fun i x => .tup [.int (i : Nat), x]) xs
def enmO (S : Sto) : List MV → Option Itm
  | [.ref k] => match S.g k with
    | .lst xs => some ⟨prI xs, [(k, xs)]⟩
    | .con xs => some ⟨prI xs, [(k, xs)]⟩
    | _ => none
  | _ => none
def enmM (ml : EMt (List MV)) : EMt Itm := bindM ml fun xs => fun _ S => itmV (enmO S xs) S
theorem prI_get {xs : List MV} {i : Nat} {z : MV} (h : (prI xs)[i]? = some z) : ∃ x, xs[i]? = some x ∧ z = .tup [.int (i : Nat), x] := by
  unfold prI at h
  rw [List.getElem?_zipWith] at h
  cases q : (List.range xs.length)[i]? with
  | none => rw [q] at h; simp at h
  | some j =>
    obtain ⟨_, rfl⟩ := range_get q
    cases q2 : xs[j]? with
    | none => rw [q, q2] at h; simp at h
    | some x => rw [q, q2] at h; simp at h; exact ⟨x, rfl, h.symm⟩
theorem prI_len (xs : List MV) : (prI xs).length = xs.length := by unfold prI; rw [List.length_zipWith, List.length_range, Nat.min_self]
/-- a new pair -/
theorem pair_new {rho : Nat → Addr} {S : Sto} {H : Hp} (s : Sim K rho S H) {T : Addr} {x y : MV} {v w : V} (hT : H T = none) (rx : Rep K rho S.n H x v) (ry : Rep K rho S.n H y w) :
    Sim K rho S (upd H T (.tup [v, w])) ∧ Le K rho S H rho S (upd H T (.tup [v, w])) ∧ Rep K rho S.n (upd H T (.tup [v, w])) (.tup [x, y]) (.ref T) :=
  ⟨s.ofNew hT, Le.ofNew hT, T, [v, w], rfl, SqT.of upd_same, v, [w], rfl, rx.upd (isMut_none hT), RepL.one (ry.upd (isMut_none hT))⟩
theorem rJ_enum {rho : Nat → Addr} {n k : Nat} {H : Hp} {xs : List MV} (hk : k < n) : rJ K rho n H ⟨prI xs, [(k, xs)]⟩ (Ite K (rho k)) := by
  intro rho' S' H' hn hr ht s hc
  obtain ⟨vs, h', r'⟩ := ck_at hk hn hr s hc
  refine ⟨⟨vs, h', by rw [r'.len]; exact Nat.le_of_eq (prI_len xs).symm⟩, fun i z hz => ?_⟩
  obtain ⟨x, hx, rfl⟩ := prI_get hz
  obtain ⟨v, h1, h2⟩ := r'.get hx
  refine ⟨⟨vs, v, h', h1⟩, fun v2 H2 ⟨T, y, e1, e2, e3, e4⟩ => ?_⟩
  subst e1 e3
  exact pair_new s e2 rfl (sq_inj r' hx h' e4)
theorem mi_enum {a : Expr} {ml : EMt (List MV)} {p tpos : Pos} {elts : List Expr} {kk : Nat} (hg : Gl X "enumerate") (hm : X.mg "enumerate" = none) (ha : PA X [a] (tA X.K W ml)) (hs : starEach [a] X.env = [(false, eval a X.env)] := by rfl) :
    PI X (.Tuple elts kk tpos) (.Call (.Name "enumerate" p) [a] [] pos) (tI X.K W (enmM ml)) :=
  PI.to (pi_enum hg hm ha hs) fun sg H R h => (tG_bind (rel := rL) h).imp fun vs H1 ⟨rho, en, S, xs, s, re, r, f⟩ => by
    obtain ⟨itm, q, k⟩ := fin_itm (al := Unit) f s
    unfold enmO at q
    split at q
    · obtain ⟨v, h1, hk, h2⟩ := rep1 r
      split at q
      · rename_i ys qk
        cases q
        obtain ⟨ws, g1, g2⟩ := lst_at s hk qk
        exact ⟨_, ws, by rw [h1, h2], SqL.of g1, k _ (rJ_enum hk)⟩
      · rename_i ys qk
        cases q
        obtain ⟨ws, g1, g2⟩ := seqO_at s hk (xs := ys) (by rw [qk]; rfl)
        exact ⟨_, ws, by rw [h1, h2], g1, k _ (rJ_enum hk)⟩
      · cases q
    · cases q
/-- zip of two lists, of two tuples -/
def prZ (xs ys : List MV) : List MV := xs.zipWith (fun x y => .tup [x, y]) ys
def zipO (S : Sto) : List MV → Option Itm
  | [.tup xs, .tup ys] => some ⟨prZ xs ys, []⟩
  | [.ref k, .ref j] => match seqO (S.g k), seqO (S.g j) with
    | some xs, some ys => some ⟨prZ xs ys, [(k, xs), (j, ys)]⟩
    | _, _ => none
  | _ => none
def zipM (ml : EMt (List MV)) : EMt Itm := bindM ml fun xs => fun _ S => itmV (zipO S xs) S
theorem prZ_get {xs ys : List MV} {i : Nat} {z : MV} (h : (prZ xs ys)[i]? = some z) : ∃ x y, xs[i]? = some x ∧ ys[i]? = some y ∧ z = .tup [x, y] := by
  unfold prZ at h
  rw [List.getElem?_zipWith] at h
  cases q : xs[i]? with
  | none => rw [q] at h; simp at h
  | some j =>
    cases q2 : ys[i]? with
    | none => rw [q, q2] at h; simp at h
    | some x => rw [q, q2] at h; simp at h; exact ⟨j, x, rfl, rfl, h.symm⟩
theorem prZ_len (xs ys : List MV) : (prZ xs ys).length = min xs.length ys.length := by unfold prZ; rw [List.length_zipWith]
theorem rJ_zipT {rho : Nat → Addr} {n : Nat} {H : Hp} {a b : Addr} {vs ws : List V} {xs ys : List MV} (h : SqT K H a vs) (r : RepL K rho n H xs vs) (g : SqT K H b ws) (t : RepL K rho n H ys ws) : rJ K rho n H ⟨prZ xs ys, []⟩ (RZ.ItzT K a b) := by
  intro rho' S' H' hn hr ht s hc
  have h' := ht a vs h
  have r' := RepL.mono hn hr ht r
  have g' := ht b ws g
  have t' := RepL.mono hn hr ht t
  refine ⟨⟨vs, ws, h', g', by rw [r'.len, t'.len, prZ_len]; omega⟩, fun i z hz => ?_⟩
  obtain ⟨x, y, hx, hy, rfl⟩ := prZ_get hz
  obtain ⟨v, h1, h2⟩ := r'.get hx
  obtain ⟨w, h3, h4⟩ := t'.get hy
  refine ⟨⟨vs, ws, v, w, h', g', h1, h3⟩, fun v2 H2 ⟨T, v1, w1, e1, e2, e3, e4, e5⟩ => ?_⟩
  subst e1 e3
  have q1 := e4 vs h'
  have q2 := e5 ws g'
  rw [h1] at q1; cases q1
  rw [h3] at q2; cases q2
  exact pair_new s e2 h2 h4
theorem rJ_zipL {rho : Nat → Addr} {n k j : Nat} {H : Hp} {xs ys : List MV} (hk : k < n) (hj : j < n) : rJ K rho n H ⟨prZ xs ys, [(k, xs), (j, ys)]⟩ (Itz K (rho k) (rho j)) := by
  intro rho' S' H' hn hr ht s hc
  simp at hc
  obtain ⟨vs, h', r'⟩ := ck_at hk hn hr s (by simpa using hc.1)
  obtain ⟨ws, g', t'⟩ := ck_at hj hn hr s (by simpa using hc.2)
  refine ⟨⟨vs, ws, h', g', by rw [r'.len, t'.len, prZ_len]; omega⟩, fun i z hz => ?_⟩
  obtain ⟨x, y, hx, hy, rfl⟩ := prZ_get hz
  obtain ⟨v, h1, h2⟩ := r'.get hx
  obtain ⟨w, h3, h4⟩ := t'.get hy
  refine ⟨⟨vs, ws, v, w, h', g', h1, h3⟩, fun v2 H2 ⟨T, v1, w1, e1, e2, e3, e4, e5⟩ => ?_⟩
  subst e1 e3
  exact pair_new s e2 (sq_inj r' hx h' e4) (sq_inj t' hy g' e5)
theorem mi_zip {a b : Expr} {ml : EMt (List MV)} {p tpos : Pos} {elts : List Expr} {kk : Nat} (hg : Gl X "zip") (hm : X.mg "zip" = none) (ha : PA X [a, b] (tA X.K W ml))
    (hs : starEach [a, b] X.env = (false, eval a X.env) :: starEach [b] X.env := by rfl) (hpl : (backTo pos (starEach [b] X.env)).any (·.1) = false := by rfl) :
    PI X (.Tuple elts kk tpos) (.Call (.Name "zip" p) [a, b] [] pos) (tI X.K W (zipM ml)) :=
  PI.to (RZ.pi_zipA hg hm ha hs hpl) fun sg H R h => (tG_bind (rel := rL) h).imp fun vs H1 ⟨rho, en, S, xs, s, re, r, f⟩ => by
    obtain ⟨itm, q, k⟩ := fin_itm (al := Unit) f s
    unfold zipO at q
    split at q
    · cases q
      obtain ⟨v, w, h1, ⟨a, us, h2, h3, h4⟩, b, us2, h5, h6, h7⟩ := rep2 r
      exact ⟨a, b, us, us2, by rw [h1, h2, h5], .inr ⟨h3, h6, k _ (rJ_zipT h3 h4 h6 h7)⟩⟩
    · obtain ⟨v, w, h1, ⟨hk, h2⟩, hj, h3⟩ := rep2 r
      split at q
      · rename_i ys zs q1 q2
        cases q
        obtain ⟨us, g1, g2⟩ := seqO_at s hk q1
        obtain ⟨us2, g3, g4⟩ := seqO_at s hj q2
        exact ⟨_, _, us, us2, by rw [h1, h2, h3], .inl ⟨g1, g3, k _ (rJ_zipL hk hj)⟩⟩
      · cases q
    · cases q
/-- reversed -/
def revO (S : Sto) : MV → Option Itm
  | .tup xs => some ⟨xs.reverse, []⟩
  | .ref k => match seqO (S.g k) with
    | some xs => some ⟨xs.reverse, [(k, xs)]⟩
    | none => none
  | _ => none
def revM (m : EM) : EMt Itm := bindM m fun x => fun _ S => itmV (revO S x) S
theorem rev_get {al : Type} {xs : List al} {i : Nat} {x : al} (h : xs.reverse[i]? = some x) : i < xs.length ∧ xs[xs.length - 1 - i]? = some x := by
  have hl : i < xs.length := by have := (List.getElem?_eq_some_iff.mp h).1; simpa using this
  rw [List.getElem?_reverse hl] at h
  exact ⟨hl, h⟩
theorem mi_rev {a : Expr} {p : Pos} (hg : Gl X "reversed") (hm : X.mg "reversed" = none) (ha : PE X a (tM X.K W m)) (hs : starEach [a] X.env = (false, eval a X.env) :: starEach [] X.env := by rfl) : PI X tg (.Call (.Name "reversed" p) [a] [] pos) (tI X.K W (revM m)) :=
  PI.to (RT.pi_revA hg hm ha hs) fun sg H R h => (tG_bind (rel := rV) h).imp fun v H1 ⟨rho, en, S, x, s, re, r, f⟩ => by
    obtain ⟨itm, q, k⟩ := fin_itm (al := Unit) f s
    unfold revO at q
    split at q
    · rename_i xs
      cases q
      obtain ⟨a, vs, h1, h2, h3⟩ := r
      refine ⟨a, vs, h1, .inr ⟨h2, k _ ?_⟩⟩
      intro rho' S' H' hn hr ht s' hc
      have h' := ht a vs h2
      have r' := RepL.mono hn hr ht h3
      refine ⟨?_, fun i z hz => ?_⟩
      · show (vs.length ≤ xs.reverse.length)
        rw [h3.len, List.length_reverse]
        exact Nat.le_refl _
      · obtain ⟨hl, hz'⟩ := rev_get hz
        obtain ⟨w, g1, g2⟩ := r'.get hz'
        rw [← h3.len] at g1
        refine ⟨⟨by rw [h3.len]; exact hl, vs, w, h', g1⟩, fun v2 H2 ⟨e1, e2⟩ => ?_⟩
        subst e1
        have := e2 vs h'
        rw [g1] at this; cases this
        exact ⟨s', Le.refl, g2⟩
    · rename_i kk
      obtain ⟨hk, h1⟩ := r
      split at q
      · rename_i xs qk
        cases q
        obtain ⟨vs, g1, g2⟩ := seqO_at s hk qk
        refine ⟨_, vs, h1, .inl ⟨g1, k _ ?_⟩⟩
        intro rho' S' H' hn hr ht s' hc
        obtain ⟨ws, h', r'⟩ := ck_at hk hn hr s' hc
        refine ⟨?_, fun i z hz => ?_⟩
        · show (vs.length ≤ xs.reverse.length)
          rw [g2.len, List.length_reverse]
          exact Nat.le_refl _
        · obtain ⟨hl, hz'⟩ := rev_get hz
          obtain ⟨w, g3, g4⟩ := r'.get hz'
          rw [← g2.len] at g3
          refine ⟨⟨by rw [g2.len]; exact hl, ws, w, h', g3⟩, fun v2 H2 ⟨e1, e2⟩ => ?_⟩
          subst e1
          have := e2 ws h'
          rw [g3] at this; cases this
          exact ⟨s', Le.refl, g4⟩
      · cases q
    · cases q

/-! ### while -/
def whileF (t : EMt Bool) (b : SM) : Nat → SM
  | 0 => fun _ _ => .bad
  | n + 1 => fun e S => match t e S with
    | .ok true S' => (match b e S' with
      | .nx e' S2 => whileF t b n e' S2
      | .ct e' S2 => whileF t b n e' S2
      | .brk e' S2 => .nx e' S2
      | .ret y S2 => .ret y S2
      | .exc ex e' S2 => .exc ex e' S2
      | .bad => .bad)
    | .ok false S' => .nx e S'
    | .exc ex S' => .exc ex e S'
    | .bad => .bad
open Classical in
noncomputable def whileM (t : EMt Bool) (b : SM) : SM := fun e S => if h : ∃ n, whileF t b n e S ≠ .bad then whileF t b (choose h) e S else .bad
theorem whileF_more {t : EMt Bool} {b : SM} : ∀ (n k : Nat) (e : Sl) (S : Sto), whileF t b n e S ≠ .bad → whileF t b (n + k) e S = whileF t b n e S
  | 0, _, _, _, h => absurd rfl h
  | n + 1, k, e, S, h => by
    have e1 : n + 1 + k = (n + k) + 1 := by omega
    rw [e1]
    simp only [whileF] at h ⊢
    cases q : t e S with
    | bad => rfl
    | exc ex S' => rfl
    | ok c S' =>
      rw [q] at h
      cases c with
      | false => rfl
      | true =>
        simp only at h ⊢
        cases q2 : b e S' with
        | nx e' S2 => rw [q2] at h; exact whileF_more n k e' S2 h
        | ct e' S2 => rw [q2] at h; exact whileF_more n k e' S2 h
        | brk e' S2 => rfl
        | ret y S2 => rfl
        | exc ex e' S2 => rfl
        | bad => rfl
theorem whileM_eq {t : EMt Bool} {b : SM} {n : Nat} {e : Sl} {S : Sto} (h : whileF t b n e S ≠ .bad) : whileM t b e S = whileF t b n e S := by
  have hx : ∃ n, whileF t b n e S ≠ .bad := ⟨n, h⟩
  unfold whileM
  rw [dif_pos hx]
  have h2 := Classical.choose_spec hx
  have a1 := whileF_more n (Classical.choose hx) e S h
  have a2 := whileF_more (Classical.choose hx) n e S h2
  rw [Nat.add_comm] at a2
  rw [← a2, a1]
theorem ms_while {c : Expr} {body : List Stmt} {t : EMt Bool} {b : SM} (hp : PassesOwn (model X.prog X.w) X.A X.env X.xe) (hc : PT X c (tB X.K W t)) (hb : PSs X body (tS X.K W b)) : PS X (.While c body [] pos) (tS X.K W (whileM t b)) :=
  PS.to (ps_while hp hc hb) fun D sg H ⟨rho, e, S, s, re, f⟩ => by
    have hn : ∃ n, whileM t b e S = whileF t b n e S := by
      by_cases h : ∃ n, whileF t b n e S ≠ .bad
      · obtain ⟨n, h⟩ := h
        exact ⟨n, whileM_eq h⟩
      · exact ⟨0, by unfold whileM; rw [dif_neg h]; rfl⟩
    obtain ⟨n, hn⟩ := hn
    rw [hn] at f
    refine ⟨fun m sg H => ∃ rho e S, Sim X.K rho S H ∧ RepE X.K rho S.n H sg e ∧ FinS X.K rho S H D W (whileF t b m e S), ⟨n, rho, e, S, s, re, f⟩, ?_⟩
    rintro m sg H ⟨rho, e, S, s, re, f⟩
    cases m with
    | zero => exact f.elim
    | succ m =>
      refine ⟨rho, e, S, s, re, ?_⟩
      simp only [whileF] at f
      cases q : t e S with
      | bad => rw [q] at f; exact f.elim
      | exc ex S' => rw [q] at f; exact fun rho' H' d s' l' r' => f rho' H' sg d s' l' (re.le l') r'
      | ok k S' =>
        rw [q] at f
        intro rho' H' k' s' l' rk
        have rk' : k = k' := rk
        subst rk'
        cases k with
        | false => rw [if_neg (by decide)]; exact f rho' H' sg s' l' (re.le l')
        | true =>
          rw [if_pos rfl]
          refine ⟨fun sg H => ∃ rho e S, Sim X.K rho S H ∧ RepE X.K rho S.n H sg e ∧ FinS X.K rho S H D W (whileF t b m e S), fun sg' H' h => ⟨m, Nat.lt_succ_self _, h⟩, rho', e, S', s', re.le l', ?_⟩
          have f' := f.step l'
          simp only at f'
          cases q2 : b e S' with
          | nx e' S2 => rw [q2] at f'; exact fun rho2 H2 sg2 s2 l2 re2 => ⟨rho2, e', S2, s2, re2, f'.step l2⟩
          | ct e' S2 => rw [q2] at f'; exact fun rho2 H2 sg2 s2 l2 re2 => ⟨rho2, e', S2, s2, re2, f'.step l2⟩
          | brk e' S2 => rw [q2] at f'; exact f'
          | ret y S2 => rw [q2] at f'; exact f'
          | exc ex e' S2 => rw [q2] at f'; exact f'
          | bad => rw [q2] at f'; exact f'
end

/-! ### defs -/
/-- a def of np parameters and N slots, by its body -/
def defM (np N : Nat) (body : SM) (xs : List MV) (S : Sto) : Res MV := if xs.length = np then (match body (xs.map some ++ List.replicate (N - np) none) S with
  | .nx _ S' => .ok .non S'
  | .ret x S' => .ok x S'
  | .exc ex _ S' => .exc ex S'
  | _ => .bad) else .bad
/-- THE PROMISE of an M-function -/
def spM (K : PySem.W.Frag) (m : List MV → Sto → Res MV) : Sp := fun vs H Q E => ∃ rho xs S, Sim K rho S H ∧ RepL K rho S.n H xs vs ∧ Fin K rV rho S H Q E (m xs S)
abbrev WE' (E : XK) : WX := fun c d _ H => E c d H
section
variable {P : Program} {w : World} {K : PySem.W.Frag} {mg : Str → Option Value} {base : Heap}
theorem repE_start {K : PySem.W.Frag} {rho : Nat → Addr} {n : Nat} {H : Hp} {xs : List MV} {vs : List V} (r : RepL K rho n H xs vs) (N : Nat) : RepE K rho n H (vs.map some ++ List.replicate (N - vs.length) none) (xs.map some ++ List.replicate (N - xs.length) none) := by
  refine ⟨by simp [r.len], fun i x h => ?_⟩
  by_cases hi : i < xs.length
  · rw [List.getElem?_append_left (by simpa using hi)] at h
    have hx : xs[i]? = some x := by
      rw [List.getElem?_map] at h
      cases q : xs[i]? with
      | none => rw [q] at h; cases h
      | some y => rw [q] at h; simp at h; rw [h]
    obtain ⟨v, h1, h2⟩ := r.get hx
    exact ⟨v, by rw [List.getElem?_append_left (by rw [List.length_map, r.len]; exact hi), List.getElem?_map, h1]; rfl, h2⟩
  · rw [List.getElem?_append_right (by simpa using hi)] at h
    simp only [List.getElem?_replicate] at h
    split at h <;> cases h
theorem okM {x qual : Str} {st : Stmt} {f : Addr} {fd : FuncData} {N ps : List Str} {k : Nat} {body : SM} (F : Fun K x qual st f fd) (S : FnScope N ps (defScope st))
    (hbody : ∀ (cdv : Value) (A : Around) (outer : List PySem.Env) (s : Shared) (H : Hp) (E : XK), Room k (A.deeper (envOfC qual (defScope st) s.heap.objs.size f cdv)) →
      Takes (cxOf (L2.CX P w) P w K mg base N qual (defScope st) f cdv A outer s H E) (WE' E) → PassesOwn (model P w) (cxOf (L2.CX P w) P w K mg base N qual (defScope st) f cdv A outer s H E).A (cxOf (L2.CX P w) P w K mg base N qual (defScope st) f cdv A outer s H E).env (cxOf (L2.CX P w) P w K mg base N qual (defScope st) f cdv A outer s H E).xe →
      PSs (cxOf (L2.CX P w) P w K mg base N qual (defScope st) f cdv A outer s H E) (defBody st) (tS K (WE' E) body)) : FnOk P w K mg base (L2.CX P w) (k + 1) f fd ps (spM K (defM ps.length N.length body)) := by
  have key : ∀ {vs : List V} {H : Hp} {Q : VK} {E : XK}, spM K (defM ps.length N.length body) vs H Q E → ∃ rho xs S, Sim K rho S H ∧ RepL K rho S.n H xs vs ∧ xs.length = ps.length ∧ Fin K rV rho S H Q E (defM ps.length N.length body xs S) := by
    intro vs H Q E ⟨rho, xs, S, s, r, f⟩
    refine ⟨rho, xs, S, s, r, ?_, f⟩
    unfold defM at f
    split at f
    · assumption
    · exact f.elim
  refine F.okX S (fun vs H Q E h => ?_) (fun cdv A outer s H vs Q E hr h => ?_)
  · obtain ⟨rho, xs, S, s, r, hl, f⟩ := key h
    rw [r.len, hl]
  · obtain ⟨rho, xs, S', s', r, hl, f⟩ := key h
    refine ⟨_, hbody cdv A outer s H E hr (takes_of rfl rfl rfl rfl) (passes_of rfl), rho, xs.map some ++ List.replicate (N.length - ps.length) none, S', s', ?_, ?_⟩
    · have := repE_start (H := H) r N.length
      rw [hl] at this
      exact this
    · unfold defM at f
      rw [if_pos hl] at f
      cases q : body (xs.map some ++ List.replicate (N.length - ps.length) none) S' with
      | nx e' S2 => rw [q] at f; exact fun rho' H' sg' s2 l2 re2 => f rho' H' .non s2 l2 rfl
      | ret y S2 => rw [q] at f; exact f
      | brk e' S2 => rw [q] at f; exact f.elim
      | ct e' S2 => rw [q] at f; exact f.elim
      | exc ex e' S2 => rw [q] at f; exact fun rho' H' sg' d s2 l2 re2 r2 => f rho' H' d s2 l2 r2
      | bad => rw [q] at f; exact f.elim
/-- the call of a def -/
theorem mp_call {X : Cx} {W : WX} {k : Nat} {f : Addr} {fd : FuncData} {ps : List Str} {m : List MV → Sto → Res MV} {x : Str} {p pos : Pos} {e : Expr} {es : List Expr} {ml : EMt (List MV)} (F : FnOk X.prog X.w X.K X.mg X.base (L2.CX X.prog X.w) k f fd ps (spM X.K m)) (hr : Room k X.A) (hm : X.mg x = some (.ref f)) (hk : PySem.W.keepIn X.K (.ref f) = true) (hb : Binds X.K fd ps []) (tk : Takes X W)
    (ha : PA X (e :: es) (tA X.K W ml)) (hg : Gl X x := by rfl) (hdb : (x == ("__debug__" : Str)) = false := by decide) (he : starEach (e :: es) X.env = (false, eval e X.env) :: starEach es X.env := by rfl) (hpl : (backTo pos (starEach es X.env)).any (·.1) = false := by rfl) :
    PE X (.Call (.Name x p) (e :: es) [] pos) (tM X.K W (opL m ml)) :=
  PE.to (pe_callSD F hr hg hm hk hb .nil (fun sg => passAt tk sg) ha hdb he hpl) fun sg H Q h => (tG_bind (rel := rL) h).imp fun vs H1 ⟨rho, en, S, xs, s, re, r, fn⟩ => ⟨rho, xs, S, s, by rw [List.append_nil]; exact r, fn⟩
end
end Mm
end

section
/-! ## M, part 8: name = [..], calls by record, the law's end -/
namespace Mm
open PySem L2 PyProof.Rows
section
variable {X : Cx} {W : WX} {tg iter : Expr}
theorem ms_setLc {i : Nat} {y : Str} {py : Pos} {elt : Expr} {ifs : List Expr} {scope : Scope} {own : List (Str × Nat)} {pos spos : Pos} {mi : EMt Itm} {p : Pt} {tt : EMt Bool} {te : EM} (hc : X.calm = true) (hN : X.N.Nodup)
    (hi : PI X tg iter (tI X.K W mi)) (ok : BlkOk X.N X.env.scope scope own) (hp : ∀ j ∈ p.ns, j ∈ own.map (·.2))
    (hg : ∀ (s : Shared) (H : Hp) (C : Addr) (cl : List (Str × Addr)) (fp : List Addr), PG (X.blk s H scope (compEnvC scope cl C X.env) fp) tg (tT X.K p))
    (ht : ∀ (s : Shared) (H : Hp) (C : Addr) (cl : List (Str × Addr)) (fp : List Addr), PTs (X.blk s H scope (compEnvC scope cl C X.env) fp) ifs (tB X.K (fun _ _ _ _ => False) tt))
    (he : ∀ (s : Shared) (H : Hp) (C : Addr) (cl : List (Str × Addr)) (fp : List Addr), PE (X.blk s H scope (compEnvC scope cl C X.env) fp) elt (tM X.K (fun _ _ _ _ => False) te))
    (hsw : swapsWith (.ListComp elt [⟨tg, iter, ifs, 0⟩] scope pos) (some (.Name y py)) spos.line X.env = pure true) (hy : X.N[i]? = some y := by rfl) (hyl : X.env.scope.names.lookup y = some .local := by rfl)
    (hs : ∀ x, foldedSetIterable iter X.env x = pure x := by intro _; rfl) :
    PS X (.Assign [.Name y py] (.ListComp elt [⟨tg, iter, ifs, 0⟩] scope pos) spos) (tS X.K W (asgM (.nm i) (lcM mi p tt te (own.map (·.2))))) :=
  PS.to (ps_setLc hc hN hy hyl hsw hi ok hg ht he hs) fun D sg H h => by
    have h1 := tS_use (rel := rV) h
    -- the list comprehension, then the store
    have h2 : tG X.K rJ W mi sg H fun J H1 => ∃ rho e S itm, Sim X.K rho S H1 ∧ RepE X.K rho S.n H1 sg e ∧ rJ X.K rho S.n H1 itm J ∧ Fin X.K rV rho S H1 (fun v H1 => D.nx (sg.set i (some v)) H1) (fun c d H' => W c d sg H') (match lcLoop itm.ck p tt te (wipeE e (own.map (·.2))) itm.xs [] S with
        | .ok acc S' => .ok (.ref S'.n) (S'.add (.lst acc))
        | _ => .bad) := by
      refine tG_bind (rel := rJ) (h1.imp fun v H1 ⟨rho, e, S, x, s, re, r, f⟩ => ?_)
      exact f rho H1 _ s Le.refl (re.set r)
    exact h2.imp fun J H1 ⟨rho, e, S, itm, s, re, r, f⟩ => lc_ok hp s re r f
/-- a test of a comprehension -/
theorem mts_nil {X : Cx} {W : WX} : PTs X [] (tB X.K W yesM) := ⟨fun pins s sg H Q I h => pts_nil.run pins s sg H Q I (by
  obtain ⟨rho, e, S, s, re, f⟩ := h
  exact f rho H true s Le.refl rfl)⟩
theorem mts_one {X : Cx} {W : WX} {c : Expr} {t : EMt Bool} (h : PT X c (tB X.K W t)) : PTs X [c] (tB X.K W t) := pts_one h
end
/-- a def that may be called by its name -/
structure Cal (P : Program) (w : World) (K : PySem.W.Frag) (mg : Str → Option Value) (base : Heap) (k : Nat) (x : Str) (m : List MV → Sto → Res MV) : Prop where
  ex : ∃ (f : Addr) (fd : FuncData) (ps : List Str), FnOk P w K mg base (L2.CX P w) k f fd ps (spM K m) ∧ mg x = some (.ref f) ∧ PySem.W.keepIn K (.ref f) = true ∧ Binds K fd ps []
theorem mc {X : Cx} {W : WX} {k j : Nat} {m : List MV → Sto → Res MV} {x : Str} {p pos : Pos} {e : Expr} {es : List Expr} {ml : EMt (List MV)} (C : Cal X.prog X.w X.K X.mg X.base k x m) (tk : Takes X W) (hr : Room j X.A)
    (ha : PA X (e :: es) (tA X.K W ml)) (hkj : k ≤ j := by decide) (hg : Gl X x := by rfl) (hdb : (x == ("__debug__" : Str)) = false := by decide) (he : starEach (e :: es) X.env = (false, eval e X.env) :: starEach es X.env := by rfl) (hpl : (backTo pos (starEach es X.env)).any (·.1) = false := by rfl) :
    PE X (.Call (.Name x p) (e :: es) [] pos) (tM X.K W (opL m ml)) := by
  obtain ⟨f, fd, ps, F, h1, h2, h3⟩ := C.ex
  exact mp_call F (hr.mono hkj) h1 h2 h3 tk ha hg hdb he hpl
/-- one def's facts behind the top -/
structure DefAt (K : PySem.W.Frag) (mg : Str → Option Value) (x : Str) (st : Stmt) (f : Addr) (fd : FuncData) (ps : List Str) : Prop where
  fn : Fun K x x st f fd
  mgf : mg x = some (.ref f)
  kp : PySem.W.keepIn K (.ref f) = true
  bd : Binds K fd ps []
theorem DefAt.cal {P : Program} {w : World} {K : PySem.W.Frag} {mg : Str → Option Value} {base : Heap} {k : Nat} {x : Str} {st : Stmt} {f : Addr} {fd : FuncData} {ps : List Str} {m : List MV → Sto → Res MV} (D : DefAt K mg x st f fd ps) (h : FnOk P w K mg base (L2.CX P w) k f fd ps (spM K m)) : Cal P w K mg base k x m :=
  ⟨f, fd, ps, h, D.mgf, D.kp, D.bd⟩
/-- the script -/
def S0 (ns : List Int) : Sto := ⟨1, fun _ => .con (ns.map .int)⟩
theorem repL_ints {K : PySem.W.Frag} {rho : Nat → Addr} {n : Nat} {H : Hp} : ∀ ns : List Int, RepL K rho n H (ns.map .int) (ns.map V.int)
  | [] => rfl
  | i :: ns => ⟨_, _, rfl, rfl, repL_ints ns⟩
/-- the law: at every script it comes back with True -/
def LawOk (m : List MV → Sto → Res MV) : Prop := ∀ ns : List Int, ns.length ≤ 63 → (∀ z ∈ ns, Builtin.Int.intBits z ≤ 1048576) → ∃ S', m [.ref 0] (S0 ns) = .ok (.bl true) S'
theorem law_sp {K : PySem.W.Frag} {m : List MV → Sto → Res MV} (L : LawOk m) {H : Hp} {a : Addr} {ns : List Int} (hl : ns.length ≤ 63) (hb : ∀ z ∈ ns, Builtin.Int.intBits z ≤ 1048576) (ho : Only H) (h : SqL K H a (ns.map V.int)) :
    spM K m [.ref a] H (fun v _ => v = .bl true) (fun _ _ _ => False) := by
  obtain ⟨S', e⟩ := L ns hl hb
  refine ⟨fun _ => a, [.ref 0], S0 ns, ⟨fun i j hi hj mi => (by cases mi), fun i hi => ?_⟩, ⟨_, _, rfl, ⟨Nat.lt_succ_self 0, rfl⟩, rfl⟩, ?_⟩
  · refine ⟨ns.map V.int, ?_, repL_ints ns⟩
    rcases h with (h | ⟨o, h⟩) | h
    · rcases ho a with q | ⟨o, xs, q⟩
      · rw [q] at h; cases h
      · rw [q] at h; cases h
    · exact .inl ⟨o, h⟩
    · exact .inr h
  · rw [e]
    exact fun rho' H' v s l r => r
/-- the walk of a law row whose law keeps its promise -/
theorem walkM {l : PySem.W.OpenLaw} {k : Nat} {q : Program} {loose : List Str} {XP : (Str → Option Value) → Heap → Prop} {YP : World → Heap → Prop} {d : DefRec} {K : Params → PySem.W.Frag} {m : List MV → Sto → Res MV} (hn : l.most = some 63) (hdf : d.params.defaults = []) (hr : Room k callerA)
    (hY : ∀ (w : World) (h : Heap), YP w h → (K w.params).In h) (L : LawOk m)
    (F : ∀ (w : World) (mg : Str → Option Value) (fa : Addr) (h : Heap), (K w.params).In h → h.Ns mainGlobals mg → mg d.name = some (.ref fa) →
      ∃ fd : FuncData, (∀ (s : Shared) (u : Value), BindsTo s fd ⟨[u], []⟩ [("script", u)]) ∧ ∀ base : Heap, (K w.params).In base → base.Ns mainGlobals mg → FnOk l.prog w (K w.params) mg base (L2.CX l.prog w) k fa fd ["script"] (spM (K w.params) m)) :
    PySem.W.WalkO q loose XP YP l.row.toRowW d [] (fun f vs => PySem.call f vs) :=
  L2.walk_ofB (n := 63) (k := k) (x := "script") (CX := fun w => L2.CX l.prog w) (sp := fun w => spM (K w.params) m) hn (by decide) hdf hr hY F (fun w H a ns hl hb ho hS => law_sp L hl hb ho hS) fun w H s e s' z => by
    obtain ⟨_, _, _, _, _, _, _, _, _, _, _, _, z⟩ := z
    exact z
end Mm
end

section
/-! ## M, part 9: isinstance, chains, tuple keys -/
namespace Mm
open PySem L2 PyProof.Rows
section
variable {X : Cx} {W : WX} {K : PySem.W.Frag} {a b c e : Expr} {pos : Pos} {ma mb mc m : EM}
/-- a built-in class as a value -/
theorem mp_ty {x : Str} {t : String} (hg : Gl X x) (hm : X.mg x = none) (hv : bootBuiltins x = some (.type t)) (hn : x ≠ "__name__" := by decide) (hd : (x == ("__debug__" : Str)) = false := by decide) : PE X (.Name x pos) (tM X.K W (conM (.ty t))) :=
  PE.to (pe_bltn hg hm hv (show RelV (.ty t) (.type t) from rfl) hn hd) fun _ _ _ => tM_con fun _ _ _ => rfl
def tyN (x : MV) (S : Sto) : Option String := match x with
  | .non => some "NoneType"
  | .bl _ => some "bool"
  | .int _ => some "int"
  | .str _ => some "str"
  | .tup _ => some "tuple"
  | .ref k => match S.g k with
    | .lst _ => some "list"
    | .con _ => some "list"
    | .dK _ => some "dict"
    | .dT _ => some "dict"
    | _ => none
  | _ => none
theorem tyN_ok {rho : Nat → Addr} {S : Sto} {H : Hp} {x : MV} {v : V} {t : String} (s : Sim K rho S H) (r : Rep K rho S.n H x v) (e : tyN x S = some t) : TyX K H v (.type t) := by
  unfold tyN at e
  split at e
  · cases e; rw [show v = .non from r]; exact .base .non
  · cases e; rw [show v = .bl _ from r]; exact .base (.bl _)
  · cases e; rw [show v = .int _ from r]; exact .base (.int _)
  · cases e; rw [show v = .str _ from r]; exact .base (.str _)
  · cases e
    obtain ⟨a, vs, h1, h2, h3⟩ := r
    rw [h1]
    rcases h2 with (h2 | ⟨o, h2⟩) | ⟨o, its, m, h2, h4, _⟩
    · exact .base (.tup h2)
    · exact .fTuple h2
    · exact .kTuple h2 h4
  · rename_i k
    obtain ⟨hk, h1⟩ := r
    rw [h1]
    split at e
    · rename_i xs q; cases e
      obtain ⟨vs, g1, _⟩ := lst_at s hk q
      exact .base (.lst g1)
    · rename_i xs q; cases e
      have ho := s.obj k hk
      rw [q] at ho
      obtain ⟨vs, g1, _⟩ := ho
      rcases g1 with ⟨o, g1⟩ | ⟨o, its, m, g1, g2, _⟩
      · exact .base (.frz g1)
      · exact .kList g1 g2
    · rename_i xs q; cases e
      obtain ⟨vs, g1, _⟩ := dK_at s hk q
      exact .base (.dK g1)
    · rename_i xs q; cases e
      obtain ⟨vs, g1, _⟩ := dT_at s hk q
      exact .base (.dT g1)
    · cases e
  · cases e
def isiV : List MV → Sto → Res MV
  | [x, .ty t], S => match tyN x S with
    | some n => (match kitB n t with
      | some b => .ok (.bl b) S
      | none => .bad)
    | none => .bad
  | _, _ => .bad
theorem isiV_ok : SndL K (rIsi K) isiV := by
  intro rho S H xs vs Q E s rx f
  unfold isiV at f
  split at f
  · rename_i x t
    obtain ⟨v, w, h1, h2, h3⟩ := rep2 rx
    split at f
    · rename_i n hn
      split at f
      · rename_i k hk
        exact ⟨v, w, _, _, k, h1, by rw [show w = .ty t from h3]; exact .ty t, tyN_ok s h2 hn, kit_ty hk, f.val s rfl⟩
      · exact f.elim
    · exact f.elim
  · exact f.elim

/-! ### chains -/
theorem tM_chain {r r' : R2} {g g' : MV → MV → Sto → Res MV} (hs : Snd2 K r g) (hs' : Snd2 K r' g') (hn : ∀ x y S ex S', g x y S ≠ .exc ex S') {sg : L2.St} {H : Hp} {Q : VK} (h : tM K W (chM g g' ma mb mc) sg H Q) : tChain r r' (tM K W ma) (tM K W mb) (tM K W mc) sg H Q := by
  refine (tG_bind (rel := rV) h).imp fun vx H1 ⟨rho, e, S, x, s, re, rx, f⟩ => ?_
  refine ⟨rho, e, S, s, re, ?_⟩
  unfold bindM at f
  cases q : mb e S with
  | exc ex S' => rw [q] at f; exact f
  | bad => rw [q] at f; exact f
  | ok y S1 =>
    rw [q] at f
    intro rho1 H2 vy s1 l1 ry
    have f1 := f.step l1
    simp only at f1
    refine hs rho1 S1 H2 x y _ _ _ (fun _ _ _ => True) s1 (rx.le l1) ry ?_
    cases q2 : g x y S1 with
    | exc ex S' => exact absurd q2 (hn _ _ _ _ _)
    | bad => rw [q2] at f1; exact f1
    | ok z S2 =>
      rw [q2] at f1
      intro rho2 H3 vz s2 l2 rz
      have f2 := f1.step l2
      simp only at f2
      cases z with
      | bl k =>
        refine ⟨k, rz, ?_⟩
        cases k with
        | false => rw [if_neg (by decide)]; exact f2 rho2 H3 _ s2 Le.refl rfl
        | true =>
          rw [if_pos rfl]
          refine ⟨rho2, e, S2, s2, (re.le l1).le l2, ?_⟩
          simp only [blV, if_pos] at f2
          cases q3 : mc e S2 with
          | exc ex S' => simp only [bindM, q3] at f2; exact f2
          | bad => simp only [bindM, q3] at f2; exact f2
          | ok w S3 =>
            simp only [bindM, q3] at f2
            exact fun rho3 H4 vw s3 l3 rw' => hs' rho3 S3 H4 y w _ _ _ _ s3 ((ry.le l2).le l3) rw' (f2.step l3)
      | _ => exact f2.elim
theorem mp_chain {op op' : CmpOp} {r r' : R2} {g g' : MV → MV → Sto → Res MV} (ho : OpR X (compareOp op) r) (hs : Snd2 X.K r g) (ho' : OpR X (compareOp op') r') (hs' : Snd2 X.K r' g') (ha : PE X a (tM X.K W ma)) (hb : PE X b (tM X.K W mb)) (hc : PE X c (tM X.K W mc))
    (hn : ∀ x y S ex S', g x y S ≠ .exc ex S') (hm : lastMarks [op, op'] [b, c] = false := by with_unfolding_all rfl) : PE X (.Compare a [op, op'] [b, c] pos) (tM X.K W (chM g g' ma mb mc)) :=
  PE.to (pe_chain ho ho' ha hb hc hm) fun _ _ _ => tM_chain hs hs' hn
theorem mt_chain {op op' : CmpOp} {r r' : R2} {g g' : MV → MV → Sto → Res MV} (ho : OpR X (compareOp op) r) (hs : Snd2 X.K r g) (ho' : OpR X (compareOp op') r') (hs' : Snd2 X.K r' g') (ha : PE X a (tM X.K W ma)) (hb : PE X b (tM X.K W mb)) (hc : PE X c (tM X.K W mc))
    (hn : ∀ x y S ex S', g x y S ≠ .exc ex S') (hm : lastMarks [op, op'] [b, c] = false := by with_unfolding_all rfl) : PT X (.Compare a [op, op'] [b, c] pos) (tB X.K W (blM (chM g g' ma mb mc))) :=
  PT.to (pt_chain ho ho' ha hb hc hm) fun sg H Q h => tM_chain hs hs' hn ((tG_bind (rel := rV) h).imp fun _ _ ⟨_, _, _, _, s, _, rx, f⟩ => blV_ok s rx f)
theorem leV_nx (x y S ex S') : leV x y S ≠ .exc ex S' := by unfold leV; split <;> simp
theorem ltV_nx (x y S ex S') : ltV x y S ≠ .exc ex S' := by unfold ltV; split <;> simp
theorem geV_nx (x y S ex S') : geV x y S ≠ .exc ex S' := by unfold geV; split <;> simp
theorem gtV_nx (x y S ex S') : gtV x y S ≠ .exc ex S' := by unfold gtV; split <;> simp
theorem eqV_nx (x y S ex S') : eqV x y S ≠ .exc ex S' := by unfold eqV; split <;> (try split) <;> simp

/-! ### in place: numbers, texts -/
def iaddV : MV → MV → Sto → Res MV
  | .int i, .int j, S => .ok (.int (i + j)) S
  | .str i, .str j, S => if i.length + j.length ≤ sizeLine then .ok (.str (i ++ j)) S else .bad
  | _, _, _ => .bad
def rIaddV : R2 := fun x y H Q => (rI0 fun i j => .int (i + j)) x y H Q ∨ (∃ i j, x = .str i ∧ y = .str j ∧ i.length + j.length ≤ sizeLine ∧ Q (.str (i ++ j)) H)
theorem iop_addV : OpR X (inplaceOp .Add) rIaddV := OpR.or iop_add iop_add_str
theorem iaddV_ok : Snd2 K rIaddV iaddV := by
  intro rho S H x y vx vy Q E s rx ry f
  unfold iaddV at f
  split at f
  · exact .inl ⟨_, _, rx, ry, f.val s rfl⟩
  · split at f
    · rename_i h; exact .inr ⟨_, _, rx, ry, h, f.val s rfl⟩
    · exact f.elim
  · exact f.elim

/-! ### dicts with tuple keys, the key a display -/
def toKs : List MV → Option (List Key)
  | [] => some []
  | x :: xs => match toK x, toKs xs with
    | some k, some ks => some (k :: ks)
    | _, _ => none
theorem toKs_rep {rho : Nat → Addr} {n : Nat} {H : Hp} : ∀ {xs : List MV} {vs : List V} {ks : List Key}, RepL K rho n H xs vs → toKs xs = some ks → vs = ks.map kV
  | [], vs, ks, r, e => by cases e; exact r
  | x :: xs, vs, ks, r, e => by
    obtain ⟨w, r', h1, h2, h3⟩ := r
    subst h1
    simp only [toKs] at e
    split at e
    · rename_i k ks' q1 q2
      cases e
      rw [List.map_cons, toK_rep h2 q1, toKs_rep h3 q2]
    · cases e
end
end Mm
end

section
/-! ## M, part 10: calls under which no repr runs (guards known), repr -/
namespace Mm
open PySem L2 PyProof.Rows
section
variable {P : Program} {w : World} {K : PySem.W.Frag} {mg : Str → Option Value} {base : Heap}
/-- as FnOk, where no guard stands -/
structure FnG (P : Program) (w : World) (K : PySem.W.Frag) (mg : Str → Option Value) (base : Heap) (k : Nat) (f : Addr) (fd : FuncData) (ps : List Str) (sp : Sp) : Prop where
  ln : ∀ vs H Q E, sp vs H Q E → vs.length = ps.length
  go : ∀ {A : Around} {out : List PySem.Env} {s : Shared} {H : Hp} {ar : Args} {us : List Value} {vs : List V} {Q : VK} {E : XK}, A.guards = some [] → Room k A → Env0 P w K mg base A out s H → BindsTo s fd ar (ps.zip us) → Vals vs us → sp vs H Q E →
    codeAny (model P w) A (.call (.ref f) ar) (CR (L2.CX P w) out P w H s Q E) s
theorem FnG.mono {j k : Nat} {f : Addr} {fd : FuncData} {ps : List Str} {sp : Sp} (F : FnG P w K mg base j f fd ps sp) (h : j ≤ k) : FnG P w K mg base k f fd ps sp :=
  ⟨F.ln, fun g r => F.go g (r.mono h)⟩
theorem fnG_of {x qual : Str} {st : Stmt} {f : Addr} {fd : FuncData} {N ps : List Str} {k : Nat} {sp : Sp} (F : Fun K x qual st f fd) (S : FnScope N ps (defScope st)) (len : ∀ vs H Q E, sp vs H Q E → vs.length = ps.length)
    (body : ∀ (cdv : Value) (A : Around) (outer : List PySem.Env) (s : Shared) (H : Hp) (vs : List V) (Q : VK) (E : XK), A.guards = some [] → Room k (A.deeper (envOfC qual (defScope st) s.heap.objs.size f cdv)) → sp vs H Q E →
      ∃ t, PSs (cxOf (L2.CX P w) P w K mg base N qual (defScope st) f cdv A outer s H E) (defBody st) t ∧ t { nx := fun _ H' => Q .non H', rt := Q } (start N vs) H) : FnG P w K mg base (k + 1) f fd ps sp := by
  obtain ⟨oc, od, kV, doc, pm, an, cdv, ct, osl, rfl, lk, hcd⟩ := F.ex
  constructor
  · exact len
  · intro A out s H ar us vs Q E hg hr env hb hv hs
    have old : ∀ {b : Addr} {o : Obj}, base.get? b = some o → s.heap.get? b = some o := fun z => (env.bs _ _ z).1
    have inK : K.In s.heap := env.mod.kin.keeps fun _ _ z => old z
    refine codeAny_call_function hr.depth (inK _ _ lk) rfl S.co S.gen rfl (PySem.W.codeRec_of inK hcd) (hb _ _ _ _ ?main)
    have places : ∀ y ∈ ps.zip us, (defScope st).names.lookup y.1 = some .local ∨ ((defScope st).names.lookup y.1 = some .cell ∧ ((cellsFrom (s.heap.objs.size + 1) (defScope st).names []).lookup y.1).isSome = true) := by
      rintro ⟨n, v⟩ hy
      cases S.par n (List.of_mem_zip hy).1 with
      | inl q => exact Or.inl q
      | inr q => exact Or.inr ⟨q, PySem.W.cellsFrom_some _ _ _ (Or.inl q)⟩
    refine wpAny_newFunctionEnv_cells S.kind places fun e he s1 inC => ?_
    cases he
    refine ⟨(env.mod.nolimit.keeps fun _ _ z => old z).keeps inC.toInCall.keep, ?_⟩
    apply codeAny_func
    obtain ⟨t, T, q⟩ := body cdv A out s H vs Q E hg (Room.deeper hr _) hs
    have I0 := inv_start (CX := L2.CX P w) (E := E) (N := N) (qual := qual) (cd := cdv) S hr.hd env (len _ _ _ _ hs) hv inC
    refine wpAny_mono (T.run _ _ _ _ _ I0 q) ?ret (fun _ _ z => z)
    have back : ∀ {sg : L2.St} {H' : Hp} {s' : Shared} {v : V} {u : Value}, Inv (cxOf (L2.CX P w) P w K mg base N qual (defScope st) f cdv A out s H E) [] sg H' s' → RelV v u → Q v H' → CE out P w H s Q u s' :=
      fun J rv z => ⟨_, _, J.os, J.bare, J.base, J.hok, rv, z⟩
    intro fl s' z
    match fl, z with
    | .ret u, ⟨v, sg, H', J, rv, z⟩ => exact back J rv z
    | .next, ⟨sg, H', J, z⟩ => exact back (v := .non) (u := .none) J rfl z
    | .brk, ⟨_, _, _, z⟩ => exact z.elim
    | .cont, ⟨_, _, _, z⟩ => exact z.elim
/-- a def by its M-function -/
theorem okG {x qual : Str} {st : Stmt} {f : Addr} {fd : FuncData} {N ps : List Str} {k : Nat} {body : SM} (F : Fun K x qual st f fd) (S : FnScope N ps (defScope st))
    (hbody : ∀ (cdv : Value) (A : Around) (outer : List PySem.Env) (s : Shared) (H : Hp) (E : XK), Room k (A.deeper (envOfC qual (defScope st) s.heap.objs.size f cdv)) → (cxOf (L2.CX P w) P w K mg base N qual (defScope st) f cdv A outer s H E).A.guards = some [] →
      Takes (cxOf (L2.CX P w) P w K mg base N qual (defScope st) f cdv A outer s H E) (WE' E) → PassesOwn (model P w) (cxOf (L2.CX P w) P w K mg base N qual (defScope st) f cdv A outer s H E).A (cxOf (L2.CX P w) P w K mg base N qual (defScope st) f cdv A outer s H E).env (cxOf (L2.CX P w) P w K mg base N qual (defScope st) f cdv A outer s H E).xe →
      PSs (cxOf (L2.CX P w) P w K mg base N qual (defScope st) f cdv A outer s H E) (defBody st) (tS K (WE' E) body)) : FnG P w K mg base (k + 1) f fd ps (spM K (defM ps.length N.length body)) := by
  have key : ∀ {vs : List V} {H : Hp} {Q : VK} {E : XK}, spM K (defM ps.length N.length body) vs H Q E → ∃ rho xs S, Sim K rho S H ∧ RepL K rho S.n H xs vs ∧ xs.length = ps.length ∧ Fin K rV rho S H Q E (defM ps.length N.length body xs S) := by
    intro vs H Q E ⟨rho, xs, S, s, r, f⟩
    refine ⟨rho, xs, S, s, r, ?_, f⟩
    unfold defM at f
    split at f
    · assumption
    · exact f.elim
  refine fnG_of F S (fun vs H Q E h => ?_) (fun cdv A outer s H vs Q E hg hr h => ?_)
  · obtain ⟨rho, xs, S, s, r, hl, f⟩ := key h
    rw [r.len, hl]
  · obtain ⟨rho, xs, S', s', r, hl, f⟩ := key h
    refine ⟨_, hbody cdv A outer s H E hr hg (takes_of rfl rfl rfl rfl) (passes_of rfl), rho, xs.map some ++ List.replicate (N.length - ps.length) none, S', s', ?_, ?_⟩
    · have := repE_start (H := H) r N.length
      rw [hl] at this
      exact this
    · unfold defM at f
      rw [if_pos hl] at f
      cases q : body (xs.map some ++ List.replicate (N.length - ps.length) none) S' with
      | nx e' S2 => rw [q] at f; exact fun rho' H' sg' s2 l2 re2 => f rho' H' .non s2 l2 rfl
      | ret y S2 => rw [q] at f; exact f
      | brk e' S2 => rw [q] at f; exact f.elim
      | ct e' S2 => rw [q] at f; exact f.elim
      | exc ex e' S2 => rw [q] at f; exact fun rho' H' sg' d s2 l2 re2 r2 => f rho' H' d s2 l2 r2
      | bad => rw [q] at f; exact f.elim
/-- a def that may be called by its name -/
structure CalG (P : Program) (w : World) (K : PySem.W.Frag) (mg : Str → Option Value) (base : Heap) (k : Nat) (x : Str) (m : List MV → Sto → Res MV) : Prop where
  ex : ∃ (f : Addr) (fd : FuncData) (ps : List Str), FnG P w K mg base k f fd ps (spM K m) ∧ mg x = some (.ref f) ∧ PySem.W.keepIn K (.ref f) = true ∧ Binds K fd ps []
theorem DefAt.calG {k : Nat} {x : Str} {st : Stmt} {f : Addr} {fd : FuncData} {ps : List Str} {m : List MV → Sto → Res MV} (D : DefAt K mg x st f fd ps) (h : FnG P w K mg base k f fd ps (spM K m)) : CalG P w K mg base k x m :=
  ⟨f, fd, ps, h, D.mgf, D.kp, D.bd⟩
end
section
variable {X : Cx}
theorem run_fnG {pins : List (Addr × Obj)} {sg : L2.St} {H : Hp} {s : Shared} {Q : VK} {us : List Value} {vs : List V} {k : Nat} {f : Addr} {fd : FuncData} {ps : List Str} {sp : Sp} {E : XK} (F : FnG X.prog X.w X.K X.mg X.base k f fd ps sp) (gd : X.A.guards = some []) (hr : Room k X.A) (hb : Binds X.K fd ps [])
    (hx : PassesAt (L2.CX X.prog X.w) X sg E) (I : Inv X pins sg H s) (r : Vals vs us) (h : sp vs H Q E) : wpAny (model X.prog X.w) X.A (call (.ref f) us) (EP X pins sg Q) X.xe s := by
  have hl : us.length = ps.length := by rw [← r.length]; exact F.ln _ _ _ _ h
  have b := hb s us I.kIn (by simpa using hl)
  rw [List.append_nil] at b
  apply wpAny_call
  refine codeAny_mono (F.go gd hr I.env0 b r h) fun res s' z => ?_
  match res, z with
  | .error e, z => exact hx pins H s e s' I z
  | .ok (.ret u), z => exact I.after z
  | .ok .next, z => exact z.elim
  | .ok .brk, z => exact z.elim
  | .ok .cont, z => exact z.elim
theorem mcG {W : WX} {k j : Nat} {m : List MV → Sto → Res MV} {x : Str} {p pos : Pos} {e : Expr} {es : List Expr} {ml : EMt (List MV)} (C : CalG X.prog X.w X.K X.mg X.base k x m) (tk : Takes X W) (gd : X.A.guards = some []) (hr : Room j X.A)
    (ha : PA X (e :: es) (tA X.K W ml)) (hkj : k ≤ j := by decide) (hg : Gl X x := by rfl) (hdb : (x == ("__debug__" : Str)) = false := by decide) (he : starEach (e :: es) X.env = (false, eval e X.env) :: starEach es X.env := by rfl) (hpl : (backTo pos (starEach es X.env)).any (·.1) = false := by rfl) :
    PE X (.Call (.Name x p) (e :: es) [] pos) (tM X.K W (opL m ml)) := by
  obtain ⟨f, fd, ps, F, hm, hk, hb⟩ := C.ex
  constructor
  intro pins s sg H Q I h
  have h2 := (tG_bind (rel := rL) h)
  apply wpAny_Call_Name_kw
  apply ld_glob I hg hm _ hdb
  refine PySem.W.callWith_K (h₀ := X.base) I.ok.mod.kin hk (thn (ha.run pos pins s sg H _ I h2) fun us s1 z => ?_) he hpl
  obtain ⟨vs, H1, I1, r, rho, en, S, xs, sm, re, rl, fn⟩ := z
  exact ⟨I1.kIn, run_fnG F gd (hr.mono hkj) hb (passAt tk sg) I1 r ⟨rho, xs, S, sm, rl, fn⟩⟩
end
section
theorem law_callG {P : Program} {w : World} {K : PySem.W.Frag} {mg mb : Str → Option Value} {k : Nat} {fa a : Addr} {fd : FuncData} {x : Str} {sp : Sp} {s1 : Shared} {vs : List Value} {ns : List Int}
    (KX : K.In s1.heap) (hns : s1.heap.Ns mainGlobals mg) (hb : s1.heap.Ns builtinsNs mb) (hbb : ∀ x : Str, x ≠ "__name__" → mb x = bootBuiltins x) (hlim : s1.heap.NoLimit) (hg : s1.gens = #[])
    (ha : s1.heap.get? a = some { cls := .type "list", data := .seq vs.toArray }) (hi : IntsAre vs ns) (hl : ns.length ≤ sizeLine) (hr : Room k callerA)
    (F : ∀ base : Heap, K.In base → base.Ns mainGlobals mg → FnG P w K mg base k fa fd [x] sp) (hbind : ∀ (s : Shared) (u : Value), BindsTo s fd ⟨[u], []⟩ [(x, u)])
    (hsp : ∀ H : Hp, Only H → SqL K H a (ns.map V.int) → sp [.ref a] H (fun v _ => v = .bl true) fun _ _ _ => False) :
    codeAny (model P w) callerA (.call (.ref fa) ⟨[.ref a], []⟩) (fun r s' => r = .ok (.ret (.bool true)) ∧ OldK s1.heap s'.heap ∧ s'.os = s1.os ∧ AllBare s'.gens) s1 := by
  have rv := vals_ints hi
  have core : ∀ H : Hp, Only H → SqL K H a (ns.map V.int) → HOk P w H s1.heap → (∀ b, H b ≠ none → b = a ∧ K.lookup a = none) →
      codeAny (model P w) callerA (.call (.ref fa) ⟨[.ref a], []⟩) (fun r s' => r = .ok (.ret (.bool true)) ∧ OldK s1.heap s'.heap ∧ s'.os = s1.os ∧ AllBare s'.gens) s1 := by
    intro H hO hS hok hA
    have look : ∀ b, H b = none ∨ (b = a ∧ K.lookup a = none) := fun b => by
      by_cases q : H b = none
      · exact .inl q
      · exact .inr (hA b q)
    have nsK : ∀ {b : Addr} {m : Str → Option Value}, s1.heap.Ns b m → (hidT s1.heap H).Ns b m := by
      rintro b m ⟨o, es, ep, e, d, r⟩
      refine ⟨o, es, ep, hidT_get e ?_, d, r⟩
      rcases look b with q | ⟨rfl, _⟩
      · exact q
      · rw [ha] at e
        cases e
        exact absurd (show Data.seq vs.toArray _ = Data.dict es ep from d) (fun z => by cases z)
    have hKb : K.In (hidT s1.heap H) := by
      intro b o e
      refine hidT_get (KX b o e) ?_
      rcases look b with q | ⟨rfl, q⟩
      · exact q
      · rw [q] at e; cases e
    have hM : Mod K mg (hidT s1.heap H) := ⟨hKb, nsK hns, ⟨mb, nsK hb, hbb⟩, hlim.imp fun mc z => ⟨nsK z.1, z.2⟩⟩
    have e0 : Env0 P w K mg (hidT s1.heap H) callerA [] s1 H := ⟨rfl, hM, fun _ _ e => of_hidT e, Nat.le_of_eq (hidT_size _ _), trivial, fun _ z => (List.not_mem_nil z).elim, hok, .of_eq hg⟩
    have run := (F _ hKb (nsK hns)).go (A := callerA) (us := [.ref a]) (vs := [.ref a]) rfl hr e0 (hbind s1 (.ref a)) (.cons rfl .nil) (hsp H hO hS)
    refine codeAny_mono run fun r s' h => ?_
    match r, h with
    | .error e, h =>
      obtain ⟨_, _, _, _, _, _, _, _, _, _, _, _, z⟩ := h
      exact z.elim
    | .ok .next, h => exact h.elim
    | .ok .brk, h => exact h.elim
    | .ok .cont, h => exact h.elim
    | .ok (.ret u), ⟨v, H', os, bare, un, hok', r', q⟩ =>
      have q : v = .bl true := q
      subst q
      cases (show u = Value.bool true from r')
      refine ⟨rfl, OldK.of_keep fun b o e => ?_, os, bare⟩
      cases z : H b with
      | none => exact un.keep b o e z (fun y => (List.not_mem_nil y).elim) (by simp)
      | some u =>
        rcases hO b with y | ⟨ob, xs, y⟩
        · rw [z] at y; cases y
        · have e1 := (hok b _ y).1
          have e2 := (hok' b _ (un.frzs b ob _ y)).1
          rw [e] at e1; cases e1
          exact e2
  cases hk : K.lookup a with
  | some o =>
    have e := KX a o hk
    rw [ha] at e
    cases e
    exact core (fun _ => none) (fun _ => .inl rfl) (.inr ⟨_, vs.toArray, _, hk, rfl, rfl, rfl, by rw [List.size_toArray, hi.length]; exact hl, by simpa using rv⟩) (fun b u z => nomatch (show (none : Option HO) = some u from z)) fun b z => absurd rfl z
  | none =>
    let H : Hp := fun b => if b = a then some (.frz { cls := .type "list", data := .seq vs.toArray } (.lst (ns.map V.int))) else none
    have H1 : H a = some (.frz { cls := .type "list", data := .seq vs.toArray } (.lst (ns.map V.int))) := if_pos rfl
    have H2 : ∀ b, b ≠ a → H b = none := fun b hb => if_neg hb
    have two : ∀ b, (b = a) ∨ H b = none := fun b => by
      by_cases hb : b = a
      · exact .inl hb
      · exact .inr (H2 b hb)
    refine core H (fun b => ?_) (.inl (.inr ⟨_, H1⟩)) (fun b u z => ?_) (fun b z => ?_)
    · rcases two b with rfl | q
      · exact .inr ⟨_, _, H1⟩
      · exact .inl q
    · rcases two b with rfl | q
      · rw [H1] at z; cases z
        exact ⟨ha, by rw [List.length_map]; exact hl, vs, _, rv, ha⟩
      · rw [q] at z; cases z
    · rcases two b with rfl | q
      · exact ⟨rfl, hk⟩
      · exact absurd q z
theorem walkG {l : PySem.W.OpenLaw} {k : Nat} {q : Program} {loose : List Str} {XP : (Str → Option Value) → Heap → Prop} {YP : World → Heap → Prop} {d : DefRec} {K : Params → PySem.W.Frag} {m : List MV → Sto → Res MV} (hn : l.most = some 63) (hdf : d.params.defaults = []) (hr : Room k callerA)
    (hY : ∀ (w : World) (h : Heap), YP w h → (K w.params).In h) (L : LawOk m)
    (F : ∀ (w : World) (mg : Str → Option Value) (fa : Addr) (h : Heap), (K w.params).In h → h.Ns mainGlobals mg → mg d.name = some (.ref fa) →
      ∃ fd : FuncData, (∀ (s : Shared) (u : Value), BindsTo s fd ⟨[u], []⟩ [("script", u)]) ∧ ∀ base : Heap, (K w.params).In base → base.Ns mainGlobals mg → FnG l.prog w (K w.params) mg base k fa fd ["script"] (spM (K w.params) m)) :
    PySem.W.WalkO q loose XP YP l.row.toRowW d [] (fun f vs => PySem.call f vs) := by
  refine Att.attach_callB hn hdf fun w s0 s1 mg mb fa o pm cd doc a vs ns G Y ho hd hcd hmg hobj hints hlen hbits hg => ?_
  obtain ⟨fd, hb, hF⟩ := F w mg fa _ (hY w _ Y) G.T.g hmg
  exact law_callG (hY w _ Y) G.T.g G.T.b G.T.builtins G.T.nolimit hg hobj hints (Nat.le_trans hlen (by decide)) hr hF hb fun H hO hS => law_sp L hlen hbits hO hS
end
end Mm
end

section
/-! ## M, part 11: repr -/
namespace Mm
open PySem L2 PyProof.Rows
/-! ### data without a list or a dict lie at no address of note -/
mutual
def noL : PyData → Bool
  | .none | .bool _ | .int _ | .str _ => true
  | .tuple xs => noLs xs
  | .list _ | .dict _ => false
def noLs : List PyData → Bool
  | [] => true
  | x :: xs => noL x && noLs xs
end
mutual
theorem noL_as {h : Heap} : ∀ (d : PyData) (v : Value) (as : List Addr), noL d = true → Reads h v d as → as = []
  | .none, _, _, _, r => by cases r; rfl
  | .bool _, _, _, _, r => by cases r; rfl
  | .int _, _, _, _, r => by cases r; rfl
  | .str _, _, _, _, r => by cases r; rfl
  | .tuple xs, _, _, n, r => by
    cases r with
    | tuple h1 h2 h3 h4 => exact noLs_as xs _ _ (by simpa [noL] using n) h4
  | .list _, _, _, n, _ => nomatch n
  | .dict _, _, _, n, _ => nomatch n
theorem noLs_as {h : Heap} : ∀ (ds : List PyData) (vs : List Value) (as : List Addr), noLs ds = true → ReadsAll h vs ds as → as = []
  | [], _, _, _, r => by cases r; rfl
  | d :: ds, _, _, n, r => by
    have n' : noL d = true ∧ noLs ds = true := by simpa [noLs] using n
    cases r with
    | cons h1 h2 => rw [noL_as d _ _ n'.1 h1, noLs_as ds _ _ n'.2 h2]; rfl
end
def kD : Key → PyData
  | .inl i => .int i
  | .inr x => .str x
theorem noLs_kD : ∀ ks : List Key, noLs (ks.map kD) = true
  | [] => rfl
  | .inl _ :: ks => by simp only [List.map_cons, noLs, kD, noL, noLs_kD ks, Bool.and_self]
  | .inr _ :: ks => by simp only [List.map_cons, noLs, kD, noL, noLs_kD ks, Bool.and_self]
theorem pairs_reads {prog : Program} {w : World} {h : Heap} : ∀ {es : List DictEntry} {kvs : List (Key × Value)}, Pairs (mixKind prog w) es kvs → ReadsAll h (es.map (·.key)) (kvs.map fun p => kD p.1) [] ∧ es.map (·.val) = kvs.map (·.2)
  | _, _, .nil => ⟨.nil, rfl⟩
  | _, _, .cons (e := e) (kv := kv) hk hv r => by
    obtain ⟨h1, h2⟩ := pairs_reads (h := h) r
    refine ⟨?_, by simp [hv, h2]⟩
    have one : Reads h e.key (kD kv.1) [] := by
      rcases keyIs_shape (show keyIs kv.1 e.key = true from hk) with ⟨i, t, a, b⟩ | ⟨x, t, a, b⟩
      · rw [a, b]; exact .int i t
      · rw [a, b]; exact .str x t
    exact .cons (as := []) (bs := []) one h1
theorem kv_vals : ∀ {ws : List (Key × V)} {vs : List (Key × Value)}, KV ws vs → Vals (ws.map (·.2)) (vs.map (·.2)) ∧ ws.map (·.1) = vs.map (·.1)
  | _, _, .nil => ⟨.nil, rfl⟩
  | _, _, .cons h r => by
    obtain ⟨h1, h2⟩ := kv_vals r
    exact ⟨.cons h.2 h1, by simp [h.1, h2]⟩
/-- what repr reads -/
def RdD (K : PySem.W.Frag) (H : Hp) (x : V) (d : PyData) : Prop := Dp K H x d ∨ ∃ (a : Addr) (ws : List (Key × V)) (ds : List PyData), x = .ref a ∧ H a = some (.dK ws) ∧ DpAll K H (ws.map (·.2)) ds ∧ noLs ds = true ∧ d = .dict ((ws.map fun p => kD p.1).zip ds)
def rRepr (K : PySem.W.Frag) : List V → Hp → VK → Prop := fun xs H Q => ∃ x d, xs = [x] ∧ RdD K H x d ∧ d.showable = true ∧ d.depth ≤ 60 ∧ d.shown.length ≤ sizeLine ∧ ((∃ a, x = .ref a) ∨ ∃ i, x = .int i) ∧ Q (.str d.shown) H
mutual
theorem dp_noDict {K : PySem.W.Frag} {H : Hp} : ∀ {v : V} {d : PyData}, Dp K H v d → d.hasDict = false
  | _, _, .non => rfl
  | _, _, .bl _ => rfl
  | _, _, .int _ => rfl
  | _, _, .str _ => rfl
  | _, _, .lst _ h => by simp only [PyData.hasDict]; exact dpAll_noDict h
  | _, _, .tup _ h => by simp only [PyData.hasDict]; exact dpAll_noDict h
theorem dpAll_noDict {K : PySem.W.Frag} {H : Hp} : ∀ {vs : List V} {ds : List PyData}, DpAll K H vs ds → PyData.hasDictAll ds = false
  | _, _, .nil => rfl
  | _, _, .cons h1 h2 => by simp only [PyData.hasDictAll, dp_noDict h1, dpAll_noDict h2, Bool.or_self]
end
theorem dpAll_len {K : PySem.W.Frag} {H : Hp} : ∀ {vs : List V} {ds : List PyData}, DpAll K H vs ds → ds.length = vs.length
  | _, _, .nil => rfl
  | _, _, .cons _ h => by rw [List.length_cons, List.length_cons, dpAll_len h]
section
variable {X : Cx}
theorem call_reprD {k : Nat} (gd : X.A.guards = some []) (hr : Room k X.A) : CallR X (.builtin "repr") (rRepr X.K) := by
  intro pins s sg H xs us Q I r h
  obtain ⟨x, d, rfl, rd, sh, dp, sz, form, q⟩ := h
  obtain ⟨u, rfl, ru⟩ := vals1 r
  rcases form with ⟨a, rfl⟩ | ⟨i, rfl⟩
  · cases ru
    have un : X.A.units + (d.depth + 1) < cLine := by have := hr.un; omega
    have main : ∀ {as : List Addr}, Reads s.heap (.ref a) d as → (d.hasDict = true → sysModules ∉ as) → wpAny (model X.prog X.w) X.A (call (.builtin "repr") [.ref a]) (EP X pins sg Q) X.xe s := fun rr hs =>
      repr_of_reads' rr sh hs gd un (fun _ _ e => e) (fun h' u tk hk => ⟨.str _, H, I.kept hk, ⟨u, rfl⟩, q⟩) sz
    rcases rd with dd | ⟨b, ws, ds, e1, e2, e3, e4, e5⟩
    · obtain ⟨as, rr⟩ := Dp.reads I d _ _ dd rfl
      exact main rr fun hd => absurd hd (by rw [dp_noDict dd]; simp)
    · cases e1
      subst e5
      obtain ⟨_, hsys, vs, kv, o, es, ep, ho, hx, hdt, _, pr, _⟩ := I.hok a _ e2
      obtain ⟨g1, g2⟩ := kv_vals kv
      obtain ⟨h1, h2⟩ := pairs_reads (h := s.heap) pr
      obtain ⟨bs, rb⟩ := Dp.readsAll I ds _ _ e3 g1
      have hb := noLs_as ds _ _ e4 rb
      subst hb
      have hl : (ws.map fun p => kD p.1).length = ds.length := by rw [dpAll_len e3, List.length_map, List.length_map]
      have k1 : ((ws.map fun p => kD p.1).zip ds).map (·.1) = vs.map fun p => kD p.1 := by
        rw [List.map_fst_zip (by omega)]
        have := congrArg (List.map kD) g2
        simpa [Function.comp_def] using this
      have k2 : ((ws.map fun p => kD p.1).zip ds).map (·.2) = ds := List.map_snd_zip (by omega)
      refine main (.dict ho hx.1 hdt (by rw [k1]; exact h1) (by rw [k2, h2]; exact rb)) fun _ hm => ?_
      simp only [List.append_nil, List.mem_singleton] at hm
      rw [← hm] at hsys
      simp at hsys
  · have hd : d = .int i := by
      rcases rd with dd | ⟨_, _, _, e1, _⟩
      · cases dd; rfl
      · cases e1
    subst hd
    obtain ⟨t, rfl⟩ := ru
    exact PySem.P.repr_of_int (by simpa [PyData.showable] using sh) ⟨.str _, H, I.tok _, ⟨_, rfl⟩, q⟩
end
/-! ### the M-function -/
def rD (S : Sto) (x : MV) : Option PyData := match x with
  | .ref k => (match S.g k with
    | .dK kvs => (toDwL (fun _ => none) (kvs.map (·.2))).map fun ds => .dict ((kvs.map fun p => kD p.1).zip ds)
    | _ => toD S x)
  | _ => toD S x
def shOk (d : PyData) : Prop := d.showable = true ∧ d.depth ≤ 60 ∧ d.shown.length ≤ sizeLine
instance (d : PyData) : Decidable (shOk d) := inferInstanceAs (Decidable (_ ∧ _ ∧ _))
def isRI : MV → Bool
  | .ref _ => true
  | .tup _ => true
  | .int _ => true
  | _ => false
def reprV : List MV → Sto → Res MV
  | [x], S => if isRI x = true then (match rD S x with
    | some d => if shOk d then .ok (.str d.shown) S else .bad
    | none => .bad) else .bad
  | _, _ => .bad
mutual
theorem toDw_noL : ∀ {x : MV} {d : PyData}, toDw (fun _ => none) x = some d → noL d = true
  | .non, d, e => by cases e; rfl
  | .bl b, d, e => by cases e; rfl
  | .int b, d, e => by cases e; rfl
  | .str b, d, e => by cases e; rfl
  | .ty _, _, e => by cases e
  | .obj _, _, e => by cases e
  | .ref k, _, e => by cases e
  | .tup xs, d, e => by
    cases q : toDwL (fun _ => none) xs with
    | none => simp only [toDw, q] at e; cases e
    | some ds =>
      simp only [toDw, q, Option.map_some, Option.some.injEq] at e
      subst e
      simp only [noL]; exact toDwL_noL q
theorem toDwL_noL : ∀ {xs : List MV} {ds : List PyData}, toDwL (fun _ => none) xs = some ds → noLs ds = true
  | [], ds, e => by cases e; rfl
  | x :: xs, ds, e => by
    simp only [toDwL] at e
    split at e
    · rename_i d ds' q1 q2
      cases e
      simp only [noLs, toDw_noL q1, toDwL_noL q2, Bool.and_self]
    · cases e
end
theorem RepP.parts {K : PySem.W.Frag} {rho : Nat → Addr} {n : Nat} {H : Hp} {ka : Type} : ∀ {ps : List (ka × MV)} {ws : List (ka × V)}, RepP K rho n H ps ws → ws.map (·.1) = ps.map (·.1) ∧ RepL K rho n H (ps.map (·.2)) (ws.map (·.2))
  | [], ws, h => by rw [show ws = [] from h]; exact ⟨rfl, rfl⟩
  | p :: ps, ws, h => by
    obtain ⟨v, r, h1, h2, h3⟩ := h
    obtain ⟨h4, h5⟩ := RepP.parts h3
    subst h1
    exact ⟨by simp [h4], _, _, rfl, h2, h5⟩
theorem reprV_ok {K : PySem.W.Frag} : SndL K (rRepr K) reprV := by
  intro rho S H xs vs Q E s rx f
  unfold reprV at f
  split at f
  · rename_i x
    obtain ⟨v, h1, h2⟩ := rep1 rx
    subst h1
    split at f
    · rename_i hx
      split at f
      · rename_i d e
        split at f
        · rename_i hs
          obtain ⟨sh, dp, sz⟩ := hs
          have q : Q (.str d.shown) H := f.val s rfl
          have form : (∃ a, v = .ref a) ∨ ∃ i, v = .int i := by
            cases x with
            | ref k => exact .inl ⟨_, h2.2⟩
            | tup xs => obtain ⟨a, vs, h3, _⟩ := h2; exact .inl ⟨_, h3⟩
            | int i => exact .inr ⟨_, h2⟩
            | _ => cases hx
          refine ⟨v, d, rfl, ?_, sh, dp, sz, form, q⟩
          have both : toD S x = some d → RdD K H v d := fun e => .inl (toD_ok s h2 e)
          unfold rD at e
          split at e
          · rename_i k
            split at e
            · rename_i kvs qk
              obtain ⟨hk, ek⟩ := h2
              obtain ⟨ws, g1, g2⟩ := dK_at s hk qk
              obtain ⟨p1, p2⟩ := g2.parts
              cases z : toDwL (fun _ => none) (kvs.map (·.2)) with
              | none => rw [z] at e; cases e
              | some ds =>
                rw [z] at e
                cases e
                refine .inr ⟨_, ws, ds, ek, g1, toDwL_ok (fun _ _ _ h => by cases h) p2 z, toDwL_noL z, ?_⟩
                have := congrArg (List.map kD) p1
                simp only [List.map_map] at this
                rw [show (ws.map fun p => kD p.1) = kvs.map fun p => kD p.1 by simpa [Function.comp_def] using this]
            · exact both e
          · exact both e
        · exact f.elim
      · exact f.elim
    · exact f.elim
  · exact f.elim
end Mm
end

section
/-! ## M, part 12: enumerate of a tuple -/
namespace Mm
open PySem L2 PyProof.Rows
open PySem.AutoSeq1 (wpAny_loadPart')
theorem enum_newT (l : Addr) (items : Array Value) (ob : Obj) (hc : ob.cls = .type "tuple") (n : Nat) (hd : ob.data = .seq items n) :
    Meets (Builtin.«enumerate.__new__» ⟨[.type "enumerate", .ref l], []⟩) (fun _ R s => s.heap.get? l = some ob ∧
      R (.ok (.ret (.ref (s.heap.push { cls := .type "tuple_iterator", data := .fields #[.ref l, .int 0 0] }).objs.size)))
        { s with heap := (s.heap.push { cls := .type "tuple_iterator", data := .fields #[.ref l, .int 0 0] }).push { cls := .type "enumerate", data := .fields #[.none, .bool false, .ref s.heap.objs.size, rawInt 0, .none, .none] } }) :=
  .of_wp fun prog w A R s h => by
    obtain ⟨c, dct, dt, sl⟩ := ob
    replace hc : c = .type "tuple" := hc
    replace hd : dt = .seq items n := hd
    subst hc hd
    obtain ⟨hp, g, d, tk, os⟩ := s; obtain ⟨hl, h⟩ := h
    have hsub := sub_enumerate
    have hL : Heap.IsTuple (Shared.heap ⟨hp, g, d, tk, os⟩) l items := ⟨_, hl, rfl, n, rfl⟩
    wp_walk using wpAny_loadPart' hl
    refine wpAny_stack_any fun st => wpAny_pure ?_
    split
    · rename_i c _ _ _ _ _
      cases (c == Value.type "enumerate")
      · wp_walk using wpAny_loadPart' hl, wpAny_pyIter_tuple hL
        exact ⟨_, rfl, h⟩
      · wp_walk using wpAny_loadPart' hl, wpAny_pyIter_tuple hL
        exact ⟨_, rfl, h⟩
    · wp_walk using wpAny_loadPart' hl, wpAny_pyIter_tuple hL
      exact ⟨_, rfl, h⟩
section
variable {prog : Program} {w : World} {A : Around} {E : Value → Shared → Prop} {s : Shared}
theorem call_enumT {l : Addr} {items : Array Value} {Q : Value → Shared → Prop} (hL : s.heap.IsTuple l items)
    (h : ∀ h', IsEnum h' (s.heap.objs.size + 1) s.heap.objs.size 0 .none → h'.IsTupleIter s.heap.objs.size l 0 → (∀ b o, s.heap.get? b = some o → h'.get? b = some o) → Q (.ref (s.heap.objs.size + 1)) { s with heap := h' }) :
    wpAny (model prog w) A (call (.type "enumerate") [.ref l]) Q E s := by
  obtain ⟨ob, hl, hc, n, hd⟩ := hL
  refine callType_new F.called_enumerate (by decide) (F.typeCall_enumerate_1 _) (F.newCall_enumerate_1 _) (fun obj => F.args_object_init_2 obj _) F.entry_enumerate_new (enum_newT l items ob hc n hd) ⟨hl, ?_⟩
  generalize hi : ({ cls := .type "tuple_iterator", data := .fields #[.ref l, .int 0 0] } : Obj) = oi
  have hz : (s.heap.push oi).objs.size = s.heap.objs.size + 1 := Heap.size_push ..
  show _ ∧ _
  rw [hz]
  have he : IsEnum ((s.heap.push oi).push { cls := .type "enumerate", data := .fields #[.none, .bool false, .ref s.heap.objs.size, rawInt 0, .none, .none] }) (s.heap.objs.size + 1) s.heap.objs.size 0 .none := by
    have q := Heap.get?_push_size (s.heap.push oi) (o := { cls := .type "enumerate", data := .fields #[.none, .bool false, .ref s.heap.objs.size, rawInt 0, .none, .none] }) rfl
    rw [hz] at q; exact q
  refine ⟨⟨_, he, rfl⟩, h _ he ⟨oi, Heap.get?_push_of_some _ (Heap.get?_push_size _ (by rw [← hi]; rfl)), by rw [← hi], by rw [← hi]; rfl⟩ fun b o x => Heap.get?_push_of_some _ (Heap.get?_push_of_some _ x)⟩
end
/-- the tuple at a, its items in new pairs -/
def ItT (K : PySem.W.Frag) (a : Addr) : It :=
  ⟨fun i H => ∃ (xs : List V) (x : V), SqT K H a xs ∧ xs[i]? = some x, fun i H v H' => ∃ T x, v = .ref T ∧ H T = none ∧ H' = upd H T (.tup [.int (i : Nat), x]) ∧ ∀ xs, SqT K H a xs → xs[i]? = some x, fun i H => ∃ xs : List V, SqT K H a xs ∧ xs.length = i⟩
theorem turn_enumT {P : Program} {w : World} {K : PySem.W.Frag} {elts : List Expr} {kk : Nat} {tpos : Pos} (a e it : Addr) (nn : Nat) :
    Turn P w K (.Tuple elts kk tpos) (ItT K a) [e, it] e (fun i h => (∃ old, IsEnum h e it ((i : Nat) : Int) old) ∧ h.IsTupleIter it a i ∧ e ≠ it ∧ a ≠ it) where
  mem := by simp
  obj := fun i h st b hb => by
    obtain ⟨⟨old, he⟩, ⟨o, ho, hc, hd⟩, _⟩ := st
    rcases (show b = e ∨ b = it by simpa using hb) with z | z
    · subst z; exact ⟨_, he, fun v q => nomatch q⟩
    · subst z; exact ⟨o, ho, fun v q => by rw [hd] at q; cases q⟩
  keep := fun i h h' st k => ⟨st.1.imp fun old he => k e (by simp) _ he, st.2.1.at fun o q => k it (by simp) o q, st.2.2⟩
  item := by
    intro X hP hw hK hc i pins s σ H E I hf st hg
    subst hP hw hK
    obtain ⟨⟨old, he⟩, hit, hne, hat⟩ := st
    obtain ⟨xs, x, hq, hx⟩ := hg
    obtain ⟨its, rv, ⟨o, ho, hcl, n, hd⟩, hz⟩ := I.tuple hq
    have hT : s.heap.IsTuple a its.toArray := ⟨o, ho, hcl, n, hd⟩
    obtain ⟨u, hu, ru⟩ := rv.get hx
    have hel : e < s.heap.objs.size := Heap.lt_size he
    have hil : it < s.heap.objs.size := by obtain ⟨_, q, _⟩ := hit; exact Heap.lt_size q
    have hlt : i < its.toArray.size := by
      rw [List.size_toArray]
      exact (List.getElem?_eq_some_iff.1 hu).1
    have hea : e ≠ a := by
      rintro rfl
      have he' : s.heap.get? e = some _ := he
      rw [he'] at ho; cases ho
      injection hcl with hcl
      exact absurd hcl (by decide)
    have D := Draws.tuple (prog := X.prog) (w := X.w) (A := X.A.in1) (I.ok.hd hc) it a hat its.toArray
    refine wpAny_pyNext_enum_itemD D he ⟨hit, hT⟩ hlt hne (by simp [hne, hea]) fun x1 h' tk p ho' st' hT' hsz hk => ?_
    have hux : x1 = u := by
      have : its.toArray[i]? = some x1 := p
      rw [List.getElem?_toArray, hu] at this
      exact (Option.some.inj this).symm
    subst hux
    refine ⟨_, rfl, wpAny_letOwnedTupleGo_enum (s := { s with heap := h', toks := tk + 1 }) ho' fun h'' he' sb => ?_⟩
    have hT2 : h''.get? s.heap.objs.size = some { cls := .type "tuple", data := .seq #[.int i tk, x1] } := (sb.2 _ (Nat.ne_of_gt hel)).trans hT'
    have new : ObjOk X.prog X.w (upd H s.heap.objs.size (.tup [.int (i : Nat), x])) h'' s.heap.objs.size (.tup [.int (i : Nat), x]) :=
      ⟨by show 2 ≤ sizeLine; decide, [.int i tk, x1], .cons ⟨_, rfl⟩ (.cons ru .nil), ⟨_, hT2, rfl, _, rfl⟩⟩
    have I1 : Inv X pins σ (upd H s.heap.objs.size (.tup [.int (i : Nat), x])) { s with heap := h'', toks := tk + 1 } :=
      I.turnedNew (ch := [e, it]) (fun b ob hb q => (sb.2 b (fun z => hb (by simp [z]))).trans (hk b ob (fun z => hb (by simp [z])) (fun z => hb (by simp [z])) q)) hf (Nat.le_refl _) new
    refine ⟨.ref s.heap.objs.size, _, I1, rfl, ⟨_, x, rfl, I.hok.fresh (Nat.le_refl _), rfl, fun ys hy => by rw [I.tuple_inj hy hq]; exact hx⟩, ⟨⟨x1, ?_⟩, st'.1.at fun o q => (sb.2 it (Ne.symm hne)).trans q, hne, hat⟩, fun b hb => ?_⟩
    · rw [show ((i + 1 : Nat) : Int) = (i : Int) + 1 by omega]; exact he'
    · have hb' : b < s.heap.objs.size := by
        rcases (show b = e ∨ b = it by simpa using hb) with z | z <;> (subst z; assumption)
      rw [upd_ne (Nat.ne_of_lt hb')]
      exact (hf b hb).1
  done := by
    intro X hP hw hK hc i pins s σ H E I hf st hg
    subst hP hw hK
    obtain ⟨⟨old, he⟩, hit, hne, hat⟩ := st
    obtain ⟨xs, hq, hx⟩ := hg
    obtain ⟨its, rv, ⟨o, ho, hcl, n, hd⟩, hz⟩ := I.tuple hq
    have hT : s.heap.IsTuple a its.toArray := ⟨o, ho, hcl, n, hd⟩
    obtain ⟨f0, f1, f2, f3, f4, f5⟩ := hf it (by simp)
    have hsz : its.toArray.size = i := by rw [List.size_toArray, ← rv.length, hx]
    have D := Draws.tuple (prog := X.prog) (w := X.w) (A := X.A.in1) (I.ok.hd hc) it a hat its.toArray
    exact wpAny_pyNext_enum_endD D he (by rw [hsz]; exact ⟨hit, hT⟩) fun h' eb => ⟨rfl, I.turned (t' := s.toks) (fun b o hb q => eb b o hb q) f0 f1 f3 f4 f5⟩
  self := fun A i s Q E st h => let ⟨⟨_, he⟩, _⟩ := st; wpAny_pyIter_enum he h
def iEnumT (K : PySem.W.Frag) (ta : TA) : TI := fun σ H R => ta σ H fun vs H1 => ∃ a xs, vs = [.ref a] ∧ ((SqL K H1 a xs ∧ R (Ite K a) H1) ∨ (SqT K H1 a xs ∧ R (ItT K a) H1))
theorem pi_enumT {X : Cx} {e : Expr} {ta : TA} {p pos tpos : Pos} {elts : List Expr} {kk : Nat} (hg : Gl X "enumerate") (hm : X.mg "enumerate" = none) (ha : PA X [e] ta) (hs : starEach [e] X.env = [(false, eval e X.env)] := by rfl) :
    PI X (.Tuple elts kk tpos) (.Call (.Name "enumerate" p) [e] [] pos) (iEnumT X.K ta) := by
  constructor
  intro pins s σ H R I h
  refine Call_ (ld_blt I hg hm boot_enumerate (PyProof.Rows.callWith_type1 (thn (ha.run pos pins s σ H _ I h) fun us s1 ⟨vs, H1, I1, r1, a, xs, ex, q⟩ => ?_) hs rfl))
  subst ex
  obtain ⟨u, rfl, r⟩ := vals1 r1
  cases r
  have fp : ∀ b ∈ [s1.heap.objs.size + 1, s1.heap.objs.size], FpOk X pins H1 b := fun b hb => by
    have hle : s1.heap.objs.size ≤ b := by
      rcases (show b = s1.heap.objs.size + 1 ∨ b = s1.heap.objs.size by simpa using hb) with z | z <;> omega
    exact I1.fpOk hle (I1.hok.fresh hle)
  rcases q with ⟨hq, q⟩ | ⟨hq, q⟩
  · obtain ⟨its, rv, p', hz⟩ := I1.list hq
    exact call_enumerate_list p'.isList fun h' he hit hsz hk => wpAny_pyIter_enum he
      ⟨s1.heap.objs.size + 1, [s1.heap.objs.size + 1, s1.heap.objs.size], _, _, H1, rfl, I1.kept (t' := s1.toks) hk, turn_enum a (s1.heap.objs.size + 1) s1.heap.objs.size, ⟨⟨.none, he⟩, hit, Nat.succ_ne_self _⟩, fp, q⟩
  · obtain ⟨its, rv, ⟨o, ho, hcl, n, hd⟩, hz⟩ := I1.tuple hq
    exact call_enumT ⟨o, ho, hcl, n, hd⟩ fun h' he hit hk => wpAny_pyIter_enum he
      ⟨s1.heap.objs.size + 1, [s1.heap.objs.size + 1, s1.heap.objs.size], _, _, H1, rfl, I1.kept (t' := s1.toks) hk, turn_enumT a (s1.heap.objs.size + 1) s1.heap.objs.size 0, ⟨⟨.none, he⟩, hit, Nat.succ_ne_self _, Nat.ne_of_lt (Heap.lt_size ho)⟩, fp, q⟩
/-! ### the M-function: enumerate of a list or of a tuple -/
theorem rJ_enumT {K : PySem.W.Frag} {rho : Nat → Addr} {n : Nat} {H : Hp} {xs : List MV} {vs : List V} {a : Addr} (hq : SqT K H a vs) (r : RepL K rho n H xs vs) : rJ K rho n H ⟨prI xs, []⟩ (ItT K a) := by
  intro rho' S' H' hn hr ht s hc
  have h' := ht _ _ hq
  have r' := r.mono hn hr ht
  refine ⟨⟨vs, h', by rw [r.len]; exact (prI_len xs).symm⟩, fun i z hz => ?_⟩
  obtain ⟨x, hx, rfl⟩ := prI_get hz
  obtain ⟨v, h1, h2⟩ := r'.get hx
  refine ⟨⟨vs, v, h', h1⟩, fun v2 H2 ⟨T, y, e1, e2, e3, e4⟩ => ?_⟩
  subst e1 e3
  refine pair_new s e2 rfl ?_
  have q := e4 vs h'
  rw [h1] at q
  cases q
  exact h2
def enmO2 (S : Sto) : List MV → Option Itm
  | [.ref k] => (seqO (S.g k)).map fun xs => ⟨prI xs, [(k, xs)]⟩
  | [.tup xs] => some ⟨prI xs, []⟩
  | _ => none
def enmM2 (ml : EMt (List MV)) : EMt Itm := bindM ml fun xs => fun _ S => itmV (enmO2 S xs) S
theorem mi_enum2 {X : Cx} {W : WX} {a : Expr} {ml : EMt (List MV)} {p pos tpos : Pos} {elts : List Expr} {kk : Nat} (hg : Gl X "enumerate") (hm : X.mg "enumerate" = none) (ha : PA X [a] (tA X.K W ml)) (hs : starEach [a] X.env = [(false, eval a X.env)] := by rfl) :
    PI X (.Tuple elts kk tpos) (.Call (.Name "enumerate" p) [a] [] pos) (tI X.K W (enmM2 ml)) :=
  PI.to (pi_enumT hg hm ha hs) fun sg H R h => (tG_bind (rel := rL) h).imp fun vs H1 ⟨rho, en, S, xs, s, re, r, f⟩ => by
    obtain ⟨itm, q, k⟩ := fin_itm (al := Unit) f s
    unfold enmO2 at q
    split at q
    · obtain ⟨v, h1, hk, h2⟩ := rep1 r
      rename_i j
      cases qk : seqO (S.g j) with
      | none => rw [qk] at q; cases q
      | some ys =>
        rw [qk] at q
        cases q
        obtain ⟨ws, g1, g2⟩ := seqO_at s hk qk
        exact ⟨_, ws, by rw [h1, h2], .inl ⟨g1, k _ (rJ_enum hk)⟩⟩
    · cases q
      obtain ⟨v, h1, h2⟩ := rep1 r
      obtain ⟨a, ws, g1, g2, g3⟩ := h2
      exact ⟨a, ws, by rw [h1, g1], .inr ⟨g2, k _ (rJ_enumT g2 g3)⟩⟩
    · cases q
end Mm
end

section
/-! ## M, part 13: sorted(d.keys()) of int keys -/
namespace Mm
open PySem L2 PyProof.Rows
section
variable {X : Cx}
/-- sorted of a view of the keys at p, under 64 ints -/
theorem sorted_keys {pins : List (Addr × Obj)} {s : Shared} {sg : L2.St} {H : Hp} {Q : VK} {v d : Addr} {ws : List (Key × V)} {ks : List Int} (hcalm : X.calm = true) (I : Inv X pins sg H s) (hv : PySem.W.KdlKeysView s.heap v d) (hd : H d = some (.dK ws)) (hks : ws.map (·.1) = ks.map Sum.inl) (h64 : ks.length < 64)
    (q : ∀ (ys : List Int) (p : Addr), ys.Perm ks → ys.Pairwise (· ≤ ·) → H p = none → Q (.ref p) (upd H p (.lst (ys.map V.int)))) :
    wpAny (model X.prog X.w) X.A (call (.builtin "sorted") [.ref v]) (EP X pins sg Q) X.xe s := by
  obtain ⟨_, lo, vs, rel, dd⟩ := I.hok d _ hd
  obtain ⟨ep, at_⟩ := dd.dictAt
  obtain ⟨_, rk⟩ := kv_vals rel
  have keys : vs.map (·.1) = ks.map Sum.inl := rk.symm.trans hks
  have len : vs.length = ks.length := by simpa using congrArg List.length keys
  have fits : vs.length ≤ sizeLine := by rw [len, sizeLine_eq]; omega
  apply Calls.call_function_entry PyProof.Rows.kind_sorted PyProof.Rows.plain_sorted PyProof.Rows.entry_sorted (PyProof.Rows.args_sorted1 _)
  unfold Builtin.«sorted»
  apply wpAny_bind (m := checkCount "sorted" 1 1 _)
  apply wpAny_pure
  apply wpAny_bind
  refine PySem.W.kdu_collect (A := X.A.in1) (PySem.W.kdl_keys (r := v) (d := d) (knd := mixKind X.prog X.w) (kvs := vs) (ep := ep)) (I.ok.hd hcalm) ⟨hv, at_⟩ fits fun h2 tk2 got keep had => ?_
  have glen : got.toList.length = ks.length := by rw [Array.length_toList, had.1, len]
  have allInt : IntsAre got.toList ks := ints_each glen fun j u e => by
    obtain ⟨key, x, e1, e2⟩ := had.2 j u (by rw [← Array.getElem?_toList]; exact e)
    have e3 : (ks.map (Sum.inl (β := Str)))[j]? = some key := by rw [← keys, List.getElem?_map, e1]; rfl
    rw [List.getElem?_map] at e3
    obtain ⟨y, e4, e5⟩ := Option.map_eq_some_iff.1 e3
    cases e5
    rcases keyIs_shape (show keyIs (Sum.inl y) u = true from e2) with ⟨i, t, ek, ev⟩ | ⟨_, _, ek, _⟩
    · cases ek; exact ⟨y, t, e4, ev⟩
    · cases ek
  have I2 : Inv X pins sg H { s with heap := h2, toks := tk2 } := I.kept keep
  apply wpAny_bind
  refine wpAny_newList ?_ (by rw [glen, sizeLine_eq]; omega)
  have at2 : (h2.push (seqObj "list" got.toList.toArray 0)).get? h2.objs.size = some (seqObj "list" got.toList.toArray 0) := Heap.get?_push_size _ rfl
  show wpAny _ _ _ _ _ { s with toks := tk2, heap := h2.push (seqObj "list" got.toList.toArray 0) }
  apply wpAny_bind
  apply wpAny_holding
  refine wpAny_call_entry PyProof.Rows.slot_list_sort ⟨_, at2, rfl⟩ PyProof.Rows.entry_list_sort (PyProof.Rows.list_sort_tree (s := { s with heap := h2.push (seqObj "list" got.toList.toArray 0), toks := tk2 }) at2 allInt (by rw [glen]; exact h64) fun out ys g1 g2 g3 => ⟨_, rfl, ?_⟩) (PyProof.Rows.args_list_sort _)
  obtain ⟨n2, at3⟩ := PyProof.Rows.sortedHeap_at (vs := got.toList) (out := out) at2
  have small : (ys.map V.int).length ≤ sizeLine := by
    rw [List.length_map, g2.length_eq, sizeLine_eq]; omega
  have new : ObjOk X.prog X.w (upd H h2.objs.size (.lst (ys.map V.int))) _ h2.objs.size (.lst (ys.map V.int)) := ⟨small, out.toList, n2, vals_of_ints g1, by rw [Array.toArray_toList]; exact at3⟩
  refine wpAny_pure ⟨_, rfl, .ref h2.objs.size, _, I2.laid (t' := tk2) (fun b u e => ?_) (Nat.le_refl _) new, rfl, q ys _ g2 g3 (I2.hok.fresh (Nat.le_refl _))⟩
  have lt := Heap.lt_size e
  rw [PyProof.Rows.sortedHeap_old (Nat.ne_of_lt lt) (by rw [size_push']; exact Nat.lt_succ_of_lt lt)]
  exact Heap.get?_push_of_some _ e
def tSortK (td : TE) : TE := fun sg H Q => td sg H fun x H1 => ∃ (d : Addr) (ws : List (Key × V)) (ks : List Int), x = .ref d ∧ H1 d = some (.dK ws) ∧ ws.map (·.1) = ks.map Sum.inl ∧ ks.length < 64 ∧ ∀ (ys : List Int) (p : Addr), ys.Perm ks → ys.Pairwise (· ≤ ·) → H1 p = none → Q (.ref p) (upd H1 p (.lst (ys.map V.int)))
theorem pe_sortK {e : Expr} {td : TE} {apos cpos p pos : Pos} (hc : X.calm = true) (hg : Gl X "sorted") (hm : X.mg "sorted" = none) (hv : bootBuiltins "sorted" = some (.builtin "sorted")) (he : PE X e td) (hbase : attributeBase e "keys" X.env (eval e X.env) = eval e X.env := by rfl) (hline : (apos.endLine == cpos.line) = true := by rfl)
    (hst : starEach [.Call (.Attribute e "keys" apos) [] [] cpos] X.env = (false, eval (.Call (.Attribute e "keys" apos) [] [] cpos) X.env) :: starEach [] X.env := by rfl) (hpl : (backTo pos (starEach [] X.env)).any (·.1) = false := by rfl) :
    PE X (.Call (.Name "sorted" p) [.Call (.Attribute e "keys" apos) [] [] cpos] [] pos) (tSortK td) := by
  constructor
  intro pins s sg H Q I h
  apply wpAny_Call_Name_kw
  apply ld_blt I hg hm hv _ (by decide) (by decide)
  refine PyProof.Rows.callWith_builtin1 ?_ hst hpl
  rw [hst]
  show wpAny _ _ (spliced ((false, eval (.Call (.Attribute e "keys" apos) [] [] cpos) X.env) :: backTo pos (starEach [] X.env))) _ _ s
  apply Calls.spliced_cons
  apply wpAny_Call_method (T := "dict") (id := "dict.keys") hbase rfl hline F.plainAttrs_dict F.slot_dict_keys F.type_dict_keys
  refine thn (he.run pins s sg H _ I h) ?_
  rintro u s1 ⟨x, H1, I1, rx, d, ws, ks, rfl, hd, hk, h64, q⟩
  cases (show u = Value.ref d from rx)
  obtain ⟨_, lo, vs, rel, dd⟩ := I1.hok d _ hd
  refine ⟨dd.typeIs, dd.mapOf.noDict, ?_⟩
  have view := I1.kept (h' := s1.heap.push { cls := .type "dict_keys", data := .fields #[.ref d] }) (t' := s1.toks) fun b ob z => Heap.get?_push_of_some _ z
  have fin : wpAny (model X.prog X.w) X.A (spliced (backTo pos (starEach [] X.env))) (fun vs s2 => wpAny (model X.prog X.w) X.A (call (.builtin "sorted") (.ref s1.heap.objs.size :: vs)) (EP X pins sg Q) X.xe s2) X.xe { s1 with heap := s1.heap.push { cls := .type "dict_keys", data := .fields #[.ref d] } } := by
    apply Calls.spliced_nil
    exact sorted_keys hc view ⟨_, Heap.get?_push_size _ rfl, rfl, rfl⟩ hd hk h64 q
  show wpAny _ _ (callWith cpos (.builtin "dict.keys") [.ref d] [] []) _ X.xe s1
  exact method_meetsIn F.slot_dict_keys F.entry_dict_keys rfl (PySem.evalArgs_none ⟨rfl, dd.typeIs, F.args_dict_keys_1 _, _, PySem.W.kdl_meets_keys (mixKind X.prog X.w) d lo, ⟨vs, dd⟩, fin⟩)
end
end Mm
namespace Mm
open PySem L2 PyProof.Rows
def sortI (l : List Int) : List Int := l.mergeSort
theorem sortI_eq {l ys : List Int} (h : ys.Perm l) (s : ys.Pairwise (· ≤ ·)) : ys = sortI l := by
  have h2 : (sortI l).Pairwise (· ≤ ·) := (List.pairwise_mergeSort (le := fun a b => decide (a ≤ b)) (fun a b c h1 h2 => by simp only [decide_eq_true_eq] at *; omega) (fun a b => by simp only [Bool.or_eq_true, decide_eq_true_eq]; omega) l).imp fun h => of_decide_eq_true h
  exact List.Perm.eq_of_pairwise (le := fun a b => a ≤ b) (fun a b _ _ h1 h2 => Int.le_antisymm h1 h2) s h2 (h.trans (List.mergeSort_perm l _).symm)
theorem sortI_perm (l : List Int) : (sortI l).Perm l := List.mergeSort_perm l _
def keysI : List (Key × MV) → Option (List Int)
  | [] => some []
  | (.inl i, _) :: r => (keysI r).map (i :: ·)
  | (.inr _, _) :: _ => none
theorem keysI_eq : ∀ {kvs : List (Key × MV)} {ks : List Int}, keysI kvs = some ks → kvs.map (·.1) = ks.map Sum.inl
  | [], ks, e => by cases e; rfl
  | (.inl i, x) :: r, ks, e => by
    simp only [keysI, Option.map_eq_some_iff] at e
    obtain ⟨ks', e1, rfl⟩ := e
    simp [keysI_eq e1]
  | (.inr _, _) :: _, _, e => by cases e
def sortKV (x : MV) (S : Sto) : Res MV := match x with
  | .ref k => (match S.g k with
    | .dK kvs => (match keysI kvs with
      | some ks => if ks.length < 64 then .ok (.ref S.n) (S.add (.lst ((sortI ks).map .int))) else .bad
      | none => .bad)
    | _ => .bad)
  | _ => .bad
theorem mp_sortK {X : Cx} {W : WX} {m : EM} {e : Expr} {apos cpos p pos : Pos} (hc : X.calm = true) (hg : Gl X "sorted") (hm : X.mg "sorted" = none) (hv : bootBuiltins "sorted" = some (.builtin "sorted")) (he : PE X e (tM X.K W m)) (hbase : attributeBase e "keys" X.env (eval e X.env) = eval e X.env := by rfl) (hline : (apos.endLine == cpos.line) = true := by rfl)
    (hst : starEach [.Call (.Attribute e "keys" apos) [] [] cpos] X.env = (false, eval (.Call (.Attribute e "keys" apos) [] [] cpos) X.env) :: starEach [] X.env := by rfl) (hpl : (backTo pos (starEach [] X.env)).any (·.1) = false := by rfl) :
    PE X (.Call (.Name "sorted" p) [.Call (.Attribute e "keys" apos) [] [] cpos] [] pos) (tM X.K W (op1 sortKV m)) :=
  PE.to (pe_sortK hc hg hm hv he hbase hline hst hpl) fun sg H Q h => (tG_bind (rel := rV) h).imp fun v H1 ⟨rho, en, S, x, s, re, r, f⟩ => by
    unfold sortKV at f
    split at f
    · rename_i k
      obtain ⟨hk, ek⟩ := r
      split at f
      · rename_i kvs qk
        split at f
        · rename_i ks e1
          split at f
          · rename_i h64
            obtain ⟨ws, g1, g2⟩ := dK_at s hk qk
            refine ⟨_, ws, ks, ek, g1, g2.parts.1.trans (keysI_eq e1), h64, fun ys p hp1 hp2 hp => ?_⟩
            have := sortI_eq hp1 hp2
            subst this
            exact f.lst s (repL_ints _) hp
          · exact f.elim
        · exact f.elim
      · exact f.elim
    · exact f.elim
/-! max of a list -/
def maxI : List Int → Option Int
  | [] => none
  | [a] => some a
  | a :: r => (maxI r).map fun m => if m > a then m else a
theorem maxI_uniq : ∀ {l : List Int} {m M : Int}, maxI l = some M → m ∈ l → (∀ y ∈ l, y ≤ m) → m = M
  | [], _, _, e, _, _ => by cases e
  | [a], m, M, e, h, _ => by cases e; exact List.mem_singleton.1 h
  | a :: b :: r, m, M, e, h, hm => by
    simp only [maxI, Option.map_eq_some_iff] at e
    obtain ⟨x, e1, rfl⟩ := e
    have key : x ∈ b :: r ∧ ∀ y ∈ b :: r, y ≤ x := by
      clear h hm
      have : ∀ {l : List Int} {M : Int}, maxI l = some M → M ∈ l ∧ ∀ y ∈ l, y ≤ M := by
        intro l
        induction l with
        | nil => intro M e; cases e
        | cons a l ih =>
          intro M e
          cases l with
          | nil => cases e; exact ⟨List.mem_singleton.2 rfl, fun y hy => by rw [List.mem_singleton.1 hy]; exact Int.le_refl _⟩
          | cons b r =>
            simp only [maxI, Option.map_eq_some_iff] at e
            obtain ⟨x, e1, rfl⟩ := e
            obtain ⟨h1, h2⟩ := ih e1
            split
            · exact ⟨List.mem_cons_of_mem _ h1, fun y hy => by
                rcases List.mem_cons.1 hy with rfl | hy
                · omega
                · exact h2 y hy⟩
            · exact ⟨List.mem_cons_self, fun y hy => by
                rcases List.mem_cons.1 hy with rfl | hy
                · omega
                · have := h2 y hy; omega⟩
      exact this e1
    obtain ⟨k1, k2⟩ := key
    have m1 := hm a List.mem_cons_self
    have m2 := hm x (List.mem_cons_of_mem _ k1)
    rcases List.mem_cons.1 h with rfl | h
    · split <;> omega
    · have := k2 m h
      split <;> omega
def intsOf : List MV → Option (List Int)
  | [] => some []
  | .int i :: r => (intsOf r).map (i :: ·)
  | _ :: _ => none
theorem intsOf_eq : ∀ {xs : List MV} {ks : List Int}, intsOf xs = some ks → xs = ks.map .int
  | [], ks, e => by cases e; rfl
  | x :: r, ks, e => by
    cases x with
    | int i =>
      simp only [intsOf, Option.map_eq_some_iff] at e
      obtain ⟨ks', e1, rfl⟩ := e
      rw [intsOf_eq e1]; rfl
    | _ => cases e
theorem repL_ints_eq {K : PySem.W.Frag} {rho : Nat → Addr} {n : Nat} {H : Hp} : ∀ {ns : List Int} {vs : List V}, RepL K rho n H (ns.map .int) vs → vs = ns.map V.int
  | [], vs, h => h
  | i :: ns, vs, h => by
    obtain ⟨v, r, h1, h2, h3⟩ := h
    rw [h1, show v = .int i from h2, repL_ints_eq h3]; rfl
def maxLV : List MV → Sto → Res MV
  | [.ref k], S => (match seqO (S.g k) with
    | some xs => (match intsOf xs with
      | some ns => (match maxI ns with
        | some m => .ok (.int m) S
        | none => .bad)
      | none => .bad)
    | none => .bad)
  | _, _ => .bad
theorem maxLV_ok {K : PySem.W.Frag} : SndL K (rMax K) maxLV := by
  intro rho S H xs vs Q E s rx f
  unfold maxLV at f
  split at f
  · obtain ⟨v, h1, hk, ek⟩ := rep1 rx
    split at f
    · rename_i ys qk
      split at f
      · rename_i ns e1
        split at f
        · rename_i m e2
          obtain ⟨ws, g1, g2⟩ := seqO_at s hk qk
          rw [intsOf_eq e1] at g2
          rw [repL_ints_eq g2] at g1
          refine ⟨_, ns, by rw [h1, ek], g1, ?_, fun m' hm hy => ?_⟩
          · cases ns with
            | nil => cases e2
            | cons a l => exact Nat.succ_pos _
          · rw [maxI_uniq e2 hm hy]; exact f.val s rfl
        · exact f.elim
      · exact f.elim
    · exact f.elim
  · exact f.elim
end Mm
end

section
/-! ## P, part 1: reasoning about M-functions: weakest preconditions -/
namespace Mm
open PySem L2
def Ret {al : Type} (r : Res al) (Q : al → Sto → Prop) : Prop := match r with
  | .ok x S => Q x S
  | _ => False
structure Kt where
  rt : MV → Sto → Prop
  bk : Sl → Sto → Prop := fun _ _ => False
  ct : Sl → Sto → Prop := fun _ _ => False
def RetS (r : SR) (nx : Sl → Sto → Prop) (k : Kt) : Prop := match r with
  | .nx e S => nx e S
  | .ret x S => k.rt x S
  | .brk e S => k.bk e S
  | .ct e S => k.ct e S
  | _ => False
section
variable {al be : Type} {e : Sl} {S : Sto} {x y z : MV} {m ma mb mc : EM} {ml : EMt (List MV)} {nx : Sl → Sto → Prop} {k : Kt}
theorem Ret.imp {r : Res al} {Q Q' : al → Sto → Prop} (h : Ret r Q) (i : ∀ x S, Q x S → Q' x S) : Ret r Q' := by
  cases r with
  | ok x S => exact i x S h
  | exc => exact h
  | bad => exact h
theorem Ret.eq {r : Res al} {Q : al → Sto → Prop} (h : Ret r Q) : ∃ x S, r = .ok x S ∧ Q x S := by
  cases r with
  | ok x S => exact ⟨x, S, rfl, h⟩
  | exc => exact h.elim
  | bad => exact h.elim
theorem RetS.imp {r : SR} {k k' : Kt} {nx nx' : Sl → Sto → Prop} (h : RetS r nx k) (i1 : ∀ e S, nx e S → nx' e S) (i2 : ∀ x S, k.rt x S → k'.rt x S) (i3 : ∀ e S, k.bk e S → k'.bk e S) (i4 : ∀ e S, k.ct e S → k'.ct e S) : RetS r nx' k' := by
  cases r with
  | nx e S => exact i1 _ _ h
  | ret x S => exact i2 _ _ h
  | brk e S => exact i3 _ _ h
  | ct e S => exact i4 _ _ h
  | exc => exact h
  | bad => exact h
theorem w_ok {Q : al → Sto → Prop} {x : al} (h : Q x S) : Ret (.ok x S) Q := h
theorem w_bind {m : EMt al} {f : al → EMt be} {Q : be → Sto → Prop} (h : Ret (m e S) fun x S' => Ret (f x e S') Q) : Ret (bindM m f e S) Q := by
  unfold bindM
  cases q : m e S with
  | ok x S' => rw [q] at h; exact h
  | exc => rw [q] at h; exact h
  | bad => rw [q] at h; exact h
theorem w_var {i : Nat} {Q : MV → Sto → Prop} (h : e[i]? = some (some x)) (q : Q x S) : Ret (varM i e S) Q := by unfold varM; rw [h]; exact q
theorem w_con {Q : MV → Sto → Prop} (q : Q x S) : Ret (conM x e S) Q := q
theorem w_op2 {g : MV → MV → Sto → Res MV} {Q : MV → Sto → Prop} (h : Ret (ma e S) fun x S1 => Ret (mb e S1) fun y S2 => Ret (g x y S2) Q) : Ret (op2 g ma mb e S) Q := w_bind (h.imp fun _ _ h => w_bind h)
theorem w_op1 {g : MV → Sto → Res MV} {Q : MV → Sto → Prop} (h : Ret (ma e S) fun x S1 => Ret (g x S1) Q) : Ret (op1 g ma e S) Q := w_bind h
theorem w_opL {g : List MV → Sto → Res MV} {Q : MV → Sto → Prop} (h : Ret (ml e S) fun x S1 => Ret (g x S1) Q) : Ret (opL g ml e S) Q := w_bind h
theorem w_nil {Q : List MV → Sto → Prop} (q : Q [] S) : Ret (nilM e S) Q := q
theorem w_cons {Q : List MV → Sto → Prop} (h : Ret (ma e S) fun x S1 => Ret (ml e S1) fun xs S2 => Q (x :: xs) S2) : Ret (consM ma ml e S) Q := w_bind (h.imp fun _ _ h => w_bind h)
theorem w_tupV {xs : List MV} {Q : MV → Sto → Prop} (h : xs.length ≤ sizeLine) (q : Q (.tup xs) S) : Ret (tupV xs S) Q := by unfold tupV; rw [if_pos h]; exact q
theorem w_lstV {xs : List MV} {Q : MV → Sto → Prop} (h : xs.length ≤ sizeLine) (q : Q (.ref S.n) (S.add (.lst xs))) : Ret (lstV xs S) Q := by unfold lstV; rw [if_pos h]; exact q
theorem w_dNewK {Q : MV → Sto → Prop} (q : Q (.ref S.n) (S.add (.dK []))) : Ret (dNewK e S) Q := q
theorem w_dNewT {Q : MV → Sto → Prop} (q : Q (.ref S.n) (S.add (.dT []))) : Ret (dNewT e S) Q := q
/-! operations on numbers -/
variable {i j : Int} {Q : MV → Sto → Prop}
theorem w_add (q : Q (.int (i + j)) S) : Ret (addV (.int i) (.int j) S) Q := q
theorem w_adds {a b : Str} (h : a.length + b.length ≤ sizeLine) (q : Q (.str (a ++ b)) S) : Ret (addV (.str a) (.str b) S) Q := by
  show Ret (if a.length + b.length ≤ sizeLine then _ else _) Q
  rw [if_pos h]; exact q
theorem w_addt {a b : List MV} (h : a.length + b.length ≤ sizeLine) (q : Q (.tup (a ++ b)) S) : Ret (addV (.tup a) (.tup b) S) Q := by
  show Ret (if a.length + b.length ≤ sizeLine then _ else _) Q
  rw [if_pos h]; exact q
theorem w_addl {a b : Nat} {xs ys : List MV} (ha : S.g a = .lst xs) (hb : S.g b = .lst ys) (h : xs.length + ys.length ≤ sizeLine) (q : Q (.ref S.n) (S.add (.lst (xs ++ ys)))) : Ret (addV (.ref a) (.ref b) S) Q := by
  show Ret (match S.g a, S.g b with | .lst xs, .lst ys => _ | _, _ => _) Q
  rw [ha, hb]
  show Ret (if xs.length + ys.length ≤ sizeLine then _ else _) Q
  rw [if_pos h]; exact q
theorem w_sub (q : Q (.int (i - j)) S) : Ret (subV (.int i) (.int j) S) Q := q
theorem mulOk_l (h : -(2 ^ 64) < i ∧ i < 2 ^ 64) : MulOk i j := .inl (.inl h)
theorem mulOk_r (h : -(2 ^ 64) < j ∧ j < 2 ^ 64) : MulOk i j := .inl (.inr h)
theorem w_mul (h : MulOk i j) (q : Q (.int (i * j)) S) : Ret (mulV (.int i) (.int j) S) Q := by
  unfold mulV
  simp only
  rw [if_pos h]; exact q
theorem w_div (h : 0 < j) (h2 : j.natAbs.log2 < 9000) (q : Q (.int (i / j)) S) : Ret (divV (.int i) (.int j) S) Q := by
  show Ret (if 0 < j ∧ j.natAbs.log2 < 9000 then _ else _) Q
  rw [if_pos ⟨h, h2⟩]; exact q
theorem w_mod (h : 0 < j) (q : Q (.int (i % j)) S) : Ret (modV (.int i) (.int j) S) Q := by
  show Ret (if 0 < j then _ else _) Q
  rw [if_pos h]; exact q
theorem w_pow (h : 0 ≤ j ∧ j ≤ 1000000 ∧ i.natAbs < 2 ^ 64) (q : Q (.int (i ^ j.toNat)) S) : Ret (powV (.int i) (.int j) S) Q := by
  show Ret (if 0 ≤ j ∧ j ≤ 1000000 ∧ i.natAbs < 2 ^ 64 then _ else _) Q
  rw [if_pos h]; exact q
theorem w_neg (q : Q (.int (-i)) S) : Ret (negV (.int i) S) Q := q
theorem w_lt (q : Q (.bl (decide (i < j))) S) : Ret (ltV (.int i) (.int j) S) Q := q
theorem w_le (q : Q (.bl (decide (i ≤ j))) S) : Ret (leV (.int i) (.int j) S) Q := q
theorem w_gt (q : Q (.bl (decide (j < i))) S) : Ret (gtV (.int i) (.int j) S) Q := q
theorem w_ge (q : Q (.bl (decide (j ≤ i))) S) : Ret (geV (.int i) (.int j) S) Q := q
theorem w_isN (q : Q (.bl (isNon x)) S) : Ret (isNV x .non S) Q := by cases x <;> exact q
theorem w_notN (q : Q (.bl (!isNon x)) S) : Ret (notNV x .non S) Q := by cases x <;> exact q
theorem sh_int (i : Int) : SeqAt.shaped (.int i) = true := rfl
theorem sh_str {s : Str} (h : PyData.strOk s = true) : SeqAt.shaped (.str s) = true := by simp [SeqAt.shaped, PyData.canLay0, PyData.depth, h]
theorem sh_bool (b : Bool) : SeqAt.shaped (.bool b) = true := rfl
theorem w_eqi (q : Q (.bl (decide (i = j))) S) : Ret (eqV (.int i) (.int j) S) Q := by
  have e0 : eqV (.int i) (.int j) S = .ok (.bl (PyData.eqv (.int i) (.int j))) S := by
    simp only [eqV, neV, toD, toDw]
    rw [if_pos (Or.inl ⟨sh_int i, sh_int j⟩)]
  rw [e0]
  show Q (.bl (i == j)) S
  rw [Bool.beq_eq_decide_eq]; exact q
theorem w_nei (q : Q (.bl (decide (i ≠ j))) S) : Ret (neV (.int i) (.int j) S) Q := by
  have e0 : neV (.int i) (.int j) S = .ok (.bl (!PyData.eqv (.int i) (.int j))) S := by
    simp only [eqV, neV, toD, toDw]
    rw [if_pos (Or.inl ⟨sh_int i, sh_int j⟩)]
  rw [e0]
  show Q (.bl (!(i == j))) S
  have : (!(i == j)) = decide (i ≠ j) := by by_cases h : i = j <;> simp [h]
  rw [this]; exact q
theorem w_eqs {a b : Str} (q : Q (.bl (decide (a = b))) S) : Ret (eqV (.str a) (.str b) S) Q := by
  have e0 : eqV (.str a) (.str b) S = .ok (.bl (PyData.eqv (.str a) (.str b))) S := if_pos (.inr rfl)
  rw [e0]
  show Q (.bl (a == b)) S
  have : (a == b) = decide (a = b) := by by_cases h : a = b <;> simp [h]
  rw [this]; exact q
theorem w_nes {a b : Str} (q : Q (.bl (decide (a ≠ b))) S) : Ret (neV (.str a) (.str b) S) Q := by
  have e0 : neV (.str a) (.str b) S = .ok (.bl (!PyData.eqv (.str a) (.str b))) S := if_pos (.inr rfl)
  rw [e0]
  show Q (.bl (!(a == b))) S
  have : (!(a == b)) = decide (a ≠ b) := by by_cases h : a = b <;> simp [h]
  rw [this]; exact q
/-! items -/
theorem w_idxT {xs : List MV} (h : atI xs i = some x) (q : Q x S) : Ret (idxV (.tup xs) (.int i) S) Q := by
  show Ret (optV (atI xs i) S) Q
  rw [h]; exact q
theorem w_idxL {a : Nat} {xs : List MV} (hS : S.g a = .lst xs) (h : atI xs i = some x) (q : Q x S) : Ret (idxV (.ref a) (.int i) S) Q := by
  simp only [idxV, hS, h]; exact q
theorem w_idxC {a : Nat} {xs : List MV} (hS : S.g a = .con xs) (h : atI xs i = some x) (q : Q x S) : Ret (idxV (.ref a) (.int i) S) Q := by
  simp only [idxV, hS, h]; exact q
theorem w_idxK {a : Nat} {kvs : List (Key × MV)} {key : Key} (hS : S.g a = .dK kvs) (hk : toK y = some key) (h : valM kvs key = some x) (q : Q x S) : Ret (idxV (.ref a) y S) Q := by
  simp only [idxV, hS, hk, h]; exact q
theorem atI_nn {al : Type} {xs : List al} {i : Int} {x : al} (h : 0 ≤ i) (hx : xs[i.toNat]? = some x) : atI xs i = some x := by
  obtain ⟨n, rfl⟩ := Int.eq_ofNat_of_zero_le h
  exact atI_nat (by simpa using hx)
theorem atI0 {al : Type} {x : al} {xs : List al} : atI (x :: xs) 0 = some x := atI_nn (by decide) rfl
theorem atI1 {al : Type} {x y : al} {xs : List al} : atI (x :: y :: xs) 1 = some y := atI_nn (by decide) rfl
theorem atI2 {al : Type} {x y z : al} {xs : List al} : atI (x :: y :: z :: xs) 2 = some z := atI_nn (by decide) rfl
theorem atIl {al : Type} {x : al} {xs : List al} : atI (xs ++ [x]) (-1) = some x := by
  unfold atI ixN
  rw [if_neg (by decide), if_pos (by simp; omega)]
  simp only [Option.bind_some, List.length_append, List.length_singleton]
  rw [show (-1 + ((xs.length + 1 : Nat) : Int)).toNat = xs.length by omega]
  simp
/-! len, tuple(..), list(..), int(..) .. -/
theorem w_lenT {xs : List MV} (q : Q (.int xs.length) S) : Ret (lenV [.tup xs] S) Q := q
theorem w_lenL {a : Nat} {xs : List MV} (hS : S.g a = .lst xs) (q : Q (.int xs.length) S) : Ret (lenV [.ref a] S) Q := by
  simp only [lenV, lenO, hS]; exact q
theorem w_lenC {a : Nat} {xs : List MV} (hS : S.g a = .con xs) (q : Q (.int xs.length) S) : Ret (lenV [.ref a] S) Q := by
  simp only [lenV, lenO, hS]; exact q
theorem w_lenK {a : Nat} {xs : List (Key × MV)} (hS : S.g a = .dK xs) (q : Q (.int xs.length) S) : Ret (lenV [.ref a] S) Q := by
  simp only [lenV, lenO, hS]; exact q
theorem w_lenS {a : Str} (h : a.length ≤ sizeLine) (q : Q (.int a.length) S) : Ret (lenV [.str a] S) Q := by
  simp only [lenV, lenO, if_pos h]; exact q
theorem w_int (q : Q (.int i) S) : Ret (intV [.int i] S) Q := q
theorem w_abs (q : Q (.int (if i < 0 then -i else i)) S) : Ret (absVl [.int i] S) Q := q
theorem w_min (q : Q (.int (if j < i then j else i)) S) : Ret (minVl [.int i, .int j] S) Q := q
theorem w_max (q : Q (.int (if j > i then j else i)) S) : Ret (maxVl [.int i, .int j] S) Q := q
theorem w_tupT {xs : List MV} (q : Q (.tup xs) S) : Ret (tupOf [.tup xs] S) Q := q
theorem w_tupL {a : Nat} {xs : List MV} (hS : S.g a = .lst xs) (q : Q (.tup xs) S) : Ret (tupOf [.ref a] S) Q := by
  simp only [tupOf, seqO, hS]; exact q
theorem w_lstT {xs : List MV} (q : Q (.ref S.n) (S.add (.lst xs))) : Ret (lstOf [.tup xs] S) Q := q
theorem w_lstL {a : Nat} {xs : List MV} (hS : S.g a = .lst xs) (q : Q (.ref S.n) (S.add (.lst xs))) : Ret (lstOf [.ref a] S) Q := by
  simp only [lstOf, seqO, hS]; exact q
/-! slices -/
theorem w_slc {mo : EM} {ml' mh : Option EM} (h : Ret (mo e S) fun x S1 => Ret (prtM ml' e S1) fun l S2 => Ret (prtM mh e S2) fun u S3 => Ret (cutSV x l u S3) Q) : Ret (slcM mo ml' mh e S) Q :=
  w_bind (h.imp fun _ _ h => w_bind (h.imp fun _ _ h => w_bind h))
theorem w_pno {Q : Option Int → Sto → Prop} (q : Q none S) : Ret (prtM none e S) Q := q
theorem w_pso {Q : Option Int → Sto → Prop} (h : Ret (m e S) fun x S1 => ∃ i, x = .int i ∧ Q (some i) S1) : Ret (prtM (some m) e S) Q := by
  unfold prtM
  refine w_bind (h.imp fun x S1 ⟨i, h1, h2⟩ => ?_)
  subst h1; exact h2
theorem w_cutT {xs : List MV} {l u : Option Int} (q : Q (.tup (cutM xs l u)) S) : Ret (cutSV (.tup xs) l u S) Q := q
theorem w_cutL {a : Nat} {xs : List MV} {l u : Option Int} (hS : S.g a = .lst xs) (q : Q (.ref S.n) (S.add (.lst (cutM xs l u)))) : Ret (cutSV (.ref a) l u S) Q := by
  simp only [cutSV, seqO, hS]; exact q
theorem w_revL {a : Nat} {xs : List MV} (hS : S.g a = .lst xs) (q : Q (.ref S.n) (S.add (.lst xs.reverse))) : Ret (revLV (.ref a) S) Q := by
  simp only [revLV, seqO, hS]; exact q
/-! in -/
theorem w_in {b : Bool} (h : inO x y S = some b) (q : Q (.bl b) S) : Ret (inVv x y S) Q := by unfold inVv; rw [h]; exact q
theorem w_nin {b : Bool} (h : inO x y S = some b) (q : Q (.bl (!b)) S) : Ret (notInV x y S) Q := by unfold notInV; rw [h]; exact q
theorem w_isi {n t : String} {b : Bool} (h1 : tyN x S = some n) (h2 : kitB n t = some b) (q : Q (.bl b) S) : Ret (isiV [x, .ty t] S) Q := by
  simp only [isiV, h1, h2]; exact q
/-! methods -/
theorem w_bm {T : String} {g : MV → List MV → Sto → Res MV} (h : Ret (ma e S) fun x S1 => tyOk T x S1 = true ∧ Ret (ml e S1) fun xs S2 => Ret (g x xs S2) Q) : Ret (bmM T g ma ml e S) Q :=
  w_bind (h.imp fun x S1 ⟨h1, h2⟩ => by
    show Ret (if tyOk T x S1 = true then _ else _) Q
    rw [if_pos h1]; exact w_bind h2)
theorem ty_lst {a : Nat} {xs : List MV} (hS : S.g a = .lst xs) : tyOk "list" (.ref a) S = true := by simp only [tyOk, hS]; rfl
theorem w_append {a : Nat} {xs : List MV} (hS : S.g a = .lst xs) (h : xs.length < sizeLine) (q : Q .non (S.put a (.lst (xs ++ [y])))) : Ret (appendV (.ref a) [y] S) Q := by
  simp only [appendV, hS, if_pos h]; exact q
theorem w_extend {a b : Nat} {xs ys : List MV} (hS : S.g a = .lst xs) (hb : S.g b = .lst ys) (h : xs.length + ys.length ≤ sizeLine) (q : Q .non (S.put a (.lst (xs ++ ys)))) : Ret (extendV (.ref a) [.ref b] S) Q := by
  simp only [extendV, hS, hb, if_pos h]; exact q
theorem w_pop {a : Nat} {xs : List MV} (hS : S.g a = .lst xs) (h : xs[xs.length - 1]? = some y) (q : Q y (S.put a (.lst xs.dropLast))) : Ret (popV (.ref a) [] S) Q := by
  simp only [popV, hS, h]; exact q
/-! tests -/
variable {QB : Bool → Sto → Prop} {ta tb : EMt Bool}
theorem w_tru (h : Ret (m e S) fun x S1 => Ret (truV x S1) QB) : Ret (truM m e S) QB := w_bind h
theorem w_blM (h : Ret (m e S) fun x S1 => ∃ b, x = .bl b ∧ QB b S1) : Ret (blM m e S) QB := w_bind (h.imp fun x S1 ⟨b, h1, h2⟩ => by subst h1; exact h2)
theorem w_truB {b : Bool} (q : QB b S) : Ret (truV (.bl b) S) QB := q
theorem w_truI (q : QB (i != 0) S) : Ret (truV (.int i) S) QB := q
theorem w_truN (q : QB false S) : Ret (truV .non S) QB := q
theorem w_truT {xs : List MV} (q : QB (!xs.isEmpty) S) : Ret (truV (.tup xs) S) QB := q
theorem w_truL {a : Nat} {xs : List MV} (hS : S.g a = .lst xs) (q : QB (!xs.isEmpty) S) : Ret (truV (.ref a) S) QB := by
  simp only [truV, truO, hS]; exact q
theorem w_andB (h : Ret (ta e S) fun b S1 => (b = true → Ret (tb e S1) QB) ∧ (b = false → QB false S1)) : Ret (andB ta tb e S) QB := w_bind (h.imp fun b S1 ⟨h1, h2⟩ => by
  cases b with
  | true => exact h1 rfl
  | false => exact h2 rfl)
theorem w_orB (h : Ret (ta e S) fun b S1 => (b = true → QB true S1) ∧ (b = false → Ret (tb e S1) QB)) : Ret (orB ta tb e S) QB := w_bind (h.imp fun b S1 ⟨h1, h2⟩ => by
  cases b with
  | true => exact h1 rfl
  | false => exact h2 rfl)
theorem w_notB (h : Ret (ta e S) fun b S1 => QB (!b) S1) : Ret (notB ta e S) QB := w_bind h
theorem w_ifV (h : Ret (ta e S) fun b S1 => (b = true → Ret (ma e S1) Q) ∧ (b = false → Ret (mb e S1) Q)) : Ret (ifV ta ma mb e S) Q := w_bind (h.imp fun b S1 ⟨h1, h2⟩ => by
  cases b with
  | true => exact h1 rfl
  | false => exact h2 rfl)
theorem w_andV (h : Ret (ma e S) fun x S1 => Ret (truV x S1) fun b S2 => (b = true → Ret (mb e S2) Q) ∧ (b = false → Q x S2)) : Ret (andV ma mb e S) Q := w_bind (h.imp fun x S1 h => w_bind (h.imp fun b S2 ⟨h1, h2⟩ => by
  cases b with
  | true => exact h1 rfl
  | false => exact h2 rfl))
theorem w_orV (h : Ret (ma e S) fun x S1 => Ret (truV x S1) fun b S2 => (b = true → Q x S2) ∧ (b = false → Ret (mb e S2) Q)) : Ret (orV ma mb e S) Q := w_bind (h.imp fun x S1 h => w_bind (h.imp fun b S2 ⟨h1, h2⟩ => by
  cases b with
  | true => exact h1 rfl
  | false => exact h2 rfl))
theorem w_notV (h : Ret (ma e S) fun x S1 => Ret (truV x S1) fun b S2 => Q (.bl (!b)) S2) : Ret (notV ma e S) Q := w_bind (h.imp fun x S1 h => w_bind h)
/-! ### statements -/
theorem v_use {m : EMt al} {f : al → SM} (h : Ret (m e S) fun x S1 => RetS (f x e S1) nx k) : RetS (useM m f e S) nx k := by
  unfold useM
  cases q : m e S with
  | ok x S' => rw [q] at h; exact h
  | exc => rw [q] at h; exact h.elim
  | bad => rw [q] at h; exact h
theorem v_seq {a b : SM} (h : RetS (a e S) (fun e S => RetS (b e S) nx k) k) : RetS (seqM a b e S) nx k := by
  unfold seqM
  cases q : a e S with
  | nx e' S' => rw [q] at h; exact h
  | ret => rw [q] at h; exact h
  | brk => rw [q] at h; exact h
  | ct => rw [q] at h; exact h
  | exc => rw [q] at h; exact h
  | bad => rw [q] at h; exact h
theorem v_nx (h : nx e S) : RetS (nextM e S) nx k := h
theorem v_brk (h : k.bk e S) : RetS (brkM e S) nx k := h
theorem v_ct (h : k.ct e S) : RetS (ctM e S) nx k := h
theorem v_asg {i : Nat} (h : Ret (m e S) fun x S1 => nx (e.set i (some x)) S1) : RetS (asgM (.nm i) m e S) nx k := v_use (h.imp fun _ _ h => h)
theorem v_asgP {p : Pt} (h : Ret (m e S) fun x S1 => ∃ e', asg p x S1 e = some e' ∧ nx e' S1) : RetS (asgM p m e S) nx k := v_use (h.imp fun _ _ ⟨e', h1, h2⟩ => by
  simp only [h1]; exact h2)
theorem asg_lst {ps : List Pt} {xs : List MV} {a : Nat} (h : S.g a = .lst xs) : asg (.tp ps) (.ref a) S e = asgL ps xs S e := by simp only [asg, h, seqO]
theorem v_drop (h : Ret (m e S) fun _ S1 => nx e S1) : RetS (dropM' m e S) nx k := v_use (h.imp fun _ _ h => h)
theorem v_ret (h : Ret (m e S) k.rt) : RetS (retM m e S) nx k := v_use (h.imp fun _ _ h => h)
theorem v_retN (h : k.rt .non S) : RetS (retNM e S) nx k := h
theorem v_if {a b : SM} (h : Ret (ta e S) fun c S1 => (c = true → RetS (a e S1) nx k) ∧ (c = false → RetS (b e S1) nx k)) : RetS (ifM ta a b e S) nx k := v_use (h.imp fun c S1 ⟨h1, h2⟩ => by
  cases c with
  | true => exact h1 rfl
  | false => exact h2 rfl)
theorem v_aug {i : Nat} {g : MV → MV → Sto → Res MV} (h : Ret (varM i e S) fun x S0 => Ret (m e S0) fun y S1 => Ret (g x y S1) fun z S2 => nx (e.set i (some z)) S2) : RetS (augM i g m e S) nx k :=
  v_use (h.imp fun _ _ h => v_use (h.imp fun _ _ h => v_use h))
theorem v_set {g : MV → MV → MV → Sto → Option Sto} {mo mi mv : EM} (h : Ret (mv e S) fun v S1 => Ret (mo e S1) fun o S2 => Ret (mi e S2) fun i S3 => ∃ S4, g o i v S3 = some S4 ∧ nx e S4) : RetS (setM g mo mi mv e S) nx k :=
  v_use (h.imp fun _ _ h => v_use (h.imp fun _ _ h => v_use (h.imp fun _ _ ⟨S4, h1, h2⟩ => by
    simp only [h1]; exact h2)))
theorem set_lst {a : Nat} {xs : List MV} {j : Nat} {v : MV} (hS : S.g a = .lst xs) (h : ixN xs.length i = some j) : setV (.ref a) (.int i) v S = some (S.put a (.lst (xs.set j v))) := by
  simp only [setV, hS, h]; rfl
theorem set_dK {a : Nat} {kvs : List (Key × MV)} {key : Key} {v : MV} (hS : S.g a = .dK kvs) (hk : toK x = some key) (h : kvs.length < sizeLine) : setV (.ref a) x v S = some (S.put a (.dK (putM kvs key v))) := by
  simp only [setV, hS, hk, if_pos h]
/-- a loop, by what holds between its turns -/
theorem v_loop {ck : List (Nat × List MV)} {p : Pt} {b : SM} (I : Nat → Sl → Sto → Prop) : ∀ (xs : List MV) (n : Nat) (e : Sl) (S : Sto), I n e S → (∀ (i : Nat) x e S, xs[i]? = some x → I (n + i) e S → ckOk ck S ∧ ∃ e1, asg p x S e = some e1 ∧ RetS (b e1 S) (I (n + i + 1)) { ct := I (n + i + 1), bk := nx, rt := k.rt }) →
    (∀ e S, I (n + xs.length) e S → ckOk ck S ∧ nx e S) → RetS (loopM ck p b xs e S) nx k
  | [], n, e, S, h0, hs, hd => by
    obtain ⟨h1, h2⟩ := hd e S (by simpa using h0)
    simp only [loopM, if_pos h1]; exact h2
  | x :: xs, n, e, S, h0, hs, hd => by
    obtain ⟨h1, e1, h2, h3⟩ := hs 0 x e S rfl (by simpa using h0)
    simp only [loopM, if_pos h1, h2]
    have go : ∀ e S, I (n + 0 + 1) e S → RetS (loopM ck p b xs e S) nx k := fun e S h => v_loop I xs (n + 1) e S (by simpa using h) (fun i x e S hx hI => by
      have := hs (i + 1) x e S (by simpa using hx) (by rw [show n + (i + 1) = n + 1 + i by omega]; exact hI)
      rw [show n + 1 + i + 1 = n + (i + 1) + 1 by omega]; exact this) fun e S h => hd e S (by rw [List.length_cons, show n + (xs.length + 1) = n + 1 + xs.length by omega]; exact h)
    cases q : b e1 S with
    | nx e' S' => rw [q] at h3; exact go e' S' h3
    | ct e' S' => rw [q] at h3; exact go e' S' h3
    | brk e' S' => rw [q] at h3; exact h3
    | ret y S' => rw [q] at h3; exact h3
    | exc ex e' S' => rw [q] at h3; exact h3.elim
    | bad => rw [q] at h3; exact h3.elim
theorem v_for {mi : EMt Itm} {p : Pt} {b : SM} (h : Ret (mi e S) fun itm S1 => RetS (loopM itm.ck p b itm.xs e S1) nx k) : RetS (forM mi p b e S) nx k := v_use h
theorem w_itm {Q : Itm → Sto → Prop} {o : Option Itm} {itm : Itm} (h : o = some itm) (q : Q itm S) : Ret (itmV o S) Q := by rw [h]; exact q
theorem w_iter {Q : Itm → Sto → Prop} (h : Ret (m e S) fun x S1 => ∃ itm, itmOf x S1 = some itm ∧ Q itm S1) : Ret (iterM m e S) Q := w_bind (h.imp fun x S1 ⟨itm, h1, h2⟩ => w_itm h1 h2)
theorem w_itmM {Q : Itm → Sto → Prop} {g : List MV → Option Itm} (h : Ret (ml e S) fun xs S1 => ∃ itm, g xs = some itm ∧ Q itm S1) : Ret (itmM g ml e S) Q := w_bind (h.imp fun x S1 ⟨itm, h1, h2⟩ => w_itm h1 h2)
theorem w_enm {Q : Itm → Sto → Prop} (h : Ret (ml e S) fun xs S1 => ∃ itm, enmO S1 xs = some itm ∧ Q itm S1) : Ret (enmM ml e S) Q := w_bind (h.imp fun x S1 ⟨itm, h1, h2⟩ => w_itm h1 h2)
theorem w_enm2 {Q : Itm → Sto → Prop} (h : Ret (ml e S) fun xs S1 => ∃ itm, enmO2 S1 xs = some itm ∧ Q itm S1) : Ret (enmM2 ml e S) Q := w_bind (h.imp fun x S1 ⟨itm, h1, h2⟩ => w_itm h1 h2)
theorem it_en2L {a : Nat} {xs : List MV} (hS : S.g a = .lst xs) : enmO2 S [.ref a] = some ⟨prI xs, [(a, xs)]⟩ := by simp only [enmO2, hS, seqO, Option.map_some]
theorem it_en2C {a : Nat} {xs : List MV} (hS : S.g a = .con xs) : enmO2 S [.ref a] = some ⟨prI xs, [(a, xs)]⟩ := by simp only [enmO2, hS, seqO, Option.map_some]
theorem w_repr {d : PyData} (h1 : rD S x = some d) (h2 : shOk d) (h3 : isRI x = true) (q : Q (.str d.shown) S) : Ret (reprV [x] S) Q := by
  simp only [reprV, h3, if_true, h1, if_pos h2]; exact q
theorem w_maxL {a : Nat} {xs : List MV} {ns : List Int} {m : Int} (hS : seqO (S.g a) = some xs) (h1 : intsOf xs = some ns) (h2 : maxI ns = some m) (q : Q (.int m) S) : Ret (maxLV [.ref a] S) Q := by
  simp only [maxLV, hS, h1, h2]; exact q
theorem w_sortK {a : Nat} {kvs : List (Key × MV)} {ks : List Int} (hS : S.g a = .dK kvs) (h1 : keysI kvs = some ks) (h2 : ks.length < 64) (q : Q (.ref S.n) (S.add (.lst ((sortI ks).map .int)))) : Ret (sortKV (.ref a) S) Q := by
  simp only [sortKV, hS, h1, if_pos h2]; exact q
theorem w_zip {Q : Itm → Sto → Prop} (h : Ret (ml e S) fun xs S1 => ∃ itm, zipO S1 xs = some itm ∧ Q itm S1) : Ret (zipM ml e S) Q := w_bind (h.imp fun x S1 ⟨itm, h1, h2⟩ => w_itm h1 h2)
theorem w_rev {Q : Itm → Sto → Prop} (h : Ret (m e S) fun x S1 => ∃ itm, revO S1 x = some itm ∧ Q itm S1) : Ret (revM m e S) Q := w_bind (h.imp fun x S1 ⟨itm, h1, h2⟩ => w_itm h1 h2)
theorem it_tup {xs : List MV} : itmOf (.tup xs) S = some ⟨xs, []⟩ := rfl
theorem it_lst {a : Nat} {xs : List MV} (hS : S.g a = .lst xs) : itmOf (.ref a) S = some ⟨xs, [(a, xs)]⟩ := by simp only [itmOf, hS]
theorem it_con {a : Nat} {xs : List MV} (hS : S.g a = .con xs) : itmOf (.ref a) S = some ⟨xs, [(a, xs)]⟩ := by simp only [itmOf, hS]
theorem it_enL {a : Nat} {xs : List MV} (hS : S.g a = .lst xs) : enmO S [.ref a] = some ⟨prI xs, [(a, xs)]⟩ := by simp only [enmO, hS]
theorem it_enC {a : Nat} {xs : List MV} (hS : S.g a = .con xs) : enmO S [.ref a] = some ⟨prI xs, [(a, xs)]⟩ := by simp only [enmO, hS]
theorem rng1 {j : Int} (h : -(2 ^ 62) ≤ j ∧ j < 2 ^ 62) : rngO1 [.int j] = some ⟨rngL 0 j.toNat, []⟩ := by simp only [rngO1]; rw [if_pos h]
theorem rng2 {i j : Int} (h : -(2 ^ 62) ≤ i ∧ i < 2 ^ 62 ∧ -(2 ^ 62) ≤ j ∧ j < 2 ^ 62) : rngO2 [.int i, .int j] = some ⟨rngL i (j - i).toNat, []⟩ := by simp only [rngO2]; rw [if_pos h]
theorem rngL_get {lo : Int} {n i : Nat} {x : MV} (h : (rngL lo n)[i]? = some x) : i < n ∧ x = .int (lo + i) := by
  simp only [rngL, List.getElem?_map, Option.map_eq_some_iff] at h
  obtain ⟨c, h1, h2⟩ := h
  obtain ⟨h3, rfl⟩ := range_get h1
  exact ⟨h3, h2.symm⟩
theorem rngL_len (lo : Int) (n : Nat) : (rngL lo n).length = n := by simp [rngL]
/-- a comprehension, by what holds between its turns -/
theorem w_lcLoop {ck : List (Nat × List MV)} {p : Pt} {tt : EMt Bool} {te : EM} {e : Sl} (I : Nat → List MV → Sto → Prop) {Q : List MV → Sto → Prop} : ∀ (xs : List MV) (n : Nat) (acc : List MV) (S : Sto), I n acc S → (∀ (i : Nat) x acc S, xs[i]? = some x → I (n + i) acc S → ckOk ck S ∧ ∃ e1, asg p x S e = some e1 ∧ Ret (tt e1 S) fun b S1 => (b = true → Ret (te e1 S1) fun y S2 => acc.length < sizeLine ∧ I (n + i + 1) (acc ++ [y]) S2) ∧ (b = false → I (n + i + 1) acc S1)) →
    (∀ acc S, I (n + xs.length) acc S → ckOk ck S ∧ Q acc S) → Ret (lcLoop ck p tt te e xs acc S) Q
  | [], n, acc, S, h0, hs, hd => by
    obtain ⟨h1, h2⟩ := hd acc S (by simpa using h0)
    simp only [lcLoop, if_pos h1]; exact h2
  | x :: xs, n, acc, S, h0, hs, hd => by
    obtain ⟨h1, e1, h2, h3⟩ := hs 0 x acc S rfl (by simpa using h0)
    simp only [lcLoop, if_pos h1, h2]
    have go : ∀ acc S, I (n + 0 + 1) acc S → Ret (lcLoop ck p tt te e xs acc S) Q := fun acc S h => w_lcLoop I xs (n + 1) acc S (by simpa using h) (fun i x acc S hx hI => by
      have := hs (i + 1) x acc S (by simpa using hx) (by rw [show n + (i + 1) = n + 1 + i by omega]; exact hI)
      rw [show n + 1 + i + 1 = n + (i + 1) + 1 by omega]; exact this) fun acc S h => hd acc S (by rw [List.length_cons, show n + (xs.length + 1) = n + 1 + xs.length by omega]; exact h)
    obtain ⟨b, S1, q, h4, h5⟩ := h3.eq
    rw [q]
    cases b with
    | false => exact go acc S1 (h5 rfl)
    | true =>
      obtain ⟨y, S2, q2, h6, h7⟩ := (h4 rfl).eq
      simp only [q2, if_pos h6]
      exact go _ S2 h7
theorem v_loop0 {ck : List (Nat × List MV)} {p : Pt} {b : SM} {xs : List MV} (I : Nat → Sl → Sto → Prop) (h0 : I 0 e S) (hs : ∀ (i : Nat) x e S, xs[i]? = some x → I i e S → ckOk ck S ∧ ∃ e1, asg p x S e = some e1 ∧ RetS (b e1 S) (I (i + 1)) { ct := I (i + 1), bk := nx, rt := k.rt }) (hd : ∀ e S, I xs.length e S → ckOk ck S ∧ nx e S) : RetS (loopM ck p b xs e S) nx k :=
  v_loop I xs 0 e S h0 (fun i x e S hx h => by rw [Nat.zero_add] at h ⊢; exact hs i x e S hx h) fun e S h => hd e S (by rw [Nat.zero_add] at h; exact h)
theorem w_lc0 {ck : List (Nat × List MV)} {p : Pt} {tt : EMt Bool} {te : EM} {e : Sl} {xs : List MV} {Q : List MV → Sto → Prop} (I : Nat → List MV → Sto → Prop) (h0 : I 0 [] S) (hs : ∀ (i : Nat) x acc S, xs[i]? = some x → I i acc S → ckOk ck S ∧ ∃ e1, asg p x S e = some e1 ∧ Ret (tt e1 S) fun b S1 => (b = true → Ret (te e1 S1) fun y S2 => acc.length < sizeLine ∧ I (i + 1) (acc ++ [y]) S2) ∧ (b = false → I (i + 1) acc S1)) (hd : ∀ acc S, I xs.length acc S → ckOk ck S ∧ Q acc S) : Ret (lcLoop ck p tt te e xs [] S) Q :=
  w_lcLoop I xs 0 [] S h0 (fun i x acc S hx h => by rw [Nat.zero_add] at h ⊢; exact hs i x acc S hx h) fun acc S h => hd acc S (by rw [Nat.zero_add] at h; exact h)
theorem w_lc {mi : EMt Itm} {p : Pt} {tt : EMt Bool} {te : EM} {vs : List Nat} (h : Ret (mi e S) fun itm S1 => Ret (lcLoop itm.ck p tt te (wipeE e vs) itm.xs [] S1) fun acc S2 => Q (.ref S2.n) (S2.add (.lst acc))) : Ret (lcM mi p tt te vs e S) Q :=
  w_bind (h.imp fun itm S1 h => by
    obtain ⟨acc, S2, q, h2⟩ := h.eq
    simp only [q]; exact h2)
theorem w_yes {QB : Bool → Sto → Prop} (q : QB true S) : Ret (yesM e S) QB := q
/-- a while, by what holds ahead of its test and a number that falls -/
theorem v_while {t : EMt Bool} {b : SM} (I : Nat → Sl → Sto → Prop) (hs : ∀ n e S, I n e S → Ret (t e S) fun c S1 => (c = true → RetS (b e S1) (fun e' S' => ∃ n', n' < n ∧ I n' e' S') { ct := fun e' S' => ∃ n', n' < n ∧ I n' e' S', bk := nx, rt := k.rt }) ∧ (c = false → nx e S1)) : ∀ n e S, I n e S → RetS (whileM t b e S) nx k := by
  have key : ∀ n e S, I n e S → ∃ f, RetS (whileF t b f e S) nx k := by
    intro n
    induction n using Nat.strongRecOn with
    | _ n ih =>
      intro e S h
      obtain ⟨c, S1, q, h1, h2⟩ := (hs n e S h).eq
      cases c with
      | false => exact ⟨1, by simp only [whileF, q]; exact h2 rfl⟩
      | true =>
        have h3 := h1 rfl
        cases q2 : b e S1 with
        | nx e' S' =>
          rw [q2] at h3
          obtain ⟨n', hn, hI⟩ := h3
          obtain ⟨f, hf⟩ := ih n' hn e' S' hI
          exact ⟨f + 1, by simp only [whileF, q, q2]; exact hf⟩
        | ct e' S' =>
          rw [q2] at h3
          obtain ⟨n', hn, hI⟩ := h3
          obtain ⟨f, hf⟩ := ih n' hn e' S' hI
          exact ⟨f + 1, by simp only [whileF, q, q2]; exact hf⟩
        | brk e' S' => rw [q2] at h3; exact ⟨1, by simp only [whileF, q, q2]; exact h3⟩
        | ret y S' => rw [q2] at h3; exact ⟨1, by simp only [whileF, q, q2]; exact h3⟩
        | exc ex e' S' => rw [q2] at h3; exact h3.elim
        | bad => rw [q2] at h3; exact h3.elim
  intro n e S h
  obtain ⟨f, hf⟩ := key n e S h
  have hb : whileF t b f e S ≠ .bad := fun q => by rw [q] at hf; exact hf
  rw [whileM_eq hb]
  exact hf
/-- a def -/
theorem w_def {np N : Nat} {b : SM} {xs : List MV} (hl : xs.length = np) (h : RetS (b (xs.map some ++ List.replicate (N - np) none) S) (fun _ S => Q .non S) { rt := Q }) : Ret (defM np N b xs S) Q := by
  unfold defM
  rw [if_pos hl]
  cases q : b (xs.map some ++ List.replicate (N - np) none) S with
  | nx e' S' => rw [q] at h; exact h
  | ret y S' => rw [q] at h; exact h
  | brk e' S' => rw [q] at h; exact h.elim
  | ct e' S' => rw [q] at h; exact h.elim
  | exc ex e' S' => rw [q] at h; exact h.elim
  | bad => rw [q] at h; exact h.elim
/-! ### two ways -/
theorem ex_mk {al : Type} {p q : al → Prop} {x : al} (h : p x) (h2 : q x) : ∃ x, p x ∧ q x := ⟨x, h, h2⟩
theorem br_dec {p : Prop} [Decidable p] {A B : Prop} (h1 : p → A) (h2 : ¬p → B) : (decide p = true → A) ∧ (decide p = false → B) := ⟨fun h => h1 (of_decide_eq_true h), fun h => h2 (of_decide_eq_false h)⟩
theorem br_nd {p : Prop} [Decidable p] {A B : Prop} (h1 : ¬p → A) (h2 : p → B) : ((!decide p) = true → A) ∧ ((!decide p) = false → B) := by
  by_cases h : p
  · exact ⟨fun q => (by simp [h] at q), fun _ => h2 h⟩
  · exact ⟨fun _ => h1 h, fun q => (by simp [h] at q)⟩
theorem br_b {b : Bool} {A B : Prop} (h1 : b = true → A) (h2 : b = false → B) : (b = true → A) ∧ (b = false → B) := ⟨h1, h2⟩
theorem br_true {b : Bool} {A B : Prop} (hb : b = true) (h : A) : (b = true → A) ∧ (b = false → B) := ⟨fun _ => h, fun q => by rw [hb] at q; cases q⟩
theorem br_false {b : Bool} {A B : Prop} (hb : b = false) (h : B) : (b = true → A) ∧ (b = false → B) := ⟨fun q => (by rw [hb] at q; cases q), fun _ => h⟩
theorem br_t {A B : Prop} (h : A) : (true = true → A) ∧ (true = false → B) := ⟨fun _ => h, fun q => (by cases q)⟩
theorem br_f {A B : Prop} (h : B) : (false = true → A) ∧ (false = false → B) := ⟨fun q => (by cases q), fun _ => h⟩
/-- what holds at the join of a statement and the rest -/
theorem v_cut {a b : SM} (J : Sl → Sto → Prop) (h : RetS (a e S) J k) (h2 : ∀ e S, J e S → RetS (b e S) nx k) : RetS (seqM a b e S) nx k := v_seq (h.imp h2 (fun _ _ h => h) (fun _ _ h => h) (fun _ _ h => h))
theorem v_mid {r : SR} (J : Sl → Sto → Prop) (h : RetS r J k) (h2 : ∀ e S, J e S → nx e S) : RetS r nx k := h.imp h2 (fun _ _ h => h) (fun _ _ h => h) (fun _ _ h => h)
theorem v_ift {a b : SM} {B : Bool} (ht : Ret (ta e S) fun b S1 => b = B ∧ S1 = S) (h1 : B = true → RetS (a e S) nx k) (h2 : B = false → RetS (b e S) nx k) : RetS (ifM ta a b e S) nx k := v_if (ht.imp fun c S1 ⟨e1, e2⟩ => by
  subst e1 e2; exact ⟨h1, h2⟩)
/-- a test without an effect -/
def Pur (t : EMt Bool) (e : Sl) (S : Sto) (B : Bool) : Prop := Ret (t e S) fun b S1 => b = B ∧ S1 = S
theorem pur_and {A B : Bool} (h1 : Pur ta e S A) (h2 : A = true → Pur tb e S B) : Pur (andB ta tb) e S (A && B) := w_andB (h1.imp fun b S1 ⟨e1, e2⟩ => by
  subst e1 e2
  refine ⟨fun h => ?_, fun h => ?_⟩
  · subst h; exact h2 rfl
  · subst h; exact ⟨rfl, rfl⟩)
theorem pur_or {A B : Bool} (h1 : Pur ta e S A) (h2 : A = false → Pur tb e S B) : Pur (orB ta tb) e S (A || B) := w_orB (h1.imp fun b S1 ⟨e1, e2⟩ => by
  subst e1 e2
  refine ⟨fun h => ?_, fun h => ?_⟩
  · subst h; exact ⟨rfl, rfl⟩
  · subst h; exact h2 rfl)
theorem pur_not {A : Bool} (h1 : Pur ta e S A) : Pur (notB ta) e S (!A) := w_notB (h1.imp fun b S1 ⟨e1, e2⟩ => by
  subst e1 e2; exact ⟨rfl, rfl⟩)
/-! ### the store -/
theorem put_same {a : Nat} {o : MO} : (S.put a o).g a = o := by rw [Sto.put_g, if_pos rfl]
theorem put_ne {a b : Nat} {o : MO} (h : b ≠ a) : (S.put a o).g b = S.g b := by rw [Sto.put_g, if_neg h]
theorem add_same {o : MO} : (S.add o).g S.n = o := by rw [Sto.add_g, if_pos rfl]
theorem add_ne {b : Nat} {o : MO} (h : b ≠ S.n) : (S.add o).g b = S.g b := by rw [Sto.add_g, if_neg h]
end
end Mm
end

section
/-! ## H, part 1: the parts that every law brings with it -/
namespace Law
open PySem L2 Mm
noncomputable def b__law_mix : SM := (seqM (asgM (.nm 2) (op2 modV (opL intV (consM (op2 addV (op2 addV (op2 mulV (varM 0) (conM (.int 48271))) (op2 mulV (varM 1) (conM (.int 16807)))) (conM (.int 11))) nilM)) (conM (.int 2147483647))))
 (seqM (asgM (.nm 3) (op2 modV (opL intV (consM (op2 addV (op2 addV (op2 mulV (varM 2) (varM 2)) (op2 mulV (op2 divV (varM 2) (conM (.int 127))) (conM (.int 40692)))) (op2 mulV (varM 1) (conM (.int 69621)))) nilM)) (conM (.int 2147483399))))
 (retM (op2 divV (op2 modV (opL intV (consM (op2 addV (op2 divV (op2 mulV (varM 3) (varM 3)) (conM (.int 1009))) (varM 2)) nilM)) (conM (.int 2147483563))) (conM (.int 16))))))
noncomputable def m__law_mix : List MV → Sto → Res MV := defM 2 4 b__law_mix
noncomputable def b__law_hand : SM := (seqM (asgM (.nm 1) (conM (.int 0)))
 (seqM (forM (enmM2 (consM (varM 0) nilM)) (.tp [(.nm 2), (.nm 3)])
 (asgM (.nm 1) (op2 modV (opL intV (consM (op2 addV (op2 mulV (varM 1) (conM (.int 31))) (op2 mulV (opL intV (consM (varM 3) nilM)) (op2 addV (varM 2) (conM (.int 7))))) nilM)) (conM (.int 2147483629)))))
 (retM (opL lstV (consM (lcM (iterM (varM 0)) (.nm 3) yesM (opL absVl (consM (opL intV (consM (varM 3) nilM)) nilM)) [3]) (consM (conM (.int 0)) (consM (conM (.int 0)) (consM (varM 1) nilM))))))))
noncomputable def m__law_hand : List MV → Sto → Res MV := defM 1 4 b__law_hand
noncomputable def b__law_draw : SM := (seqM (ifM (andB (blM (op2 eqV (op2 idxV (varM 0) (conM (.int 2))) (conM (.int 0)))) (blM (op2 ltV (op2 idxV (varM 0) (conM (.int 1))) (opL lenV (consM (op2 idxV (varM 0) (conM (.int 0))) nilM)))))
 (seqM (asgM (.nm 2) (op2 idxV (op2 idxV (varM 0) (conM (.int 0))) (op2 idxV (varM 0) (conM (.int 1)))))
 (seqM (setM setV (varM 0) (conM (.int 1)) (op2 addV (op2 idxV (varM 0) (conM (.int 1))) (conM (.int 1))))
 (seqM (ifM (blM (op2 ltV (varM 2) (op2 powV (conM (.int 10)) (conM (.int 18)))))
 (retM (op2 modV (opL intV (consM (opL m__law_mix (consM (op2 modV (opL intV (consM (varM 2) nilM)) (conM (.int 2147483647))) (consM (op2 idxV (varM 0) (conM (.int 1))) nilM))) nilM)) (varM 1)))
 nextM)
 (setM setV (varM 0) (conM (.int 2)) (varM 2)))))
 nextM)
 (seqM (ifM (blM (op2 gtV (op2 idxV (varM 0) (conM (.int 2))) (conM (.int 0))))
 (seqM (asgM (.nm 3) (op2 idxV (varM 0) (conM (.int 2))))
 (seqM (setM setV (varM 0) (conM (.int 2)) (op2 divV (varM 3) (varM 1)))
 (retM (op2 modV (opL intV (consM (varM 3) nilM)) (varM 1)))))
 nextM)
 (seqM (setM setV (varM 0) (conM (.int 3)) (op2 modV (opL intV (consM (op2 addV (op2 idxV (varM 0) (conM (.int 3))) (conM (.int 1))) nilM)) (conM (.int 2147483629))))
 (retM (op2 modV (opL intV (consM (opL m__law_mix (consM (op2 idxV (varM 0) (conM (.int 3))) (consM (op2 idxV (varM 0) (conM (.int 1))) nilM))) nilM)) (varM 1))))))
noncomputable def m__law_draw : List MV → Sto → Res MV := defM 2 4 b__law_draw
noncomputable def b__law_pick : SM := (retM (op2 idxV (varM 1) (opL m__law_draw (consM (varM 0) (consM (opL lenV (consM (varM 1) nilM)) nilM)))))
noncomputable def m__law_pick : List MV → Sto → Res MV := defM 2 2 b__law_pick
/-! the step of the pure proofs -/
local macro_rules
  | `(tactic| walk_at "wp side") => `(tactic| first | assumption | omega | decide)
local macro_rules
  | `(tactic| walk_at "wp1") => `(tactic| with_reducible first
    | refine Mm.v_seq ?_ | refine Mm.v_nx ?_ | refine Mm.v_asg ?_ | refine Mm.v_ret ?_ | refine Mm.v_retN ?_ | refine Mm.v_drop ?_ | refine Mm.v_set ?_ | refine Mm.v_aug ?_ | refine Mm.v_for ?_ | refine Mm.v_brk ?_ | refine Mm.v_ct ?_
    | refine Mm.w_con ?_ | refine Mm.w_op2 ?_ | refine Mm.w_op1 ?_ | refine Mm.w_opL ?_ | refine Mm.w_cons ?_ | refine Mm.w_nil ?_
    | refine Mm.w_add ?_ | refine Mm.w_sub ?_ | refine Mm.w_neg ?_ | refine Mm.w_lt ?_ | refine Mm.w_le ?_ | refine Mm.w_gt ?_ | refine Mm.w_ge ?_ | refine Mm.w_eqi ?_ | refine Mm.w_nei ?_ | refine Mm.w_eqs ?_ | refine Mm.w_nes ?_ | refine Mm.w_int ?_ | refine Mm.w_abs ?_ | refine Mm.w_isN ?_ | refine Mm.w_notN ?_ | refine Mm.w_min ?_ | refine Mm.w_max ?_
    | refine Mm.w_tru ?_ | refine Mm.w_blM ?_ | refine Mm.w_andB ?_ | refine Mm.w_orB ?_ | refine Mm.w_notB ?_ | refine Mm.w_ifV ?_ | refine Mm.w_andV ?_ | refine Mm.w_orV ?_ | refine Mm.w_notV ?_ | refine Mm.w_truB ?_ | refine Mm.w_truI ?_ | refine Mm.w_truN ?_ | refine Mm.w_truT ?_
    | refine Mm.w_dNewK ?_ | refine Mm.w_dNewT ?_ | refine Mm.w_iter ?_ | refine Mm.w_itmM ?_ | refine Mm.w_enm ?_ | refine Mm.w_enm2 ?_ | refine Mm.w_zip ?_ | refine Mm.w_rev ?_ | refine Mm.w_bm ?_ | refine Mm.w_lc ?_ | refine Mm.w_yes ?_ | refine Mm.br_t ?_ | refine Mm.br_f ?_ | refine Mm.w_slc ?_ | refine Mm.w_pno ?_ | refine Mm.w_pso ?_ | refine Mm.w_lenT ?_ | refine Mm.w_tupT ?_ | refine Mm.w_lstT ?_ | refine Mm.w_cutT ?_)
local macro_rules
  | `(tactic| walk_at "sto") => `(tactic| first
    | with_reducible assumption
    | with_reducible exact Mm.put_same
    | with_reducible exact Mm.add_same
    | (with_reducible refine (Mm.put_ne (by first | assumption | exact Ne.symm (by assumption) | ((try dsimp only [Mm.Sto.add, Mm.Sto.put]); omega))).trans ?_; walk_at "sto")
    | (with_reducible refine (Mm.add_ne (by first | assumption | exact Ne.symm (by assumption) | ((try dsimp only [Mm.Sto.add, Mm.Sto.put]); omega))).trans ?_; walk_at "sto")
    | fail)
local macro_rules
  | `(tactic| walk_at "wp2") => `(tactic| first
    | ((with_reducible apply Mm.w_var); · rfl)
    | ((with_reducible apply Mm.ex_mk); · with_reducible refine Mm.rng1 (by (try simp only [List.length_map]); omega))
    | ((with_reducible apply Mm.ex_mk); · with_reducible refine Mm.rng2 (by (try simp only [List.length_map]); omega))
    | ((with_reducible apply Mm.ex_mk); · rfl)
    | ((with_reducible refine Mm.br_true ?_ ?_); · rfl)
    | ((with_reducible refine Mm.br_false ?_ ?_); · rfl)
    | ((with_reducible refine Mm.w_mod ?_ ?_); · walk_at "wp side")
    | ((with_reducible refine Mm.w_div ?_ ?_ ?_); (· walk_at "wp side"); (· (first | decide | assumption)))
    | ((with_reducible refine Mm.w_mul ?_ ?_); · exact .inl (.inr (by decide)))
    | ((with_reducible refine Mm.w_mul ?_ ?_); · exact .inl (.inl (by decide)))
    | ((with_reducible refine Mm.w_mul ?_ ?_); · exact .inl (.inl (by omega)))
    | ((with_reducible refine Mm.w_mul ?_ ?_); · exact .inl (.inr (by omega)))
    | ((with_reducible refine Mm.w_pow ?_ ?_); · decide)
    | ((with_reducible refine Mm.w_lstV ?_ ?_); · (simp only [List.length_cons, List.length_nil]; decide))
    | ((with_reducible refine Mm.w_tupV ?_ ?_); · (simp only [List.length_cons, List.length_nil]; decide))
    | ((with_reducible apply Mm.w_idxL); (· walk_at "sto"); (· first | exact Mm.atI0 | exact Mm.atI1 | exact Mm.atI2 | exact Mm.atIl | rfl))
    | ((with_reducible apply Mm.w_idxC); (· walk_at "sto"); (· rfl))
    | ((with_reducible apply Mm.w_idxT); · first | exact Mm.atI0 | exact Mm.atI1 | exact Mm.atI2 | rfl)
    | ((with_reducible apply Mm.w_lenL); · walk_at "sto")
    | ((with_reducible apply Mm.w_lenC); · walk_at "sto")
    | ((with_reducible apply Mm.w_lenK); · walk_at "sto")
    | ((with_reducible apply Mm.w_tupL); · walk_at "sto")
    | ((with_reducible apply Mm.w_lstL); · walk_at "sto")
    | ((with_reducible apply Mm.w_cutL); · walk_at "sto")
    | ((with_reducible apply Mm.w_revL); · walk_at "sto")
    | ((with_reducible apply Mm.w_truL); · walk_at "sto")
    | ((with_reducible apply Mm.ex_mk); · exact Mm.it_lst (by walk_at "sto"))
    | ((with_reducible apply Mm.ex_mk); · exact Mm.it_con (by walk_at "sto"))
    | ((with_reducible apply Mm.ex_mk); · exact Mm.it_en2L (by walk_at "sto"))
    | ((with_reducible apply Mm.ex_mk); · exact Mm.it_en2C (by walk_at "sto"))
    | ((with_reducible apply Mm.ex_mk); · exact Mm.set_lst (by walk_at "sto") rfl)
    | ((with_reducible refine And.intro ?_ ?_); · exact Mm.ty_lst (by walk_at "sto"))
    | fail)
local macro_rules
  | `(tactic| walk_at "wq") => `(tactic| repeat' (first | (walk_at "wp1"; try dsimp only [List.set_cons_zero, List.set_cons_succ, Bool.not_true, Bool.not_false]) | (walk_at "wp2"; try dsimp only [Bool.not_true, Bool.not_false]) | fail))
local macro_rules
  | `(tactic| walk_at "wp") => `(tactic| repeat' (first | (with_reducible refine Mm.v_if ?_) | (walk_at "wp1"; try dsimp only [List.set_cons_zero, List.set_cons_succ, Bool.not_true, Bool.not_false]) | (walk_at "wp2"; try dsimp only [Bool.not_true, Bool.not_false]) | fail))
local macro_rules
  | `(tactic| walk_at "def") => `(tactic| (refine Mm.w_def rfl ?_; simp only [List.map_cons, List.map_nil, List.cons_append, List.nil_append, List.replicate, Nat.reduceSub, List.replicate_succ, List.replicate_zero]))
theorem mix_ok {i j : Int} {S : Sto} : Ret (m__law_mix [.int i, .int j] S) fun x S' => (∃ r : Int, 0 ≤ r ∧ x = .int r) ∧ S' = S := by
  unfold m__law_mix
  walk_at "def"
  unfold b__law_mix
  walk_at "wp"
  refine ⟨⟨_, ?_, rfl⟩, rfl⟩
  omega
/-- the hand: its list at h, the cells at c -/
structure Hand (S : Sto) (h c : Nat) (cells : List Int) (turn rest seed : Int) : Prop where
  at_h : S.g h = .lst [.ref c, .int turn, .int rest, .int seed]
  at_c : S.g c = .lst (cells.map .int)
  ne : c ≠ h
  lt : h < S.n
  ltc : c < S.n
  turn0 : 0 ≤ turn
  turn1 : turn ≤ cells.length
  rest0 : 0 ≤ rest
  pos : ∀ z ∈ cells, 0 ≤ z
/-- a hand, whatever it holds -/
def Hd (S : Sto) (h c : Nat) : Prop := ∃ cells turn rest seed, Hand S h c cells turn rest seed
/-- nothing but k has changed -/
def But (k : Nat) (S S' : Sto) : Prop := S'.n = S.n ∧ ∀ j, j ≠ k → S'.g j = S.g j
theorem But.trans {k : Nat} {S S' S'' : Sto} (h : But k S S') (h' : But k S' S'') : But k S S'' := ⟨h'.1.trans h.1, fun j hj => (h'.2 j hj).trans (h.2 j hj)⟩
theorem But.put {k : Nat} {S : Sto} {o : MO} : But k S (S.put k o) := ⟨rfl, fun _ hj => put_ne hj⟩
theorem Hand.put {S : Sto} {h c : Nat} {cells : List Int} {turn rest seed turn' rest' seed' : Int} (H : Hand S h c cells turn rest seed) (h0 : 0 ≤ turn') (h1 : turn' ≤ cells.length) (h2 : 0 ≤ rest') : Hand (S.put h (.lst [.ref c, .int turn', .int rest', .int seed'])) h c cells turn' rest' seed' :=
  ⟨put_same, (put_ne H.ne).trans H.at_c, H.ne, H.lt, H.ltc, h0, h1, h2, H.pos⟩
theorem atI_map {xs : List Int} {i : Int} (h0 : 0 ≤ i) (h1 : i < xs.length) : ∃ z ∈ xs, atI (xs.map MV.int) i = some (.int z) := by
  obtain ⟨n, rfl⟩ := Int.eq_ofNat_of_zero_le h0
  have hn : n < xs.length := by omega
  exact ⟨xs[n], List.getElem_mem hn, atI_nat (by simp [List.getElem?_map, List.getElem?_eq_getElem hn])⟩
theorem draw_ok {S : Sto} {h c : Nat} {many : Int} (H : Hd S h c) (h0 : 0 < many) (h1 : many.natAbs.log2 < 9000) : Ret (m__law_draw [.ref h, .int many] S) fun x S' => (∃ r : Int, 0 ≤ r ∧ r < many ∧ x = .int r) ∧ Hd S' h c ∧ But h S S' := by
  obtain ⟨cells, turn, rest, seed, H⟩ := H
  have hh := H.at_h
  have hc := H.at_c
  have hne := H.ne
  have t0 := H.turn0
  unfold m__law_draw
  walk_at "def"
  unfold b__law_draw
  refine v_cut (fun e S' => e[0]? = some (some (.ref h)) ∧ e[1]? = some (some (.int many)) ∧ e.length = 4 ∧ ∃ turn rest, Hand S' h c cells turn rest seed ∧ But h S S') ?_ ?_
  · walk_at "wp"
    refine br_dec (fun hr => ?_) (fun hr => ?_)
    · walk_at "wp"
      refine br_dec (fun hr => ?_) (fun hr => ?_)
      · rw [List.length_map] at hr
        obtain ⟨z, hz, hat⟩ := atI_map t0 hr
        have z0 := H.pos z hz
        walk_at "wp"
        refine w_idxL hc hat ?_
        walk_at "wp"
        refine br_dec (fun hr => ?_) (fun hr => ?_)
        · walk_at "wp"
          refine mix_ok.imp fun x S' hx => ?_
          obtain ⟨⟨r, h2, rfl⟩, rfl⟩ := hx
          walk_at "wp"
          refine ⟨⟨_, Int.emod_nonneg _ (by omega), Int.emod_lt_of_pos _ h0, rfl⟩, ⟨cells, _, _, _, H.put (by omega) (by omega) H.rest0⟩, But.put⟩
        · walk_at "wp"
          refine ⟨rfl, rfl, rfl, _, _, (H.put (turn' := turn + 1) (by omega) (by omega) H.rest0).put (by omega) (by omega) z0, But.put.trans But.put⟩
      · walk_at "wp"
        exact ⟨rfl, rfl, rfl, _, _, H, rfl, fun _ _ => rfl⟩
    · walk_at "wp"
      exact ⟨rfl, rfl, rfl, _, _, H, rfl, fun _ _ => rfl⟩
  · rintro e S1 ⟨e0, e1, el, turn, rest, H1, B1⟩
    obtain ⟨a0, a1, a2, a3, rfl⟩ : ∃ a0 a1 a2 a3, e = [a0, a1, a2, a3] := by
      match e, el with
      | [a0, a1, a2, a3], _ => exact ⟨_, _, _, _, rfl⟩
    have hh := H1.at_h
    have hc := H1.at_c
    have hne := H1.ne
    have r0 := H1.rest0
    cases e0
    cases e1
    walk_at "wp"
    refine br_dec (fun hr => ?_) (fun hr => ?_)
    · walk_at "wp"
      exact ⟨⟨_, Int.emod_nonneg _ (by omega), Int.emod_lt_of_pos _ h0, rfl⟩, ⟨_, _, _, _, H1.put H1.turn0 H1.turn1 (Int.ediv_nonneg r0 (by omega))⟩, B1.trans But.put⟩
    · walk_at "wp"
      refine mix_ok.imp fun x S' hx => ?_
      obtain ⟨⟨r, h2, rfl⟩, rfl⟩ := hx
      walk_at "wp"
      exact ⟨⟨_, Int.emod_nonneg _ (by omega), Int.emod_lt_of_pos _ h0, rfl⟩, ⟨_, _, _, _, H1.put H1.turn0 H1.turn1 r0⟩, B1.trans But.put⟩
/-- the head of the law: the hand at 2, its cells at 1 -/
theorem hand_ok {ns : List Int} (hl : ns.length ≤ 63) : Ret (m__law_hand [.ref 0] (S0 ns)) fun x S' => x = .ref 2 ∧ Hd S' 2 1 ∧ S'.n = 3 := by
  unfold m__law_hand
  walk_at "def"
  unfold b__law_hand
  have g0 : (S0 ns).g 0 = .con (ns.map .int) := rfl
  walk_at "wp"
  refine v_loop (fun i e S => S = S0 ns ∧ ∃ t a b, e = [some (.ref 0), some (.int t), a, b]) _ 0 _ _ ⟨rfl, _, _, _, rfl⟩ ?_ ?_
  · rintro i x e S hx ⟨rfl, t, a, b, rfl⟩
    obtain ⟨y, hy, rfl⟩ := prI_get hx
    obtain ⟨z, hz, rfl⟩ : ∃ z, ns[i]? = some z ∧ y = .int z := by
      rw [List.getElem?_map] at hy
      obtain ⟨z, h1, h2⟩ := Option.map_eq_some_iff.1 hy
      exact ⟨z, h1, h2.symm⟩
    have hi : i < ns.length := by
      obtain ⟨h, _⟩ := List.getElem?_eq_some_iff.1 hz
      exact h
    refine ⟨by simp [g0, seqO], _, rfl, ?_⟩
    walk_at "wp"
    exact ⟨rfl, _, _, _, rfl⟩
  · rintro e S ⟨rfl, t, a, b, rfl⟩
    refine ⟨by simp [g0, seqO], ?_⟩
    walk_at "wp"
    refine w_lcLoop (fun i acc S => S = S0 ns ∧ ∃ zs : List Int, zs.length = i ∧ acc = zs.map .int ∧ ∀ z ∈ zs, 0 ≤ z) _ 0 _ _ ⟨rfl, [], rfl, rfl, by simp⟩ ?_ ?_
    · rintro i x acc S hx ⟨rfl, zs, hzl, rfl, hz⟩
      obtain ⟨z, h1, rfl⟩ : ∃ z, ns[i]? = some z ∧ x = .int z := by
        rw [List.getElem?_map] at hx
        obtain ⟨z, h1, h2⟩ := Option.map_eq_some_iff.1 hx
        exact ⟨z, h1, h2.symm⟩
      have hi : i < ns.length := by
        obtain ⟨h, _⟩ := List.getElem?_eq_some_iff.1 h1
        exact h
      refine ⟨by simp [g0, seqO], _, rfl, ?_⟩
      walk_at "wp"
      refine ⟨?_, rfl, zs ++ [if z < 0 then -z else z], ?_, ?_, ?_⟩
      · rw [List.length_map, hzl]
        have : (64 : Nat) ≤ sizeLine := by decide
        omega
      · simp [hzl]; 
      · simp
      · intro w hw
        rcases List.mem_append.1 hw with h | h
        · exact hz w h
        · rw [List.mem_singleton.1 h]; split <;> omega
    · rintro acc S ⟨rfl, zs, hzl, rfl, hz⟩
      refine ⟨by simp [g0, seqO], ?_⟩
      walk_at "wp"
      refine ⟨rfl, ⟨zs, 0, 0, t, ⟨rfl, rfl, by decide, by show 2 < 3; decide, by show 1 < 3; decide, by decide, by omega, by decide, hz⟩⟩, rfl⟩
end Law
end

section
/-! ## H, part 2: data, dicts, the draws once more -/
open PySem L2
/-! the step of the pure proofs -/
local macro_rules
  | `(tactic| walk_at "wp side") => `(tactic| first | assumption | omega | decide)
local macro_rules
  | `(tactic| walk_at "wp1") => `(tactic| with_reducible first
    | refine Mm.v_seq ?_ | refine Mm.v_nx ?_ | refine Mm.v_asg ?_ | refine Mm.v_ret ?_ | refine Mm.v_retN ?_ | refine Mm.v_drop ?_ | refine Mm.v_set ?_ | refine Mm.v_aug ?_ | refine Mm.v_for ?_ | refine Mm.v_brk ?_ | refine Mm.v_ct ?_
    | refine Mm.w_con ?_ | refine Mm.w_op2 ?_ | refine Mm.w_op1 ?_ | refine Mm.w_opL ?_ | refine Mm.w_cons ?_ | refine Mm.w_nil ?_
    | refine Mm.w_add ?_ | refine Mm.w_sub ?_ | refine Mm.w_neg ?_ | refine Mm.w_lt ?_ | refine Mm.w_le ?_ | refine Mm.w_gt ?_ | refine Mm.w_ge ?_ | refine Mm.w_eqi ?_ | refine Mm.w_nei ?_ | refine Mm.w_eqs ?_ | refine Mm.w_nes ?_ | refine Mm.w_int ?_ | refine Mm.w_abs ?_ | refine Mm.w_isN ?_ | refine Mm.w_notN ?_ | refine Mm.w_min ?_ | refine Mm.w_max ?_
    | refine Mm.w_tru ?_ | refine Mm.w_blM ?_ | refine Mm.w_andB ?_ | refine Mm.w_orB ?_ | refine Mm.w_notB ?_ | refine Mm.w_ifV ?_ | refine Mm.w_andV ?_ | refine Mm.w_orV ?_ | refine Mm.w_notV ?_ | refine Mm.w_truB ?_ | refine Mm.w_truI ?_ | refine Mm.w_truN ?_ | refine Mm.w_truT ?_
    | refine Mm.w_dNewK ?_ | refine Mm.w_dNewT ?_ | refine Mm.w_iter ?_ | refine Mm.w_itmM ?_ | refine Mm.w_enm ?_ | refine Mm.w_enm2 ?_ | refine Mm.w_zip ?_ | refine Mm.w_rev ?_ | refine Mm.w_bm ?_ | refine Mm.w_lc ?_ | refine Mm.w_yes ?_ | refine Mm.br_t ?_ | refine Mm.br_f ?_ | refine Mm.w_slc ?_ | refine Mm.w_pno ?_ | refine Mm.w_pso ?_ | refine Mm.w_lenT ?_ | refine Mm.w_tupT ?_ | refine Mm.w_lstT ?_ | refine Mm.w_cutT ?_)
local macro_rules
  | `(tactic| walk_at "sto") => `(tactic| first
    | with_reducible assumption
    | with_reducible exact Mm.put_same
    | with_reducible exact Mm.add_same
    | (with_reducible refine (Mm.put_ne (by first | assumption | exact Ne.symm (by assumption) | ((try dsimp only [Mm.Sto.add, Mm.Sto.put]); omega))).trans ?_; walk_at "sto")
    | (with_reducible refine (Mm.add_ne (by first | assumption | exact Ne.symm (by assumption) | ((try dsimp only [Mm.Sto.add, Mm.Sto.put]); omega))).trans ?_; walk_at "sto")
    | fail)
local macro_rules
  | `(tactic| walk_at "wp2") => `(tactic| first
    | ((with_reducible apply Mm.w_var); · rfl)
    | ((with_reducible apply Mm.ex_mk); · with_reducible refine Mm.rng1 (by (try simp only [List.length_map]); omega))
    | ((with_reducible apply Mm.ex_mk); · with_reducible refine Mm.rng2 (by (try simp only [List.length_map]); omega))
    | ((with_reducible apply Mm.ex_mk); · rfl)
    | ((with_reducible refine Mm.br_true ?_ ?_); · rfl)
    | ((with_reducible refine Mm.br_false ?_ ?_); · rfl)
    | ((with_reducible refine Mm.w_mod ?_ ?_); · walk_at "wp side")
    | ((with_reducible refine Mm.w_div ?_ ?_ ?_); (· walk_at "wp side"); (· (first | decide | assumption)))
    | ((with_reducible refine Mm.w_mul ?_ ?_); · exact .inl (.inr (by decide)))
    | ((with_reducible refine Mm.w_mul ?_ ?_); · exact .inl (.inl (by decide)))
    | ((with_reducible refine Mm.w_mul ?_ ?_); · exact .inl (.inl (by omega)))
    | ((with_reducible refine Mm.w_mul ?_ ?_); · exact .inl (.inr (by omega)))
    | ((with_reducible refine Mm.w_pow ?_ ?_); · decide)
    | ((with_reducible refine Mm.w_lstV ?_ ?_); · (simp only [List.length_cons, List.length_nil]; decide))
    | ((with_reducible refine Mm.w_tupV ?_ ?_); · (simp only [List.length_cons, List.length_nil]; decide))
    | ((with_reducible apply Mm.w_idxL); (· walk_at "sto"); (· first | exact Mm.atI0 | exact Mm.atI1 | exact Mm.atI2 | exact Mm.atIl | rfl))
    | ((with_reducible apply Mm.w_idxC); (· walk_at "sto"); (· rfl))
    | ((with_reducible apply Mm.w_idxT); · first | exact Mm.atI0 | exact Mm.atI1 | exact Mm.atI2 | rfl)
    | ((with_reducible apply Mm.w_lenL); · walk_at "sto")
    | ((with_reducible apply Mm.w_lenC); · walk_at "sto")
    | ((with_reducible apply Mm.w_lenK); · walk_at "sto")
    | ((with_reducible apply Mm.w_tupL); · walk_at "sto")
    | ((with_reducible apply Mm.w_lstL); · walk_at "sto")
    | ((with_reducible apply Mm.w_cutL); · walk_at "sto")
    | ((with_reducible apply Mm.w_revL); · walk_at "sto")
    | ((with_reducible apply Mm.w_truL); · walk_at "sto")
    | ((with_reducible apply Mm.ex_mk); · exact Mm.it_lst (by walk_at "sto"))
    | ((with_reducible apply Mm.ex_mk); · exact Mm.it_con (by walk_at "sto"))
    | ((with_reducible apply Mm.ex_mk); · exact Mm.it_en2L (by walk_at "sto"))
    | ((with_reducible apply Mm.ex_mk); · exact Mm.it_en2C (by walk_at "sto"))
    | ((with_reducible apply Mm.ex_mk); · exact Mm.set_lst (by walk_at "sto") rfl)
    | ((with_reducible refine And.intro ?_ ?_); · exact Mm.ty_lst (by walk_at "sto"))
    | fail)
local macro_rules
  | `(tactic| walk_at "wq") => `(tactic| repeat' (first | (walk_at "wp1"; try dsimp only [List.set_cons_zero, List.set_cons_succ, Bool.not_true, Bool.not_false]) | (walk_at "wp2"; try dsimp only [Bool.not_true, Bool.not_false]) | fail))
local macro_rules
  | `(tactic| walk_at "wp") => `(tactic| repeat' (first | (with_reducible refine Mm.v_if ?_) | (walk_at "wp1"; try dsimp only [List.set_cons_zero, List.set_cons_succ, Bool.not_true, Bool.not_false]) | (walk_at "wp2"; try dsimp only [Bool.not_true, Bool.not_false]) | fail))
local macro_rules
  | `(tactic| walk_at "def") => `(tactic| (refine Mm.w_def rfl ?_; simp only [List.map_cons, List.map_nil, List.cons_append, List.nil_append, List.replicate, Nat.reduceSub, List.replicate_succ, List.replicate_zero]))
namespace Mm
/-! data that are compared -/
section
variable {S : Sto} {x y : MV} {d d' : PyData} {xs : List MV} {ds : List PyData} {n k : Nat}
def Fl (x : MV) (d : PyData) : Prop := ∀ f, toDw f x = some d
def FlL (xs : List MV) (ds : List PyData) : Prop := ∀ f, toDwL f xs = some ds
theorem fl_int {i : Int} : Fl (.int i) (.int i) := fun _ => rfl
theorem fl_bl {i : Bool} : Fl (.bl i) (.bool i) := fun _ => rfl
theorem fl_str {i : Str} : Fl (.str i) (.str i) := fun _ => rfl
theorem fl_non : Fl .non .none := fun _ => rfl
theorem fl_tup (h : FlL xs ds) : Fl (.tup xs) (.tuple ds) := fun f => by simp only [toDw, h f, Option.map_some]
theorem fll_nil : FlL [] [] := fun _ => rfl
theorem fll_cons (h : Fl x d) (hs : FlL xs ds) : FlL (x :: xs) (d :: ds) := fun f => by simp only [toDwL, h f, hs f]
theorem fll_map {al : Type} {f : al → MV} {g : al → PyData} : ∀ l : List al, (∀ a ∈ l, Fl (f a) (g a)) → FlL (l.map f) (l.map g)
  | [], _ => fll_nil
  | a :: l, h => fll_cons (h a (List.mem_cons_self)) (fll_map l fun b hb => h b (List.mem_cons_of_mem _ hb))
theorem fll_app {ys : List MV} {es : List PyData} : ∀ {xs : List MV} {ds : List PyData}, FlL xs ds → FlL ys es → FlL (xs ++ ys) (ds ++ es)
  | [], ds, h, h2 => by cases (h (fun _ => none)); exact h2
  | x :: xs, ds, h, h2 => by
    have key : ∃ d ds', ds = d :: ds' ∧ Fl x d ∧ FlL xs ds' := by
      cases q : ds with
      | nil => have := h (fun _ => none); simp only [toDwL, q] at this; split at this <;> cases this
      | cons d ds' =>
        refine ⟨d, ds', rfl, fun f => ?_, fun f => ?_⟩
        · have := h f
          simp only [toDwL, q] at this
          split at this
          · simp_all
          · cases this
        · have := h f
          simp only [toDwL, q] at this
          split at this
          · simp_all
          · cases this
    obtain ⟨d, ds', rfl, h3, h4⟩ := key
    exact fll_cons h3 (fll_app h4 h2)
theorem fll_ints (l : List Int) : FlL (l.map .int) (l.map .int) := fll_map l fun _ _ => fl_int
theorem toD_fl (h : Fl x d) : toD S x = some d := h _
theorem toD_lst (hS : S.g k = .lst xs) (h : FlL xs ds) : toD S (.ref k) = some (.list ds) := by
  simp only [toD, toDw, look, hS, seqO, h _, Option.map_some]
theorem toD_con (hS : S.g k = .con xs) (h : FlL xs ds) : toD S (.ref k) = some (.list ds) := by
  simp only [toD, toDw, look, hS, seqO, h _, Option.map_some]
def ShD (n : Nat) (d : PyData) : Prop := d.canLay0 = true ∧ d.depth ≤ n
def ShL (n : Nat) (ds : List PyData) : Prop := PyData.canLayAll0 ds = true ∧ PyData.depthAll ds ≤ n
theorem shd_int {i : Int} : ShD n (.int i) := ⟨rfl, Nat.zero_le _⟩
theorem shd_bl {i : Bool} : ShD n (.bool i) := ⟨rfl, Nat.zero_le _⟩
theorem shd_non : ShD n .none := ⟨rfl, Nat.zero_le _⟩
theorem shd_str {s : Str} (h : PyData.strOk s = true) : ShD n (.str s) := ⟨by simp [PyData.canLay0, h], Nat.zero_le _⟩
theorem shd_tup (h : ShL n ds) : ShD (n + 1) (.tuple ds) := ⟨by simpa [PyData.canLay0] using h.1, by simpa [PyData.depth] using h.2⟩
theorem shd_lst (h : ShL n ds) : ShD (n + 1) (.list ds) := ⟨by simpa [PyData.canLay0] using h.1, by simpa [PyData.depth] using h.2⟩
theorem shl_nil : ShL n [] := ⟨rfl, Nat.zero_le _⟩
theorem shl_cons (h : ShD n d) (hs : ShL n ds) : ShL n (d :: ds) := ⟨by simp [PyData.canLayAll0, h.1, hs.1], by simp only [PyData.depthAll]; exact Nat.max_le.2 ⟨h.2, hs.2⟩⟩
theorem shl_map {al : Type} {g : al → PyData} : ∀ l : List al, (∀ a ∈ l, ShD n (g a)) → ShL n (l.map g)
  | [], _ => shl_nil
  | a :: l, h => shl_cons (h a (List.mem_cons_self)) (shl_map l fun b hb => h b (List.mem_cons_of_mem _ hb))
theorem shl_ints (l : List Int) : ShL n (l.map .int) := shl_map l fun _ _ => shd_int
theorem sh_of (h : ShD n d) (hn : n ≤ 64 := by decide) : SeqAt.shaped d = true := by
  simp only [SeqAt.shaped, h.1, Bool.true_and, decide_eq_true_eq]
  exact Nat.le_trans h.2 hn
variable {Q : MV → Sto → Prop}
theorem w_neA (h1 : toD S x = some d) (h2 : toD S y = some d') (s1 : SeqAt.shaped d = true) (s2 : SeqAt.shaped d' = true) (q : Q (.bl (!PyData.eqv d d')) S) : Ret (neV x y S) Q := by
  unfold neV; simp only [h1, h2, s1, s2, and_self, true_or, if_true]; exact q
theorem w_eqA (h1 : toD S x = some d) (h2 : toD S y = some d') (s1 : SeqAt.shaped d = true) (s2 : SeqAt.shaped d' = true) (q : Q (.bl (PyData.eqv d d')) S) : Ret (eqV x y S) Q := by
  unfold eqV; simp only [h1, h2, s1, s2, and_self, true_or, if_true]; exact q
theorem eqv_sh (s : SeqAt.shaped d = true) : PyData.eqv d d = true := SeqAt.eqv_refl d (by simp only [SeqAt.shaped, Bool.and_eq_true] at s; exact s.1)
theorem w_neS (h1 : toD S x = some d) (h2 : toD S y = some d) (s : SeqAt.shaped d = true) (q : Q (.bl false) S) : Ret (neV x y S) Q := w_neA h1 h2 s s (by rw [eqv_sh s]; exact q)
theorem w_eqS (h1 : toD S x = some d) (h2 : toD S y = some d) (s : SeqAt.shaped d = true) (q : Q (.bl true) S) : Ret (eqV x y S) Q := w_eqA h1 h2 s s (by rw [eqv_sh s]; exact q)
end
/-! dicts -/
section
variable {ka : Type} [DecidableEq ka]
theorem valM_put (kvs : List (ka × MV)) (k k' : ka) (v : MV) : valM (putM kvs k v) k' = if k' = k then some v else valM kvs k' := by
  induction kvs with
  | nil =>
    by_cases h : k' = k
    · subst h; simp [putM, valM]
    · have : ¬k = k' := fun e => h e.symm
      simp [putM, valM, h, this]
  | cons p kvs ih =>
    unfold putM at ih ⊢
    by_cases hp : p.1 = k
    · by_cases h : k' = k
      · subst h; simp [valM, hp]
      · have h2 : ¬k = k' := fun e => h e.symm
        have e1 : ∀ l : List (ka × MV), ((l.map fun kv => if kv.1 = k then (kv.1, v) else kv).find? fun kv => decide (kv.1 = k')).map (·.2) = (l.find? fun kv => decide (kv.1 = k')).map (·.2) := by
          intro l
          induction l with
          | nil => rfl
          | cons q l ih =>
            rw [List.map_cons, List.find?_cons, List.find?_cons]
            by_cases hq : q.1 = k
            · have : ¬q.1 = k' := fun e => h2 (hq.symm.trans e)
              simp only [hq, if_true, h2, decide_false]; exact ih
            · simp only [hq, if_false]
              by_cases hq' : q.1 = k'
              · simp [hq']
              · simp only [hq', decide_false]; exact ih
        simp only [List.any_cons, hp, decide_true, Bool.true_or, if_true, if_neg h]
        exact e1 (p :: kvs)
    · simp only [List.any_cons, hp, decide_false, Bool.false_or] at ih ⊢
      by_cases ha : (kvs.any fun kv => decide (kv.1 = k)) = true
      · simp only [ha, if_true] at ih ⊢
        simp only [List.map_cons, hp, if_false]
        unfold valM at ih ⊢
        rw [List.find?_cons, List.find?_cons]
        by_cases hq' : p.1 = k'
        · have : ¬k' = k := fun e => hp (hq'.trans e)
          simp [hq', this]
        · simp only [hq', decide_false]; exact ih
      · simp only [ha] at ih ⊢
        unfold valM at ih ⊢
        simp only [Bool.false_eq_true, if_false] at ih ⊢
        rw [List.cons_append, List.find?_cons, List.find?_cons]
        by_cases hq' : p.1 = k'
        · have : ¬k' = k := fun e => hp (hq'.trans e)
          simp [hq', this]
        · simp only [hq', decide_false]; exact ih
theorem putM_len (kvs : List (ka × MV)) (k : ka) (v : MV) : (putM kvs k v).length ≤ kvs.length + 1 := by
  unfold putM; split <;> simp
end
/-- whatever stood ahead of n has not changed -/
def Ext (S S' : Sto) : Prop := S.n ≤ S'.n ∧ ∀ j, j < S.n → S'.g j = S.g j
theorem Ext.refl {S : Sto} : Ext S S := ⟨Nat.le_refl _, fun _ _ => rfl⟩
theorem Ext.trans {S S' S'' : Sto} (h : Ext S S') (h' : Ext S' S'') : Ext S S'' := ⟨Nat.le_trans h.1 h'.1, fun j hj => (h'.2 j (Nat.lt_of_lt_of_le hj h.1)).trans (h.2 j hj)⟩
theorem Ext.add {S S' : Sto} {o : MO} (h : Ext S S') : Ext S (S'.add o) := ⟨Nat.le_succ_of_le h.1, fun j hj => (add_ne (Nat.ne_of_lt (Nat.lt_of_lt_of_le hj h.1))).trans (h.2 j hj)⟩
theorem Ext.put {S S' : Sto} {o : MO} {k : Nat} (h : Ext S S') (hk : S.n ≤ k) : Ext S (S'.put k o) := ⟨h.1, fun j hj => (put_ne (Nat.ne_of_lt (Nat.lt_of_lt_of_le hj hk))).trans (h.2 j hj)⟩
theorem atI_mem {al : Type} {xs : List al} {i : Int} (h0 : 0 ≤ i) (h1 : i < xs.length) : ∃ x ∈ xs, xs[i.toNat]? = some x ∧ atI xs i = some x := by
  obtain ⟨n, rfl⟩ := Int.eq_ofNat_of_zero_le h0
  have hn : n < xs.length := by omega
  exact ⟨xs[n], List.getElem_mem hn, by simp [List.getElem?_eq_getElem hn], atI_nat (List.getElem?_eq_getElem hn)⟩
theorem cutM_to {al : Type} {xs : List al} {c : Int} (h : 0 ≤ c) : cutM xs none (some c) = xs.take c.toNat := by
  obtain ⟨n, rfl⟩ := Int.eq_ofNat_of_zero_le h
  unfold cutM
  rw [HT.sIx_none, HT.sIx_nat, List.drop_zero, Nat.sub_zero, Int.toNat_natCast]
  rcases Nat.le_total n xs.length with h | h
  · rw [Nat.min_eq_left h]
  · rw [Nat.min_eq_right h, List.take_length, List.take_of_length_le h]
theorem cutM_from {al : Type} {xs : List al} {c : Int} (h : 0 ≤ c) : cutM xs (some c) none = xs.drop c.toNat := by
  obtain ⟨n, rfl⟩ := Int.eq_ofNat_of_zero_le h
  unfold cutM
  rw [HT.sIx_none, HT.sIx_nat, Int.toNat_natCast]
  rcases Nat.le_total n xs.length with h | h
  · rw [Nat.min_eq_left h, List.take_of_length_le (by simp)]
  · rw [Nat.min_eq_right h, List.drop_length, List.drop_of_length_le h, List.take_nil]
theorem cutM_mid {al : Type} {xs : List al} {a b : Int} (h : 0 ≤ a) (h2 : 0 ≤ b) : cutM xs (some a) (some b) = (xs.drop a.toNat).take (b.toNat - a.toNat) := by
  obtain ⟨n, rfl⟩ := Int.eq_ofNat_of_zero_le h
  obtain ⟨m, rfl⟩ := Int.eq_ofNat_of_zero_le h2
  unfold cutM
  rw [HT.sIx_nat, HT.sIx_nat, Int.toNat_natCast, Int.toNat_natCast]
  rcases Nat.le_total n xs.length with h | h
  · rw [Nat.min_eq_left h]
    rcases Nat.le_total m xs.length with h' | h'
    · rw [Nat.min_eq_left h']
    · rw [Nat.min_eq_right h', List.take_of_length_le (by simp), List.take_of_length_le (by simp; omega)]
  · rw [Nat.min_eq_right h, List.drop_length, List.drop_of_length_le h, List.take_nil, List.take_nil]
theorem get_map {al be : Type} {f : al → be} {l : List al} {i : Nat} {x : be} (h : (l.map f)[i]? = some x) : ∃ b, l[i]? = some b ∧ x = f b ∧ b ∈ l := by
  rw [List.getElem?_map] at h
  obtain ⟨b, h1, h2⟩ := Option.map_eq_some_iff.1 h
  exact ⟨b, h1, h2.symm, List.mem_of_getElem? h1⟩
theorem take_snoc {al : Type} {l : List al} {i : Nat} {b : al} (h : l[i]? = some b) : l.take (i + 1) = l.take i ++ [b] := by
  rw [List.take_add_one, h]; rfl
theorem ck_l {a : Nat} {xs : List MV} {S : Sto} (h : S.g a = .lst xs) : ckOk [(a, xs)] S := by simp [h, seqO]
theorem ck_c {a : Nat} {xs : List MV} {S : Sto} (h : S.g a = .con xs) : ckOk [(a, xs)] S := by simp [h, seqO]
theorem ck_n {S : Sto} : ckOk [] S := by simp
end Mm
namespace Law
open PySem L2 Mm
theorem Hd.ext {S S' : Sto} {h c : Nat} (H : Hd S h c) (E : Ext S S') : Hd S' h c := by
  obtain ⟨cells, turn, rest, seed, H⟩ := H
  exact ⟨cells, turn, rest, seed, ⟨(E.2 _ H.lt).trans H.at_h, (E.2 _ H.ltc).trans H.at_c, H.ne, Nat.lt_of_lt_of_le H.lt E.1, Nat.lt_of_lt_of_le H.ltc E.1, H.turn0, H.turn1, H.rest0, H.pos⟩⟩
theorem Hd.put {S : Sto} {h c k : Nat} {o : MO} (H : Hd S h c) (h1 : k ≠ h) (h2 : k ≠ c) : Hd (S.put k o) h c := by
  obtain ⟨cells, turn, rest, seed, H⟩ := H
  exact ⟨cells, turn, rest, seed, ⟨(put_ne (Ne.symm h1)).trans H.at_h, (put_ne (Ne.symm h2)).trans H.at_c, H.ne, H.lt, H.ltc, H.turn0, H.turn1, H.rest0, H.pos⟩⟩
theorem Hd.add {S : Sto} {h c : Nat} {o : MO} (H : Hd S h c) : Hd (S.add o) h c := H.ext (Ext.refl.add)
theorem log_ok {m : Int} (h0 : 0 < m) (h1 : m < 2 ^ 62) : m.natAbs.log2 < 9000 :=
  Nat.lt_trans ((Nat.log2_lt (by omega)).2 (show m.natAbs < 2 ^ 62 by omega)) (by decide)
theorem draw {S : Sto} {h c : Nat} {many : Int} (H : Hd S h c) (h0 : 0 < many) (h1 : many < 2 ^ 62) : Ret (m__law_draw [.ref h, .int many] S) fun x S' => (∃ r : Int, 0 ≤ r ∧ r < many ∧ x = .int r) ∧ Hd S' h c ∧ But h S S' := draw_ok H h0 (log_ok h0 h1)
theorem pickT {S : Sto} {h c : Nat} {xs : List MV} (H : Hd S h c) (h0 : 0 < xs.length) (h1 : (xs.length : Int) < 2 ^ 62) : Ret (m__law_pick [.ref h, .tup xs] S) fun x S' => x ∈ xs ∧ Hd S' h c ∧ But h S S' := by
  unfold m__law_pick
  walk_at "def"
  unfold b__law_pick
  walk_at "wp"
  refine (draw H (by omega) h1).imp ?_
  rintro _ S1 ⟨⟨r, r0, r1, rfl⟩, H1, B1⟩
  obtain ⟨x, hx, _, hat⟩ := atI_mem (xs := xs) r0 r1
  exact w_idxT hat ⟨hx, H1, B1⟩
theorem pickL {S : Sto} {h c l : Nat} {xs : List MV} (H : Hd S h c) (hl : S.g l = .lst xs) (hn : l ≠ h) (h0 : 0 < xs.length) (h1 : (xs.length : Int) < 2 ^ 62) : Ret (m__law_pick [.ref h, .ref l] S) fun x S' => x ∈ xs ∧ Hd S' h c ∧ But h S S' := by
  unfold m__law_pick
  walk_at "def"
  unfold b__law_pick
  walk_at "wp"
  refine (draw H (by omega) h1).imp ?_
  rintro _ S1 ⟨⟨r, r0, r1, rfl⟩, H1, B1⟩
  obtain ⟨x, hx, _, hat⟩ := atI_mem (xs := xs) r0 r1
  exact w_idxL ((B1.2 _ hn).trans hl) hat ⟨hx, H1, B1⟩
end Law
end

section
/-! ## H, part 3: how long a repr is -/
open PySem L2
namespace Mm
/-! ### how long a repr is -/
def Smd (D c : Nat) (d : PyData) : Prop := d.showable = true ∧ d.depth ≤ D ∧ d.shown.length ≤ c
theorem Smd.mono {D c D' c' : Nat} {d : PyData} (h : Smd D c d) (hD : D ≤ D' := by decide) (hc : c ≤ c' := by decide) : Smd D' c' d := ⟨h.1, Nat.le_trans h.2.1 hD, Nat.le_trans h.2.2 hc⟩
theorem Smd.ok {D c : Nat} {d : PyData} (h : Smd D c d) (hD : D ≤ 60 := by decide) (hc : c ≤ sizeLine := by decide) : shOk d := ⟨h.1, Nat.le_trans h.2.1 hD, Nat.le_trans h.2.2 hc⟩
theorem sm_int {i : Int} (h : i.natAbs < 10 ^ 18) : Smd 0 19 (.int i) := by
  refine ⟨?_, Nat.le_refl _, by show (Str.ofString (toString i)).length ≤ 19; rw [ofString_length]; exact int_text_length_le10 (k := 18) (by decide) h⟩
  simp only [PyData.showable, decide_eq_true_eq]
  by_cases z : i.natAbs = 0
  · rw [z]; decide
  · exact Nat.lt_trans ((Nat.log2_lt z).2 (Nat.lt_of_lt_of_le h (show 10 ^ 18 ≤ 2 ^ 100 by decide))) (by decide)
theorem sm_str {s : Str} {m : Nat} (h : PyData.strOk s = true) (hl : s.length ≤ m) : Smd 0 (10 * m + 2) (.str s) := by
  refine ⟨rfl, Nat.le_refl _, ?_⟩
  have := StrLaws.reprText_len s (fun c hc => by
    have h' : s.cps.all (· < 0x110000) = true := h
    have := Array.all_eq_true'.1 h' c (by simpa using hc)
    simp only [decide_eq_true_eq] at this
    exact Nat.lt_trans this (by decide))
  show (reprText s).length ≤ _
  omega
def piledLe : ∀ (ts : List Str) (c : Nat), (∀ t ∈ ts, t.length ≤ c) → piled ts ≤ ts.length * (c + 2)
  | [], c, _ => by simp [piled]
  | t :: ts, c, h => by
    have h1 := h t List.mem_cons_self
    have h2 := piledLe ts c fun t ht => h t (List.mem_cons_of_mem _ ht)
    simp only [piled, List.map_cons, List.sum_cons, List.length_cons, Nat.add_mul] at *
    omega
theorem sm_all {D c : Nat} : ∀ {ds : List PyData}, (∀ d ∈ ds, Smd D c d) → PyData.showableAll ds = true ∧ PyData.depthAll ds ≤ D ∧ ∀ t ∈ PyData.shownAll ds, t.length ≤ c
  | [], _ => ⟨rfl, Nat.zero_le _, fun t h => by cases h⟩
  | d :: ds, h => by
    obtain ⟨h1, h2, h3⟩ := h d List.mem_cons_self
    obtain ⟨g1, g2, g3⟩ := sm_all fun d hd => h d (List.mem_cons_of_mem _ hd)
    refine ⟨by simp [PyData.showableAll, h1, g1], by simp only [PyData.depthAll]; exact Nat.max_le.2 ⟨h2, g2⟩, fun t ht => ?_⟩
    simp only [PyData.shownAll, List.mem_cons] at ht
    rcases ht with rfl | ht
    · exact h3
    · exact g3 t ht
theorem shownAll_len : ∀ ds : List PyData, (PyData.shownAll ds).length = ds.length
  | [] => rfl
  | d :: ds => by simp [PyData.shownAll, shownAll_len ds]
theorem join_le {ts : List Str} {c : Nat} (h : ∀ t ∈ ts, t.length ≤ c) : (Str.join ", " ts).length ≤ ts.length * (c + 2) := by
  by_cases z : ts = []
  · subst z; exact Nat.zero_le _
  · have h1 := join_length_add ts z
    have h2 := piledLe ts c h
    omega
theorem sm_tup {D c n : Nat} {ds : List PyData} (h : ∀ d ∈ ds, Smd D c d) (hn : ds.length ≤ n) : Smd (D + 1) (n * (c + 2) + 3) (.tuple ds) := by
  obtain ⟨h1, h2, h3⟩ := sm_all h
  refine ⟨by simpa [PyData.showable] using h1, by simp only [PyData.depth]; omega, ?_⟩
  have e : (tupleText (PyData.shownAll ds)).length ≤ 1 + (Str.join ", " (PyData.shownAll ds)).length + 2 := by
    unfold tupleText
    rw [strLen_append, strLen_append]
    have : (((if (PyData.shownAll ds).length == 1 then ",)" else ")" : String) : Str)).length ≤ 2 := by split <;> decide
    have e1 : (("(" : Str)).length = 1 := rfl
    omega
  have j := join_le h3
  rw [shownAll_len] at j
  have m : ds.length * (c + 2) ≤ n * (c + 2) := Nat.mul_le_mul_right _ hn
  show (tupleText (PyData.shownAll ds)).length ≤ _
  omega
theorem sm_kv {D c k : Nat} : ∀ {kvs : List (PyData × PyData)}, (∀ p ∈ kvs, Smd D k p.1 ∧ Smd D c p.2) → PyData.showableKv kvs = true ∧ PyData.depthKv kvs ≤ D ∧ (∀ t ∈ PyData.shownKv kvs, t.length ≤ k + 2 + c) ∧ (PyData.shownKv kvs).length = kvs.length
  | [], _ => ⟨rfl, Nat.zero_le _, fun t h => (by cases h), rfl⟩
  | (a, b) :: kvs, h => by
    obtain ⟨⟨h1, h2, h3⟩, h4, h5, h6⟩ := h (a, b) List.mem_cons_self
    obtain ⟨g1, g2, g3, g4⟩ := sm_kv fun d hd => h d (List.mem_cons_of_mem _ hd)
    refine ⟨by simp [PyData.showableKv, h1, h4, g1], by simp only [PyData.depthKv]; exact Nat.max_le.2 ⟨Nat.max_le.2 ⟨h2, h5⟩, g2⟩, fun t ht => ?_, by simp [PyData.shownKv, g4]⟩
    simp only [PyData.shownKv, List.mem_cons] at ht
    rcases ht with rfl | ht
    · rw [strLen_append, strLen_append]
      have e1 : ((": " : Str)).length = 2 := rfl
      simp only at h3 h6
      omega
    · exact g3 t ht
theorem sm_dict {D c k n : Nat} {kvs : List (PyData × PyData)} (h : ∀ p ∈ kvs, Smd D k p.1 ∧ Smd D c p.2) (hn : kvs.length ≤ n) : Smd (D + 1) (n * (k + 2 + c + 2) + 2) (.dict kvs) := by
  obtain ⟨h1, h2, h3, h4⟩ := sm_kv h
  refine ⟨by simpa [PyData.showable] using h1, by simp only [PyData.depth]; omega, ?_⟩
  have e : (dictText (PyData.shownKv kvs)).length = 1 + (Str.join ", " (PyData.shownKv kvs)).length + 1 := by
    unfold dictText
    rw [strLen_append, strLen_append]; rfl
  have j := join_le h3
  rw [h4] at j
  have m : kvs.length * (k + 2 + c + 2) ≤ n * (k + 2 + c + 2) := Nat.mul_le_mul_right _ hn
  show (dictText (PyData.shownKv kvs)).length ≤ _
  omega
/-- all that stood ahead of n, but for h, has not changed -/
def ExtH (h : Nat) (S S' : Sto) : Prop := S.n ≤ S'.n ∧ ∀ j, j < S.n → j ≠ h → S'.g j = S.g j
theorem ExtH.refl {h : Nat} {S : Sto} : ExtH h S S := ⟨Nat.le_refl _, fun _ _ _ => rfl⟩
theorem ExtH.trans {h : Nat} {S S' S'' : Sto} (a : ExtH h S S') (b : ExtH h S' S'') : ExtH h S S'' := ⟨Nat.le_trans a.1 b.1, fun j hj hh => (b.2 j (Nat.lt_of_lt_of_le hj a.1) hh).trans (a.2 j hj hh)⟩
theorem Ext.h {h : Nat} {S S' : Sto} (a : Ext S S') : ExtH h S S' := ⟨a.1, fun j hj _ => a.2 j hj⟩
theorem ExtH.add {h : Nat} {S S' : Sto} {o : MO} (a : ExtH h S S') : ExtH h S (S'.add o) := a.trans (Ext.refl.add).h
theorem ExtH.put {h k : Nat} {S S' : Sto} {o : MO} (a : ExtH h S S') (hk : S.n ≤ k) : ExtH h S (S'.put k o) := ⟨a.1, fun j hj hh => (put_ne (Nat.ne_of_lt (Nat.lt_of_lt_of_le hj hk))).trans (a.2 j hj hh)⟩
end Mm
namespace Law
open PySem L2 Mm
theorem But.h {h : Nat} {S S' : Sto} (a : But h S S') : ExtH h S S' := ⟨Nat.le_of_eq a.1.symm, fun j _ hh => a.2 j hh⟩
end Law
end

section
/-! ## M, part 14: instances: attributes, making, methods, == by an own __eq__, isinstance -/
namespace Mm
open PySem L2 PyProof.Rows
/-- a def without fuel -/
theorem fnG_bad {P : Program} {w : World} {K : PySem.W.Frag} {mg : Str → Option Value} {base : Heap} {k : Nat} {f : Addr} {fd : FuncData} {ps : List Str} : FnG P w K mg base k f fd ps (spM K (fun (_ : List MV) (_ : Sto) => Res.bad)) :=
  ⟨fun vs H Q E ⟨_, _, _, _, _, f⟩ => f.elim, fun _ _ _ _ _ ⟨_, _, _, _, _, f⟩ => f.elim⟩
section
variable {X : Cx} {W : WX} {K : PySem.W.Frag} {a b c e o value : Expr} {pos pos' tpos : Pos} {ma mb mc m mo mv : EM} {rho : Nat → Addr} {S : Sto} {H : Hp}
theorem ins_at (s : Sim K rho S H) {k : Nat} (hk : k < S.n) {C : CId} {fs : List (Str × MV)} (h : S.g k = .ins C fs) : ∃ dx ws, H (rho k) = some (.ins C.ad dx ws) ∧ RepP K rho S.n H fs ws := by
  have ho := s.obj k hk
  rw [h] at ho
  exact ho
theorem RepP.look : ∀ {ps : List (Str × MV)} {ws : List (Str × V)} {f : Str}, RepP K rho S.n H ps ws → (∀ x, ps.lookup f = some x → ∃ v, ws.lookup f = some v ∧ Rep K rho S.n H x v) ∧ (ps.lookup f = none → ws.lookup f = none)
  | [], ws, f, h => by rw [show ws = [] from h]; exact ⟨fun x e => (by cases e), fun _ => rfl⟩
  | p :: ps, ws, f, h => by
    obtain ⟨v, r, h1, h2, h3⟩ := h
    subst h1
    obtain ⟨g, x⟩ := p
    have ih := RepP.look (f := f) h3
    by_cases q : (f == g) = true
    · refine ⟨fun y e => ?_, fun e => ?_⟩
      · simp only [List.lookup, q] at e ⊢
        cases e; exact ⟨v, rfl, h2⟩
      · simp only [List.lookup, q] at e; cases e
    · have q : (f == g) = false := by simpa using q
      refine ⟨fun y e => ?_, fun e => ?_⟩
      · simp only [List.lookup, q] at e ⊢
        exact ih.1 y e
      · simp only [List.lookup, q] at e ⊢
        exact ih.2 e
def putFM (f : Str) (v : MV) : List (Str × MV) → List (Str × MV)
  | [] => [(f, v)]
  | (g, x) :: r => if g = f then (g, v) :: r else (g, x) :: putFM f v r
theorem RepP.putF {f : Str} {x : MV} {v : V} (rx : Rep K rho S.n H x v) : ∀ {ps : List (Str × MV)} {ws : List (Str × V)}, RepP K rho S.n H ps ws → RepP K rho S.n H (putFM f x ps) (L2.putF f v ws)
  | [], ws, h => by rw [show ws = [] from h]; exact ⟨v, [], rfl, rx, rfl⟩
  | (g, y) :: ps, ws, h => by
    obtain ⟨u, r, h1, h2, h3⟩ := h
    subst h1
    unfold putFM L2.putF
    by_cases q : g = f
    · rw [if_pos q, if_pos q]; exact ⟨v, r, rfl, rx, h3⟩
    · rw [if_neg q, if_neg q]; exact ⟨u, _, rfl, h2, RepP.putF rx h3⟩

/-! ### e.f -/
def insO (x : MV) (S : Sto) : Option (Nat × CId × List (Str × MV)) := match x with
  | .ref k => match S.g k with
    | .ins C fs => some (k, C, fs)
    | _ => none
  | _ => none
theorem insO_ok (s : Sim K rho S H) {x : MV} {v : V} (r : Rep K rho S.n H x v) {k : Nat} {C : CId} {fs : List (Str × MV)} (h : insO x S = some (k, C, fs)) : x = .ref k ∧ k < S.n ∧ S.g k = .ins C fs ∧ v = .ref (rho k) ∧ ∃ dx ws, H (rho k) = some (.ins C.ad dx ws) ∧ RepP K rho S.n H fs ws := by
  unfold insO at h
  split at h
  · split at h
    · rename_i q
      cases h
      obtain ⟨h1, h2⟩ := r
      exact ⟨rfl, h1, q, h2, ins_at s h1 q⟩
    · cases h
  · cases h
/-- of the classes cs, whose instances may have the attribute -/
def fldV (cs : List CId) (f : Str) (x : MV) (S : Sto) : Res MV := match insO x S with
  | some (_, C, fs) => if C ∈ cs then optV (fs.lookup f) S else .bad
  | none => .bad
structure FldOk (K : PySem.W.Frag) (C : CId) (f : Str) : Prop where
  c : Cls K C.ad
  n : NoAttr K C.ad f
theorem mp_fld {cs : List CId} {f : Str} (hc : ∀ C ∈ cs, FldOk X.K C f) (he : PE X e (tM X.K W m)) (hb : attributeBase e f X.env (eval e X.env) = eval e X.env := by rfl) : PE X (.Attribute e f pos) (tM X.K W (op1 (fldV cs f) m)) :=
  PE.to (pe_fld he hb) fun sg H Q h => (tG_bind (rel := rV) h).imp fun vx H1 ⟨rho, e, S, x, s, re, rx, f⟩ => by
    simp only [fldV] at f
    split at f
    · rename_i k C fs q
      obtain ⟨rfl, hk, hS, rfl, dx, ws, h1, h2⟩ := insO_ok s rx q
      split at f
      · rename_i hC
        obtain ⟨y, q2, f⟩ := f.opt
        obtain ⟨v, q3, rv⟩ := h2.look.1 y q2
        exact ⟨_, _, dx, ws, v, rfl, h1, (hc C hC).c, (hc C hC).n, q3, f.val s rv⟩
      · exact f.elim
    · exact f.elim
/-! ### e.f = value -/
def setFM (cs : List CId) (f : Str) (mo mv : EM) : SM := useM mv fun v => useM mo fun o => fun e S => match insO o S with
  | some (k, C, fs) => if C ∈ cs ∧ fs.length < 1000 then .nx e (S.put k (.ins C (putFM f v fs))) else .bad
  | none => .bad
theorem ms_fld {cs : List CId} {f : Str} (hc : ∀ C ∈ cs, FldOk X.K C f) (ho : PE X o (tM X.K W mo)) (hv : PE X value (tM X.K W mv)) (hs : swapsWith value (some (.Attribute o f pos')) pos.line X.env = pure false := by rfl) :
    PS X (.Assign [.Attribute o f pos'] value pos) (tS X.K W (setFM cs f mo mv)) :=
  PS.to (ps_fld ho hv hs) fun D sg H h => (tS_use (rel := rV) h).imp fun vv H1 ⟨rho, e, S, y, s, re, r, z⟩ => by
    refine ⟨rho, e, S, s, re, ?_⟩
    unfold useM at z
    cases q : mo e S with
    | exc ex S' => rw [q] at z; exact fun rho' H' d s' l' r' => z rho' H' sg d s' l' (re.le l') r'
    | bad => rw [q] at z; exact z
    | ok o' S' =>
      rw [q] at z
      intro rho' H' vo s' l' ro
      have z' := z.step l'
      simp only at z'
      split at z'
      · rename_i k C fs q2
        obtain ⟨rfl, hk, hS, rfl, dx, ws, h1, h2⟩ := insO_ok s' ro q2
        split at z'
        · rename_i hC
          refine ⟨_, _, dx, ws, rfl, h1, (hc C hC.1).c, (hc C hC.1).n, by rw [h2.len]; exact hC.2, ?_⟩
          have mm : (S'.g k).mut = true := by rw [hS]; rfl
          have hm := isMut_some h1 trivial
          have l2 : Le X.K rho' S' H' rho' (S'.put k (.ins C (putFM f y fs))) (upd H' (rho' k) (.ins C.ad dx (L2.putF f vv ws))) := Le.put s' hk mm rfl
          exact z' rho' _ sg (s'.put hk mm ⟨dx, _, upd_same, (RepP.putF (r.le l') h2).upd hm⟩) l2 ((re.le l').le l2)
        · exact z'.elim
      · exact z'.elim
end

/-! ### C(..) -/
def newV (C : CId) (m : List MV → Sto → Res MV) (xs : List MV) (S : Sto) : Res MV := match m (.ref S.n :: xs) (S.add (.ins C [])) with
  | .ok .non S' => .ok (.ref S.n) S'
  | .exc ex S' => .exc ex S'
  | _ => .bad
structure NewG (P : Program) (w : World) (K : PySem.W.Frag) (mg : Str → Option Value) (base : Heap) (k : Nat) (x : Str) (C : CId) (m : List MV → Sto → Res MV) : Prop where
  ex : ∃ (f : Addr) (fd : FuncData) (ps : List Str), Mk K C.ad f ∧ FnG P w K mg base k f fd ps (spM K m) ∧ mg x = some (.ref C.ad) ∧ Binds K fd ps []
theorem guards_make {A : Around} {C : Addr} {us : List Value} (h : A.guards = some []) : (A.under (.builtin "type.__call__" ⟨.ref C :: us, []⟩)).guards = some [] := by
  show pushGuards (Code.guards (.builtin "type.__call__" ⟨.ref C :: us, []⟩)) A.guards = some []
  have : Code.guards (.builtin "type.__call__" ⟨.ref C :: us, []⟩) = [] := by first | rfl | simp [Code.guards, Code.isGuard, guardIds]
  rw [this, h]; rfl
section
variable {X : Cx} {W : WX} {C : CId}
theorem run_makeG {pins : List (Addr × Obj)} {sg : L2.St} {H : Hp} {s : Shared} {Q : VK} {us : List Value} {vs : List V} {k : Nat} {f C : Addr} {fd : FuncData} {ps : List Str} {sp : Sp} {E : XK} (M : Mk X.K C f) (F : FnG X.prog X.w X.K X.mg X.base k f fd ps sp) (gd : X.A.guards = some []) (hr : Room (k + 1) X.A) (hb : Binds X.K fd ps [])
    (hx : PassesAt (L2.CX X.prog X.w) X sg E) (I : Inv X pins sg H s) (r : Vals vs us)
    (h : ∀ x dx, H x = none → H dx = none → dx ≠ x → sp (.ref x :: vs) (upd (upd H dx (.own x)) x (.ins C dx [])) (fun v H2 => v = .non ∧ Q (.ref x) H2) E) :
    wpAny (model X.prog X.w) X.A (call (.ref C) us) (EP X pins sg Q) X.xe s := by
  have hq := h (s.heap.objs.size + 1) s.heap.objs.size (I.hok.fresh (Nat.le_succ _)) (I.hok.fresh (Nat.le_refl _)) (Nat.ne_of_lt (Nat.lt_succ_self _))
  have I2 := Inv.made (C := C) I
  have r2 : Vals (V.ref (s.heap.objs.size + 1) :: vs) (Value.ref (s.heap.objs.size + 1) :: us) := .cons rfl r
  have hl : (Value.ref (s.heap.objs.size + 1) :: us).length = ps.length := by
    have e := r2.length
    rw [F.ln _ _ _ _ hq] at e
    exact e.symm
  have b := hb _ (Value.ref (s.heap.objs.size + 1) :: us) I2.kIn (by simpa using hl)
  rw [List.append_nil] at b
  refine wpAny_call (make_map (f := f) I.kIn M.makes M.init (beq_iff_eq.mp M.fn) (codeAny_mono (F.go (out := X.stack) (ar := ⟨Value.ref (s.heap.objs.size + 1) :: us, []⟩) (us := Value.ref (s.heap.objs.size + 1) :: us) (guards_make gd) (hr.make C us [])
    (I2.env0.make C us []) b r2 hq) fun r s' hq' => ?_))
  match r, hq' with
  | .error e, z => exact hx pins _ _ e s' I2 z
  | .ok (.ret u), z =>
    obtain ⟨v, H', I3, rv, ev, q3⟩ := I2.after z
    subst ev
    exact ⟨rv, ⟨V.ref (s.heap.objs.size + 1), H', I3, rfl, q3⟩⟩
  | .ok .next, z => exact z.elim
  | .ok .brk, z => exact z.elim
  | .ok .cont, z => exact z.elim
theorem newV_sp {K : PySem.W.Frag} {rho : Nat → Addr} {S : Sto} {H : Hp} {Q : VK} {E : XK} {m : List MV → Sto → Res MV} {xs : List MV} {vs : List V} (sm : Sim K rho S H) (rl : RepL K rho S.n H xs vs) (fn : Fin K rV rho S H Q E (newV C m xs S)) :
    ∀ x dx, H x = none → H dx = none → dx ≠ x → spM K m (.ref x :: vs) (upd (upd H dx (.own x)) x (.ins C.ad dx [])) (fun v H2 => v = .non ∧ Q (.ref x) H2) E := by
  intro x dx hx hd hne
  have hx' : upd H dx (.own x) x = none := by rw [upd_ne (Ne.symm hne)]; exact hx
  have l : Le K rho S H (ext rho S.n x) (S.add (.ins C [])) (upd (upd H dx (.own x)) x (.ins C.ad dx [])) := (Le.ofNew hd).trans (Le.add hx')
  refine ⟨ext rho S.n x, .ref S.n :: xs, S.add (.ins C []), (sm.ofNew hd).add hx' rfl ⟨dx, [], upd_same, rfl⟩, ⟨_, _, rfl, ⟨Nat.lt_succ_self _, by rw [ext_at]⟩, rl.le l⟩, ?_⟩
  have fn := fn.step l
  unfold newV at fn
  cases q : m (.ref S.n :: xs) (S.add (.ins C [])) with
  | bad => rw [q] at fn; exact fn
  | exc ex S2 => rw [q] at fn; exact fn
  | ok y S2 =>
    rw [q] at fn
    cases y with
    | non =>
      intro rho2 H2 v s2 l2 r2
      have hn : S.n < S2.n := Nat.lt_of_lt_of_le (Nat.lt_succ_self _) l2.n
      exact ⟨r2, fn rho2 H2 (.ref x) s2 l2 ⟨hn, by rw [l2.r S.n (Nat.lt_succ_self _), ext_at]⟩⟩
    | _ => exact fn.elim
theorem mcN {k j : Nat} {m : List MV → Sto → Res MV} {x : Str} {p pos : Pos} {e : Expr} {es : List Expr} {ml : EMt (List MV)} (N : NewG X.prog X.w X.K X.mg X.base k x C m) (tk : Takes X W) (gd : X.A.guards = some []) (hr : Room j X.A)
    (ha : PA X (e :: es) (tA X.K W ml)) (hkj : k + 1 ≤ j := by decide) (hg : Gl X x := by rfl) (hdb : (x == ("__debug__" : Str)) = false := by decide) (he : starEach (e :: es) X.env = (false, eval e X.env) :: starEach es X.env := by rfl) (hpl : (backTo pos (starEach es X.env)).any (·.1) = false := by rfl) :
    PE X (.Call (.Name x p) (e :: es) [] pos) (tM X.K W (opL (newV C m) ml)) := by
  obtain ⟨f, fd, ps, M, F, hm, hb⟩ := N.ex
  constructor
  intro pins s sg H Q I h
  have h2 := (tG_bind (rel := rL) h)
  apply wpAny_Call_Name_kw
  apply ld_glob I hg hm _ hdb
  refine PySem.W.callWith_K (h₀ := X.base) I.ok.mod.kin M.kp (thn (ha.run pos pins s sg H _ I h2) fun us s1 z => ?_) he hpl
  obtain ⟨vs, H1, I1, r, rho, en, S, xs, sm, re, rl, fn⟩ := z
  exact ⟨I1.kIn, run_makeG M F gd (hr.mono hkj) hb (passAt tk sg) I1 r (newV_sp sm rl fn)⟩
theorem mcN0 {k j : Nat} {m : List MV → Sto → Res MV} {x : Str} {p pos : Pos} (N : NewG X.prog X.w X.K X.mg X.base k x C m) (tk : Takes X W) (gd : X.A.guards = some []) (hr : Room j X.A)
    (hkj : k + 1 ≤ j := by decide) (hg : Gl X x := by rfl) (hdb : (x == ("__debug__" : Str)) = false := by decide) : PE X (.Call (.Name x p) [] [] pos) (tM X.K W (opL (newV C m) nilM)) := by
  obtain ⟨f, fd, ps, M, F, hm, hb⟩ := N.ex
  constructor
  intro pins s sg H Q I h
  obtain ⟨rho, en, S, sm, re, fn⟩ := h
  apply wpAny_Call_Name_kw
  apply ld_glob I hg hm _ hdb
  exact PySem.W.callWith_K0 I.kIn M.kp (run_makeG (us := []) (vs := []) M F gd (hr.mono hkj) hb (passAt tk sg) I .nil (newV_sp sm (show RepL X.K rho S.n H [] [] from rfl) fn))
/-- f() -/
theorem mcG0 {k j : Nat} {m : List MV → Sto → Res MV} {x : Str} {p pos : Pos} (N : CalG X.prog X.w X.K X.mg X.base k x m) (tk : Takes X W) (gd : X.A.guards = some []) (hr : Room j X.A)
    (hkj : k ≤ j := by decide) (hg : Gl X x := by rfl) (hdb : (x == ("__debug__" : Str)) = false := by decide) : PE X (.Call (.Name x p) [] [] pos) (tM X.K W (opL m nilM)) := by
  obtain ⟨f, fd, ps, F, hm, hk, hb⟩ := N.ex
  constructor
  intro pins s sg H Q I h
  obtain ⟨rho, en, S, sm, re, fn⟩ := h
  apply wpAny_Call_Name_kw
  apply ld_glob I hg hm _ hdb
  exact PySem.W.callWith_K0 I.kIn hk (run_fnG (us := []) (vs := []) F gd (hr.mono hkj) hb (passAt tk sg) I .nil ⟨rho, [], S, sm, rfl, fn⟩)

/-! ### o.m(..) -/
abbrev MF := List MV → Sto → Res MV
structure MetG (P : Program) (w : World) (K : PySem.W.Frag) (mg : Str → Option Value) (base : Heap) (k : Nat) (C : CId) (mn : Str) (m : MF) : Prop where
  ex : ∃ (f : Addr) (fd : FuncData) (ps : List Str), Cls K C.ad ∧ Meth K C.ad mn f ∧ FnG P w K mg base k f fd ps (spM K m) ∧ Binds K fd ps []
def pickM (mn : Str) (cs : List (CId × MF)) (o : MV) (S : Sto) : Option MF := match insO o S with
  | some (_, C, fs) => if fs.lookup mn = none then (cs.find? fun p => decide (p.1 = C)).map (·.2) else none
  | none => none
def metM (mn : Str) (cs : List (CId × MF)) (mo : EM) (ml : EMt (List MV)) : EM := bindM mo fun o => fun e S => match pickM mn cs o S with
  | some m => bindM ml (fun xs => fun _ S => m (o :: xs) S) e S
  | none => .bad
theorem pickM_ok {P : Program} {w : World} {K : PySem.W.Frag} {mg : Str → Option Value} {base : Heap} {k : Nat} {rho : Nat → Addr} {S : Sto} {H : Hp} {mn : Str} {cs : List (CId × MF)} {o : MV} {v : V} {m : MF} (hc : ∀ p ∈ cs, MetG P w K mg base k p.1 mn p.2) (s : Sim K rho S H) (r : Rep K rho S.n H o v) (h : pickM mn cs o S = some m) :
    ∃ (C : CId) (a dx : Addr) (ws : List (Str × V)), MetG P w K mg base k C mn m ∧ v = .ref a ∧ H a = some (.ins C.ad dx ws) ∧ ws.lookup mn = none := by
  unfold pickM at h
  split at h
  · rename_i k' C fs q
    obtain ⟨rfl, hk, hS, rfl, dx, ws, h1, h2⟩ := insO_ok s r q
    split at h
    · rename_i hl
      obtain ⟨p, hp, rfl⟩ := Option.map_eq_some_iff.1 h
      have e : p.1 = C := by simpa using List.find?_some hp
      exact ⟨C, _, dx, ws, by rw [← e]; exact hc p (List.mem_of_find?_eq_some hp), rfl, h1, h2.look.2 hl⟩
    · cases h
  · cases h
theorem mcM {k j : Nat} {mn : Str} {cs : List (CId × MF)} {apos pos : Pos} {o e : Expr} {es : List Expr} {mo : EM} {ml : EMt (List MV)} {pl : Sem Bool} (hc : ∀ p ∈ cs, MetG X.prog X.w X.K X.mg X.base k p.1 mn p.2) (tk : Takes X W) (gd : X.A.guards = some []) (hr : Room j X.A)
    (ho : PE X o (tM X.K W mo)) (ha : PA X (e :: es) (tA X.K W ml)) (hkj : k ≤ j := by decide)
    (hst : starEach (e :: es) X.env = (false, eval e X.env) :: starEach es X.env := by rfl) (hpl : (backTo pos (starEach es X.env)).any (·.1) = false := by rfl)
    (ht : eval (.Call (.Attribute o mn apos) (e :: es) [] pos) X.env = (do
      let ov ← eval o X.env
      standAt apos.atName
      let (f, first) ← holding [ov] (getMethod ov mn pl)
      callWith pos f first (backTo pos (starEach (e :: es) X.env)) (backToKw pos (keywordEach [] X.env))) := by rfl) :
    PE X (.Call (.Attribute o mn apos) (e :: es) [] pos) (tM X.K W (metM mn cs mo ml)) := by
  constructor
  intro pins s sg H Q I h
  refine PySem.W.methodCall_KW (pl := pl) (thn (ho.run pins s sg H _ I (tG_bind (rel := rV) h)) fun u s1 ⟨x, H1, I1, rx, rho, en, S, y, sm, re, ry, fn⟩ => ?_) ht
  split at fn
  · rename_i m q
    obtain ⟨C, a, dx, ws, ⟨f, fd, ps, c, hm, F, hb⟩, rfl, ea, l⟩ := pickM_ok hc sm ry q
    obtain rfl : u = Value.ref a := rx
    refine getmeth_ok I1 ea c hm l ?_
    have h2 : tG X.K rV W (bindM ml fun xs => fun _ S => m (y :: xs) S) sg H1 Q := ⟨rho, en, S, sm, re, fn⟩
    have h3 : tA X.K W ml sg H1 fun vs H2 => ∃ rho' e' S' xs, Sim X.K rho' S' H2 ∧ RepL X.K rho' S'.n H2 (y :: xs) (.ref a :: vs) ∧ Fin X.K rV rho' S' H2 Q (fun c d H' => W c d sg H') (m (y :: xs) S') ∧ RepE X.K rho' S'.n H2 sg e' := by
      refine ⟨rho, en, S, sm, re, ?_⟩
      unfold bindM at fn
      cases q2 : ml en S with
      | bad => rw [q2] at fn; exact fn
      | exc ex S2 => rw [q2] at fn; exact fn
      | ok xs S2 =>
        rw [q2] at fn
        intro rho2 H2 vs s2 l2 r2
        exact ⟨rho2, en, S2, xs, s2, ⟨_, _, rfl, ry.le l2, r2⟩, fn.step l2, re.le l2⟩
    refine PySem.W.callWith_K (first := [.ref a]) (h₀ := X.base) I.ok.mod.kin hm.kp (thn (ha.run pos pins s1 sg H1 _ I1 h3) fun us s2 ⟨vs, H2, I2, r, rho', e', S', xs, sm', rl, fn', re'⟩ => ⟨I2.kIn, ?_⟩) hst hpl
    exact run_fnG (us := .ref a :: us) (vs := .ref a :: vs) F gd (hr.mono hkj) hb (passAt tk sg) I2 (.cons rfl r) ⟨rho', _, S', sm', rl, fn'⟩
  · exact fn.elim
theorem mcM0 {k j : Nat} {mn : Str} {cs : List (CId × MF)} {apos pos : Pos} {o : Expr} {mo : EM} {pl : Sem Bool} (hc : ∀ p ∈ cs, MetG X.prog X.w X.K X.mg X.base k p.1 mn p.2) (tk : Takes X W) (gd : X.A.guards = some []) (hr : Room j X.A)
    (ho : PE X o (tM X.K W mo)) (hkj : k ≤ j := by decide)
    (ht : eval (.Call (.Attribute o mn apos) [] [] pos) X.env = (do
      let ov ← eval o X.env
      standAt apos.atName
      let (f, first) ← holding [ov] (getMethod ov mn pl)
      callWith pos f first (backTo pos (starEach [] X.env)) (backToKw pos (keywordEach [] X.env))) := by rfl) :
    PE X (.Call (.Attribute o mn apos) [] [] pos) (tM X.K W (metM mn cs mo nilM)) := by
  constructor
  intro pins s sg H Q I h
  refine PySem.W.methodCall_KW (pl := pl) (thn (ho.run pins s sg H _ I (tG_bind (rel := rV) h)) fun u s1 ⟨x, H1, I1, rx, rho, en, S, y, sm, re, ry, fn⟩ => ?_) ht
  split at fn
  · rename_i m q
    obtain ⟨C, a, dx, ws, ⟨f, fd, ps, c, hm, F, hb⟩, rfl, ea, l⟩ := pickM_ok hc sm ry q
    obtain rfl : u = Value.ref a := rx
    refine getmeth_ok I1 ea c hm l ?_
    exact PySem.W.callWith_K0 (first := [.ref a]) I1.kIn hm.kp (run_fnG (us := [.ref a]) (vs := [.ref a]) F gd (hr.mono hkj) hb (passAt tk sg) I1 (.cons rfl .nil) ⟨rho, [y], S, sm, ⟨_, _, rfl, ry, rfl⟩, fn⟩)
  · exact fn.elim

/-! ### == of instances -/
def eqIV (cs : List (CId × MF)) (x y : MV) (S : Sto) : Res MV := match insO x S, insO y S with
  | some (_, C, _), some (_, D, _) => if C = D then (match cs.find? fun p => decide (p.1 = C) with
    | some p => (match p.2 [x, y] S with
      | .ok (.bl b) S' => .ok (.bl b) S'
      | _ => .bad)
    | none => .bad) else .bad
  | none, none => eqV x y S
  | _, _ => .bad
structure EqGM (P : Program) (w : World) (K : PySem.W.Frag) (mg : Str → Option Value) (base : Heap) (k : Nat) (C : CId) (m : MF) : Prop where
  ex : ∃ (f : Addr) (fd : FuncData) (ps : List Str), PySem.W.findIn K (.ref C.ad) "__eq__" = some (some (.ref f)) ∧ PySem.W.isFn K (.ref f) = true ∧ FnG P w K mg base k f fd ps (spM K m) ∧ Binds K fd ps []
def rEqI (K : PySem.W.Frag) (cs : List (CId × MF)) : R2 := fun x y H Q => ∃ p ∈ cs, ∃ a b dx dy fs gs, x = .ref a ∧ y = .ref b ∧ H a = some (.ins p.1.ad dx fs) ∧ H b = some (.ins p.1.ad dy gs) ∧ spM K p.2 [x, y] H (fun v H' => (∃ b, v = .bl b) ∧ Q v H') (fun _ _ _ => False)
theorem op_eqI {k j : Nat} {cs : List (CId × MF)} (hc : ∀ p ∈ cs, EqGM X.prog X.w X.K X.mg X.base k p.1 p.2) (gd : X.A.guards = some []) (hr : Room j X.A) (hkj : k ≤ j := by decide) : OpR X (compareOp .Eq) (rEqI X.K cs) := by
  intro pins s σ H x y v u Q I rx ry hq
  obtain ⟨p, hp, a, b, dx, dy, fs, gs, rfl, rfl, ha, hb', hs⟩ := hq
  obtain ⟨f, fd, ps, h1, h2, F, hb⟩ := (hc p hp).ex
  cases rx
  cases ry
  show wpAny (model X.prog X.w) X.A (richCompare .Eq _ _) (EP X pins σ Q) X.xe s
  obtain ⟨mA, J, _⟩ := ins_get I.hok ha
  obtain ⟨mB, J', _⟩ := ins_get I.hok hb'
  obtain ⟨od, J, _⟩ := J.look
  obtain ⟨od', J', _⟩ := J'.look
  obtain ⟨m, hF⟩ := I.fr
  have hr' := hr.mono hkj
  refine PySem.W.cmp_K (op := .Eq) (tb := .ref p.1.ad) hr'.units0 hF I.ok.mod.kin J J'.type (by simp [PySem.W.notFirst]) h1 h2 ?_
  have r2 : Vals [V.ref a, V.ref b] [Value.ref a, Value.ref b] := .cons rfl (.cons rfl .nil)
  have hl := F.ln _ _ _ _ hs
  have bb := hb s [.ref a, .ref b] I.kIn (by simpa using hl)
  rw [List.append_nil] at bb
  refine wpAny_call (codeAny_mono (F.go (out := X.stack) gd hr' I.env0 bb r2 hs) fun r s' hq => ?_)
  match r, hq with
  | .error e, z =>
    obtain ⟨_, _, _, _, _, _, _, _, _, _, _, _, z⟩ := z
    exact z.elim
  | .ok (.ret u), z =>
    obtain ⟨w, H', I', rz, ⟨b, rfl⟩, q⟩ := I.after z
    cases rz
    exact ⟨.bl b, H', I', rfl, q⟩
  | .ok .next, z => exact z.elim
  | .ok .brk, z => exact z.elim
  | .ok .cont, z => exact z.elim
theorem eqIV_ok {K : PySem.W.Frag} {r : R2} {cs : List (CId × MF)} (h0 : Snd2 K r eqV) : Snd2 K (fun x y H Q => r x y H Q ∨ rEqI K cs x y H Q) (eqIV cs) := by
  intro rho S H x y vx vy Q E s rx ry f
  unfold eqIV at f
  split at f
  · rename_i k C fs k' D gs q1 q2
    obtain ⟨rfl, hk, hS, rfl, dx, ws, h1, h2⟩ := insO_ok s rx q1
    obtain ⟨rfl, hk', hS', rfl, dx', ws', h1', h2'⟩ := insO_ok s ry q2
    split at f
    · rename_i e
      subst e
      split at f
      · rename_i p hp
        have e : p.1 = C := by simpa using List.find?_some hp
        subst e
        split at f
        · rename_i b S' q
          refine .inr ⟨p, List.mem_of_find?_eq_some hp, _, _, dx, dx', ws, ws', rfl, rfl, h1, h1', rho, [.ref k, .ref k'], S, s, ⟨_, _, rfl, rx, _, _, rfl, ry, rfl⟩, ?_⟩
          rw [q]
          exact fun rho' H' v s' l' r' => ⟨⟨b, r'⟩, f rho' H' v s' l' r'⟩
        · exact f.elim
      · exact f.elim
    · exact f.elim
  · exact .inl (h0 rho S H x y vx vy Q E s rx ry f)
  · exact f.elim

/-! ### isinstance of own classes -/
structure TyOk (K : PySem.W.Frag) (C : CId) : Prop where
  c : Cls K C.ad
  ha : PySem.W.findIn K (.ref C.ad) "__class__" = some (some (.builtin "object.__class__"))
  hn : PySem.W.specialIn K (.builtin "object.__class__") "__get__" = some (some (.builtin "getset_descriptor.__get__"))
  htk : PySem.W.takesIn K (.builtin "object.__class__") = some true
  hm : PySem.W.mroIn K C.ad (.type "object") = some true
def baseTys : List String := ["NoneType", "bool", "int", "str", "tuple", "list", "dict"]
structure IsOk (K : PySem.W.Frag) (C : CId) (tb : List (CId × Bool)) : Prop where
  o : ∀ p ∈ tb, TyOk K p.1 ∧ PySem.W.kitOne K (.ref p.1.ad) (.ref C.ad) = some p.2
  b : ∀ t ∈ baseTys, PySem.W.kitOne K (.type t) (.ref C.ad) = some false
def isIV (C : CId) (tb : List (CId × Bool)) (x : MV) (S : Sto) : Res MV := match insO x S with
  | some (_, D, _) => (match tb.find? fun p => decide (p.1 = D) with
    | some p => .ok (.bl p.2) S
    | none => .bad)
  | none => (match tyN x S with
    | some t => if t ∈ baseTys then .ok (.bl false) S else .bad
    | none => .bad)
def isIL (C : CId) (tb : List (CId × Bool)) : List MV → Sto → Res MV
  | [x, .obj a], S => if a = C.ad then isIV C tb x S else .bad
  | _, _ => .bad
theorem isIL_ok {K : PySem.W.Frag} {C : CId} {tb : List (CId × Bool)} (h : IsOk K C tb) : SndL K (rIsi K) (isIL C tb) := by
  intro rho S H xs vs Q E s rx f
  unfold isIL at f
  split at f
  · rename_i x a
    obtain ⟨v, w, h1, h2, h3⟩ := rep2 rx
    split at f
    · rename_i ea
      subst ea
      have h3 : w = .ref C.ad := h3
      unfold isIV at f
      split at f
      · rename_i k D fs q
        obtain ⟨rfl, hk, hS, rfl, dx, ws, g1, g2⟩ := insO_ok s h2 q
        split at f
        · rename_i p hp
          have e : p.1 = D := by simpa using List.find?_some hp
          subst e
          obtain ⟨T, kt⟩ := h.o p (List.mem_of_find?_eq_some hp)
          exact ⟨_, _, _, _, _, h1, by rw [h3]; exact .own _, .base (.ins g1 T.c T.ha T.hn T.htk T.hm), kt, f.val s rfl⟩
        · exact f.elim
      · split at f
        · rename_i t q
          split at f
          · rename_i hb
            exact ⟨_, _, _, _, _, h1, by rw [h3]; exact .own _, tyN_ok s h2 q, h.b t hb, f.val s rfl⟩
          · exact f.elim
        · exact f.elim
    · exact f.elim
  · exact f.elim
end
/-- the walk of a law row, the M-function known behind the top -/
theorem walkG2 {l : PySem.W.OpenLaw} {k : Nat} {q : Program} {loose : List Str} {XP : (Str → Option Value) → Heap → Prop} {YP : World → Heap → Prop} {d : DefRec} {K : Params → PySem.W.Frag} (hn : l.most = some 63) (hdf : d.params.defaults = []) (hr : Room k callerA)
    (hY : ∀ (w : World) (h : Heap), YP w h → (K w.params).In h)
    (F : ∀ (w : World) (mg : Str → Option Value) (fa : Addr) (h : Heap), (K w.params).In h → h.Ns mainGlobals mg → mg d.name = some (.ref fa) →
      ∃ (m : MF) (fd : FuncData), LawOk m ∧ (∀ (s : Shared) (u : Value), BindsTo s fd ⟨[u], []⟩ [("script", u)]) ∧ ∀ base : Heap, (K w.params).In base → base.Ns mainGlobals mg → FnG l.prog w (K w.params) mg base k fa fd ["script"] (spM (K w.params) m)) :
    PySem.W.WalkO q loose XP YP l.row.toRowW d [] (fun f vs => PySem.call f vs) := by
  refine Att.attach_callB hn hdf fun w s0 s1 mg mb fa o pm cd doc a vs ns G Y ho hd hcd hmg hobj hints hlen hbits hg => ?_
  obtain ⟨m, fd, L, hb, hF⟩ := F w mg fa _ (hY w _ Y) G.T.g hmg
  exact law_callG (hY w _ Y) G.T.g G.T.b G.T.builtins G.T.nolimit hg hobj hints (Nat.le_trans hlen (by decide)) hr hF hb fun H hO hS => law_sp L hlen hbits hO hS
end Mm
end

section
/-! ## M, part 15: texts: str(..), join; sum -/
namespace Mm
open PySem
open L2 PyProof.Rows
section
variable {X : Cx} {W : WX} {K : PySem.W.Frag} {m : EM}
def strsOf : List MV → Option (List Str)
  | [] => some []
  | .str a :: xs => (strsOf xs).map (a :: ·)
  | _ => none
theorem strsOf_rep {rho : Nat → Addr} {n : Nat} {H : Hp} : ∀ {xs : List MV} {vs : List V} {ys : List Str}, RepL K rho n H xs vs → strsOf xs = some ys → vs = ys.map V.str
  | [], vs, ys, r, e => by cases e; exact r
  | x :: xs, vs, ys, r, e => by
    obtain ⟨w, r', h1, h2, h3⟩ := r
    subst h1
    cases x with
    | str a =>
      obtain ⟨zs, e1, e2⟩ := Option.map_eq_some_iff.1 (show (strsOf xs).map (a :: ·) = some ys from e)
      subst e2
      rw [strsOf_rep h3 e1, show w = .str a from h2]; rfl
    | _ => cases e
/-! ### str(..), sep.join(..), sum(..) -/
def strV : List MV → Sto → Res MV
  | [.int i], S => if i.natAbs.log2 < 1920 then .ok (.str (toString i)) S else .bad
  | [.str a], S => .ok (.str a) S
  | _, _ => .bad
def rStrV : List V → Hp → VK → Prop := fun xs H Q => (∃ i, xs = [.int i] ∧ i.natAbs.log2 < 1920 ∧ Q (.str (toString i)) H) ∨ ∃ a, xs = [.str a] ∧ Q (.str a) H
theorem call_strV : CallR X (.type "str") rStrV := CallR.or call_str_int SkE.call_str_str
theorem strV_ok : SndL K rStrV strV := by
  intro rho S H xs vs Q E s rx f
  unfold strV at f
  split at f
  · obtain ⟨v, h1, h2⟩ := rep1 rx
    split at f
    · rename_i hl; exact .inl ⟨_, by rw [h1, show v = .int _ from h2], hl, f.val s rfl⟩
    · exact f.elim
  · obtain ⟨v, h1, h2⟩ := rep1 rx
    exact .inr ⟨_, by rw [h1, show v = .str _ from h2], f.val s rfl⟩
  · exact f.elim
def seqT (x : MV) (S : Sto) : Option (List MV) := match x with
  | .tup xs => some xs
  | .ref k => seqO (S.g k)
  | _ => none
theorem seqT_at {rho : Nat → Addr} {S : Sto} {H : Hp} (s : Sim K rho S H) {x : MV} {v : V} {xs : List MV} (r : Rep K rho S.n H x v) (h : seqT x S = some xs) : ∃ a vs, v = .ref a ∧ (SqL K H a vs ∨ SqT K H a vs) ∧ RepL K rho S.n H xs vs := by
  unfold seqT at h
  split at h
  · cases h
    obtain ⟨a, vs, h1, h2, h3⟩ := r
    exact ⟨a, vs, h1, .inr h2, h3⟩
  · obtain ⟨hk, h1⟩ := r
    obtain ⟨vs, h2, h3⟩ := seqO_at s hk h
    exact ⟨_, vs, h1, .inl h2, h3⟩
  · cases h
def joinV : MV → List MV → Sto → Res MV
  | .str a, [x], S => (match (seqT x S).bind strsOf with
    | some ys => if (ys.map (·.length)).sum + ys.length * a.length ≤ 16777216 then .ok (.str (Txt.join a ys)) S else .bad
    | none => .bad)
  | _, _, _ => .bad
theorem joinV_ok : SndB K "str" (fun x xs H Q => ∃ a p, ∃ ys : List Str, x = .str a ∧ xs = [.ref p] ∧ (SqL K H p (ys.map V.str) ∨ SqT K H p (ys.map V.str)) ∧
    (ys.map (·.length)).sum + ys.length * a.length ≤ 16777216 ∧ Q (.str (Txt.join a ys)) H) joinV := by
  intro rho S H x xs vx vs Q E s rx rl f
  unfold joinV at f
  split at f
  · obtain ⟨v, h1, h2⟩ := rep1 rl
    split at f
    · rename_i ys q
      split at f
      · rename_i hl
        obtain ⟨zs, q1, q2⟩ := Option.bind_eq_some_iff.1 q
        obtain ⟨a, vs', g1, g2, g3⟩ := seqT_at s h2 q1
        have e := strsOf_rep g3 q2
        subst e
        exact ⟨_, a, ys, rx, by rw [h1, g1], g2, hl, f.val s rfl⟩
      · exact f.elim
    · exact f.elim
  · exact f.elim
def intsO : List MV → Option (List Int)
  | [] => some []
  | .int a :: xs => (intsO xs).map (a :: ·)
  | _ => none
theorem intsO_rep {rho : Nat → Addr} {n : Nat} {H : Hp} : ∀ {xs : List MV} {vs : List V} {ys : List Int}, RepL K rho n H xs vs → intsO xs = some ys → vs = ys.map V.int
  | [], vs, ys, r, e => by cases e; exact r
  | x :: xs, vs, ys, r, e => by
    obtain ⟨w, r', h1, h2, h3⟩ := r
    subst h1
    cases x with
    | int a =>
      obtain ⟨zs, e1, e2⟩ := Option.map_eq_some_iff.1 (show (intsO xs).map (a :: ·) = some ys from e)
      subst e2
      rw [intsO_rep h3 e1, show w = .int a from h2]; rfl
    | _ => cases e
def sumV : List MV → Sto → Res MV
  | [.ref k], S => (match (seqO (S.g k)).bind intsO with
    | some ns => .ok (.int ns.sum) S
    | none => .bad)
  | _, _ => .bad
theorem sumV_ok : SndL K (rSum K) sumV := by
  intro rho S H xs vs Q E s rx f
  unfold sumV at f
  split at f
  · obtain ⟨v, h1, hk, h2⟩ := rep1 rx
    split at f
    · rename_i ns q
      obtain ⟨zs, q1, q2⟩ := Option.bind_eq_some_iff.1 q
      obtain ⟨ws, g1, g2⟩ := seqO_at s hk q1
      have e := intsO_rep g2 q2
      subst e
      exact ⟨_, ns, by rw [h1, h2], g1, f.val s rfl⟩
    · exact f.elim
  · exact f.elim
theorem all_nil {al : Type} {p : al → Prop} : ∀ x ∈ ([] : List al), p x := fun _ h => nomatch h
theorem all_cons {al : Type} {p : al → Prop} {a : al} {l : List al} (h : p a) (t : ∀ x ∈ l, p x) : ∀ x ∈ a :: l, p x := fun x hx => by
  rcases List.mem_cons.1 hx with rfl | hx
  · exact h
  · exact t x hx
theorem kit_same {C : Addr} : PySem.W.kitOne K (.ref C) (.ref C) = some true := if_pos (beq_self_eq_true _)
theorem kit_sub {D C : Addr} {b : Bool} (hne : D ≠ C) (h1 : (PySem.W.clsIn K C).isSome = true) (h2 : PySem.W.typeIn K (.ref C) = some (.type "type")) (h3 : PySem.W.subIn K (.ref D) (.ref C) = some b) : PySem.W.kitOne K (.ref D) (.ref C) = some b := by
  unfold PySem.W.kitOne
  rw [if_neg (by simpa using hne)]
  unfold PySem.W.kitCls
  simp only [h1, h2, h3]
  rfl
theorem kit_tyc {C : Addr} {t : String} {b : Bool} (h1 : (PySem.W.clsIn K C).isSome = true) (h2 : PySem.W.typeIn K (.ref C) = some (.type "type")) (h3 : PySem.W.subIn K (.type t) (.ref C) = some b) : PySem.W.kitOne K (.type t) (.ref C) = some b := by
  unfold PySem.W.kitOne
  rw [if_neg (by simp)]
  unfold PySem.W.kitCls
  simp only [h1, h2, h3]
  rfl
end
end Mm
end

section
/-! ## M, part 16: dicts with tuple keys, the key a display -/
namespace Mm
open PySem L2 PyProof.Rows
section
variable {X : Cx} {W : WX} {K : PySem.W.Frag} {mo mv : EM} {ml : EMt (List MV)} {o e : Expr} {es : List Expr} {pos p1 pos' : Pos}
/-- the place of a key: there or not -/
def dTO (x : MV) (xs : List MV) (S : Sto) : Option (Nat × List (List Key × MV) × List Key) := match x with
  | .ref k => (match S.g k with
    | .dT kvs => (match toKs xs with
      | some ks => if xs.length ≤ sizeLine then some (k, kvs, ks) else none
      | none => none)
    | _ => none)
  | _ => none
theorem dTO_ok {rho : Nat → Addr} {S : Sto} {H : Hp} {x : MV} {v : V} {xs : List MV} {vs : List V} {k : Nat} {kvs : List (List Key × MV)} {ks : List Key} (s : Sim K rho S H) (r : Rep K rho S.n H x v) (rl : RepL K rho S.n H xs vs) (h : dTO x xs S = some (k, kvs, ks)) :
    x = .ref k ∧ k < S.n ∧ S.g k = .dT kvs ∧ v = .ref (rho k) ∧ vs.length ≤ sizeLine ∧ vs = ks.map kV ∧ ∃ ws, H (rho k) = some (.dT ws) ∧ RepP K rho S.n H kvs ws := by
  unfold dTO at h
  split at h
  · split at h
    · rename_i q
      split at h
      · rename_i q2
        split at h
        · rename_i hl
          cases h
          obtain ⟨h1, h2⟩ := r
          obtain ⟨ws, h3, h4⟩ := dT_at s h1 q
          exact ⟨rfl, h1, q, h2, by rw [rl.len]; exact hl, toKs_rep rl q2, ws, h3, h4⟩
        · cases h
      · cases h
    · cases h
  · cases h
def idxTM (mo : EM) (ml : EMt (List MV)) : EM := bindM mo fun x => bindM ml fun xs => fun _ S => match dTO x xs S with
  | some (_, kvs, ks) => optV (valM kvs ks) S
  | none => .bad
theorem mp_idxT (hu : X.A.units + 1 < cLine) (ho : PE X o (tM X.K W mo)) (ha : PA X es (tA X.K W ml)) {k1} (hs : NoSl (.Tuple es k1 p1) := by exact fun _ _ => rfl) : PE X (.Subscript o (.Tuple es k1 p1) pos) (tM X.K W (idxTM mo ml)) :=
  PE.to (pe_dget hu ho (pe_tup ha) hs) fun sg H Q h => (tG_bind (rel := rV) h).imp fun vx H1 ⟨rho, en, S, x, s, re, rx, f⟩ => by
    refine ⟨rho, en, S, s, re, ?_⟩
    unfold bindM at f
    cases q : ml en S with
    | bad => rw [q] at f; exact f
    | exc ex S2 => rw [q] at f; exact f
    | ok xs S2 =>
      rw [q] at f
      intro rho2 H2 vs s2 l2 r2
      have f2 := f.step l2
      simp only at f2
      split at f2
      · rename_i k kvs ks q2
        obtain ⟨rfl, hk, hS, rfl, hl, rfl, ws, h1, h2⟩ := dTO_ok s2 (rx.le l2) r2 q2
        obtain ⟨y, q3, f3⟩ := f2.opt
        obtain ⟨v, q4, rv⟩ := h2.val.1 y q3
        refine ⟨hl, fun p hp => ?_⟩
        have hne : rho2 k ≠ p := ne_of_none h1 hp
        have g := DGet.t (H := upd H2 p (.tup (ks.map kV))) (a := rho2 k) (b := p) (k := ks) (by rw [upd_ne hne]; exact h1) upd_same
        rw [q4] at g
        exact ⟨_, v, rfl, g, f3 rho2 _ v (s2.ofNew hp) (Le.ofNew hp) (rv.upd (isMut_none hp))⟩
      · exact f2.elim
def inTM (neg : Bool) (ml : EMt (List MV)) (mo : EM) : EM := bindM ml fun xs => fun e S => if xs.length ≤ sizeLine then bindM mo (fun x => fun _ S => match dTO x xs S with
  | some (_, kvs, ks) => .ok (.bl (if neg then !(valM kvs ks).isSome else (valM kvs ks).isSome)) S
  | none => .bad) e S else .bad
theorem inTM_ok {neg : Bool} {sg : L2.St} {H : Hp} {Q : V → Hp → Prop} (h : tM K W (inTM neg ml mo) sg H Q) :
    tTup (tA K W ml) sg H fun y H1 => tM K W mo sg H1 fun x H2 => ∃ a o, x = .ref a ∧ DGet H2 a y o ∧ Q (.bl (if neg then !o.isSome else o.isSome)) H2 := by
  refine (tG_bind (rel := rL) h).imp fun vs H1 ⟨rho, en, S, xs, s, re, rl, f⟩ => ?_
  split at f
  · rename_i hl
    refine ⟨by rw [rl.len]; exact hl, fun p hp => ?_⟩
    have s1 := s.ofNew (u := .tup vs) hp
    have l1 : Le K rho S H1 rho S (upd H1 p (.tup vs)) := Le.ofNew hp
    refine ⟨rho, en, S, s1, re.le l1, ?_⟩
    have f1 := f.step l1
    unfold bindM at f1
    cases q : mo en S with
    | bad => rw [q] at f1; exact f1
    | exc ex S2 => rw [q] at f1; exact f1
    | ok x S2 =>
      rw [q] at f1
      intro rho2 H2 vx s2 l2 r2
      have f2 := f1.step l2
      simp only at f2
      split at f2
      · rename_i k kvs ks q2
        obtain ⟨rfl, hk, hS, rfl, hl', rfl, ws, h1, h2⟩ := dTO_ok s2 r2 ((rl.le l1).le l2) q2
        have hp2 : H2 p = some (.tup (ks.map kV)) := l2.fr _ _ upd_same fun i hi hm => by
          obtain ⟨u, g1, _⟩ := (s.obj i hi).tracked hm
          exact ne_of_none g1 hp
        refine ⟨rho2 k, valV ws ks, rfl, DGet.t h1 hp2, ?_⟩
        have e : (valV ws ks).isSome = (valM kvs ks).isSome := by
          cases q3 : valM kvs ks with
          | none => rw [h2.val.2 q3]; rfl
          | some y => obtain ⟨v, q4, _⟩ := h2.val.1 y q3; rw [q4]; rfl
        rw [e]
        exact f2 rho2 H2 _ s2 Le.refl rfl
      · exact f2.elim
  · exact f.elim
theorem mp_inT {k1} (hu : X.A.units + 1 < cLine) (ha : PA X es (tA X.K W ml)) (ho : PE X o (tM X.K W mo)) (h1 : behindInMarks .In o = false := by first | exact nobehind _ (by decide) (by decide) | rfl) : PE X (.Compare (.Tuple es k1 p1) [.In] [o] pos) (tM X.K W (inTM false ml mo)) :=
  PE.to (pe_cmp (pc_din hu (pe_tup ha) ho) h1) fun _ _ _ h => inTM_ok h
theorem mp_notInT {k1} (hu : X.A.units + 1 < cLine) (ha : PA X es (tA X.K W ml)) (ho : PE X o (tM X.K W mo)) (h1 : behindInMarks .NotIn o = false := by first | exact nobehind _ (by decide) (by decide) | rfl) : PE X (.Compare (.Tuple es k1 p1) [.NotIn] [o] pos) (tM X.K W (inTM true ml mo)) :=
  PE.to (pe_cmp (pc_dnotin hu (pe_tup ha) ho) h1) fun _ _ _ h => inTM_ok h
theorem inTM_blt {neg : Bool} {sg : L2.St} {H : Hp} {Q : Bool → Hp → Prop} (h : tB K W (blM (inTM neg ml mo)) sg H Q) : tM K W (inTM neg ml mo) sg H fun x H1 => ∃ c, x = .bl c ∧ Q c H1 :=
  (tG_bind (rel := rV) h).imp fun _ _ ⟨_, _, _, _, s, _, rx, f⟩ => blV_ok s rx f
theorem mt_inT {k1} (hu : X.A.units + 1 < cLine) (ha : PA X es (tA X.K W ml)) (ho : PE X o (tM X.K W mo)) (h1 : behindInMarks .In o = false := by first | exact nobehind _ (by decide) (by decide) | rfl) : PT X (.Compare (.Tuple es k1 p1) [.In] [o] pos) (Mm.tB X.K W (blM (inTM false ml mo))) :=
  PT.to (pt_cmp (pc_din hu (pe_tup ha) ho) h1) fun _ _ _ h => inTM_ok (inTM_blt h)
theorem mt_notInT {k1} (hu : X.A.units + 1 < cLine) (ha : PA X es (tA X.K W ml)) (ho : PE X o (tM X.K W mo)) (h1 : behindInMarks .NotIn o = false := by first | exact nobehind _ (by decide) (by decide) | rfl) : PT X (.Compare (.Tuple es k1 p1) [.NotIn] [o] pos) (Mm.tB X.K W (blM (inTM true ml mo))) :=
  PT.to (pt_cmp (pc_dnotin hu (pe_tup ha) ho) h1) fun _ _ _ h => inTM_ok (inTM_blt h)
/-- d[a, b] = v -/
def setTM (mo : EM) (ml : EMt (List MV)) (mv : EM) : SM := useM mv fun v => useM mo fun x => useM ml fun xs => fun e S => match dTO x xs S with
  | some (k, kvs, ks) => if kvs.length < sizeLine then .nx e (S.put k (.dT (putM kvs ks v))) else .bad
  | none => .bad
theorem ms_putT {k1} (hu : X.A.units + 1 < cLine) (ho : PE X o (tM X.K W mo)) (ha : PA X es (tA X.K W ml)) (he : PE X e (tM X.K W mv)) (hs : swapsWith e (some (.Subscript o (.Tuple es k1 p1) pos')) pos.line X.env = pure false := by rfl) :
    PS X (.Assign [.Subscript o (.Tuple es k1 p1) pos'] e pos) (tS X.K W (setTM mo ml mv)) :=
  PS.to (ps_dput hu ho (pe_tup ha) he hs) fun D sg H h => (tS_use (rel := rV) h).imp fun vv H1 ⟨rho, en, S, y, s, re, r, f⟩ => by
    refine ⟨rho, en, S, s, re, ?_⟩
    unfold useM at f
    cases q : mo en S with
    | exc ex S' => rw [q] at f; exact fun rho' H' d s' l' r' => f rho' H' sg d s' l' (re.le l') r'
    | bad => rw [q] at f; exact f
    | ok x S' =>
      rw [q] at f
      intro rho' H' vx s' l' rx
      have f' := f.step l'
      refine ⟨rho', en, S', s', re.le l', ?_⟩
      simp only at f'
      cases q2 : ml en S' with
      | exc ex S2 => rw [q2] at f'; exact fun rho2 H2 d s2 l2 r2 => f' rho2 H2 sg d s2 l2 ((re.le l').le l2) r2
      | bad => rw [q2] at f'; exact f'
      | ok xs S2 =>
        rw [q2] at f'
        intro rho2 H2 vs s2 l2 rl
        have f2 := f'.step l2
        simp only at f2
        split at f2
        · rename_i k kvs ks q3
          obtain ⟨rfl, hk, hS, rfl, hl, rfl, ws, h1, h2⟩ := dTO_ok s2 (rx.le l2) rl q3
          split at f2
          · rename_i hl2
            refine ⟨hl, fun p hp => ?_⟩
            have hne : rho2 k ≠ p := ne_of_none h1 hp
            have s3 := s2.ofNew (u := .tup (ks.map kV)) hp
            have l3 : Le X.K rho2 S2 H2 rho2 S2 (upd H2 p (.tup (ks.map kV))) := Le.ofNew hp
            have g1 : upd H2 p (.tup (ks.map kV)) (rho2 k) = some (.dT ws) := by rw [upd_ne hne]; exact h1
            refine ⟨_, _, rfl, DPut.t g1 upd_same (by rw [h2.len]; exact hl2), ?_⟩
            have mm : (S2.g k).mut = true := by rw [hS]; rfl
            have hm := isMut_some g1 trivial
            have l4 : Le X.K rho2 S2 _ rho2 (S2.put k (.dT (putM kvs ks y))) (upd (upd H2 p (.tup (ks.map kV))) (rho2 k) (.dT (putK ws ks vv))) := Le.put s3 hk mm rfl
            exact f2 rho2 _ sg (s3.put hk mm ⟨_, upd_same, (RepP.put (((r.le l').le l2).le l3) (h2.le l3)).upd hm⟩) (l3.trans l4) ((((re.le l').le l2).le l3).le l4)
          · exact f2.elim
        · exact f2.elim
/-! ### len(d) -/
def lenV2 (xs : List MV) (S : Sto) : Res MV := match xs with
  | [.ref k] => (match S.g k with
    | .dT kvs => .ok (.int kvs.length) S
    | _ => lenV xs S)
  | _ => lenV xs S
theorem call_lenV2 : CallR X (.builtin "len") (fun xs H Q => rLenV X.K xs H Q ∨ rLenT xs H Q) := CallR.or call_lenV call_len_dT
theorem lenV2_ok : SndL K (fun xs H Q => rLenV K xs H Q ∨ rLenT xs H Q) lenV2 := by
  intro rho S H xs vs Q E s rx f
  unfold lenV2 at f
  split at f
  · split at f
    · rename_i kvs q
      obtain ⟨v, h1, hk, h2⟩ := rep1 rx
      obtain ⟨ws, h3, h4⟩ := dT_at s hk q
      refine .inr ⟨_, ws, by rw [h1, h2], h3, ?_⟩
      rw [h4.len]
      exact f.val s rfl
    · exact .inl (lenV_ok rho S H _ vs Q E s rx f)
  · exact .inl (lenV_ok rho S H _ vs Q E s rx f)
end
end Mm
end

section
/-! ## M, part 17: exceptions: an except clause whose exception is an object of the store; its fields; isinstance of it -/
namespace Mm
open PySem L2 PyProof.Rows
theorem extT_ok {P : Program} {w : World} {H : Hp} {h : Heap} {cls : Value} {d : Option Addr} {a : Addr} {oe : Obj} {vs : Array Value} (e : h.get? a = some oe) (z : Zc cls d oe) (f : oe.data = .fields vs) : ObjOk P w H h a (ExT cls d a) :=
  ⟨⟨oe, vs, e, z, f⟩, ⟨_, e⟩, fun h1 h2 ⟨o, v, q1, q2, q3⟩ k => ⟨o, v, k _ q1, q2, q3⟩⟩
theorem extT_at {P : Program} {w : World} {H : Hp} {h : Heap} {cls : Value} {d : Option Addr} {a : Addr} (hok : HOk P w H h) (e : H a = some (ExT cls d a)) : ∃ oe vs, h.get? a = some oe ∧ Zc cls d oe ∧ oe.data = .fields vs := by
  have x : ObjOk P w H h a (.ext fun h => ∃ oe vs, h.get? a = some oe ∧ Zc cls d oe ∧ oe.data = .fields vs) := hok a _ e
  exact x.1
section
variable {X : Cx} {pins : List (Addr × Obj)} {σ : L2.St} {H : Hp} {s s' sI : Shared} {B : Heap}
/-- on the ground, the exception's object tracked -/
theorem landedT {a : Addr} {cls : Value} {d : Option Addr} {oe : Obj} {vs : Array Value} (I : Inv X pins σ H sI) (nb : ∀ b o, sI.heap.get? b = some o → b ∉ frs X.stack → B.get? b = some o) (st : B.StaysIn s'.heap) (up : sI.heap.UpToSlots s'.heap) (os : s'.os = sI.os) (ag : AllBare s'.gens)
    (hn : sI.heap.get? a = none) (na : H a = none) (he : s'.heap.get? a = some oe) (hz : Zc cls d oe) (hd : oe.data = .fields vs) : Inv X pins σ (upd H a (ExT cls d a)) s' := by
  have nf : ∀ b ∈ frs X.stack, ∀ o, sI.heap.get? b = some o → ∃ sl, s'.heap.get? b = some { o with slots := sl } := fun b hb o e => by
    obtain ⟨_, o', e', hd⟩ := I.stack.mem hb
    rw [e] at e'; cases e'
    exact up b o e hd
  have ne : ∀ {b : Addr} {o : Obj}, sI.heap.get? b = some o → b ≠ a := fun {b o} e z => by rw [z, hn] at e; cases e
  have hok : HOk X.prog X.w (upd H a (ExT cls d a)) s'.heap := HOk.laidN ((I.inGround nb).kept st) (fun _ _ q => q) na (extT_ok he hz hd)
  have J := I.call (ch := []) (h' := s'.heap) (g' := s'.gens) (t' := s'.toks) (d' := s'.drawn) (H' := upd H a (ExT cls d a))
    { keep := fun b o e _ hb _ => st b o (nb b o e hb)
      slot := fun b o e _ hb _ => nf b hb o e
      free := fun b o e n _ => by rw [upd_ne (ne e)]; exact n
      there := fun b o e _ => by
        by_cases hb : b ∈ frs X.stack
        · obtain ⟨sl, q⟩ := nf b hb o e
          exact ⟨_, q⟩
        · exact ⟨o, st b o (nb b o e hb)⟩
      tups := fun b xs e => by rw [upd_ne (ne_of_none e na)]; exact e
      frzs := fun b o u e => by rw [upd_ne (ne_of_none e na)]; exact e
      tbls := fun b ps e => ⟨#[], by rw [upd_ne (ne_of_none e na), e]; simp⟩ } hok ag (fun _ z => nomatch z)
  obtain ⟨a1, a2, a3, a4, a5⟩ := s'
  have e5 : a5 = sI.os := os
  subst e5
  exact J
theorem suite0 (I : Inv X pins σ H s) {a : Addr} : Inv (X.suite a (X.pn ++ pins)) [] σ H s :=
  ⟨I.ok.suite _ _, I.os, I.bare, I.base, I.loc, I.cell, I.free, I.freeC, fun p hp => I.pin p (by
    have hp' : p ∈ (X.pn ++ pins) ++ [] := hp
    rw [List.append_nil] at hp'; exact hp'), I.hok, I.len⟩
theorem unsuite0 {a : Addr} {pn' : List (Addr × Obj)} (I : Inv (X.suite a (X.pn ++ pins)) pn' σ H s) (ok : X.Ok) : Inv X pins σ H s :=
  ⟨ok, I.os, I.bare, I.base, I.loc, I.cell, I.free, I.freeC, fun p hp => I.pin p (List.mem_append_left _ hp), I.hok, I.len⟩
end
/-- what the clause 'except x as n' wishes of an exception of the body, the exception tracked -/
def wAsT (K : PySem.W.Frag) (c : Value) (i : Nat) (ts : TS) (Wout : WX) (D : Ends) : WX := fun cls d σ H =>
  ∃ b, PySem.W.exmOne K cls c = some b ∧ (b = true → ∀ a, H a = none → ts { nx := fun σ' H' => D.nx (σ'.set i none) H', rt := D.rt, bk := fun σ' H' => D.bk (σ'.set i none) H', ct := fun σ' H' => D.ct (σ'.set i none) H' } (σ.set i (some (.ref a))) (upd H a (ExT cls d a))) ∧
    (b = false → Wout cls d σ H)
section
variable {X : Cx} {x n : Str} {c : Value} {i : Nat} {body suite : List Stmt} {b₀ : Stmt} {np pos pos' : Pos} {tb : WX → TS} {ts : TS} {Wout : WX}
theorem ps_try_asT (hs : X.stack = X.env :: X.outer) (hf : X.env.frame = some X.env.locals) (hN : X.N.Nodup) (hi : X.N[i]? = some n) (hln : X.env.kindOf n = some .local) (hc : Names X x c) (tk : Takes X Wout)
    (hb : ∀ (W : WX) (pn : List (Addr × Obj)) (xe : Value → Shared → Prop), Takes (X.tr pn xe) W → PassesOwn (model X.prog X.w) X.A X.env xe → PSs (X.tr pn xe) body (tb W))
    (hsu : ∀ (a : Addr) (pn : List (Addr × Obj)), PSs (X.suite a pn) (b₀ :: suite) ts) :
    PS X (.Try body [.ExceptHandler (some (.Name x np)) (some n) (b₀ :: suite) pos'] [] [] pos) (fun D σ H => tb (wAsT X.K c i ts Wout D) D σ H) := by
  refine ⟨fun pins s σ H D I h => ?_⟩
  have ok := I.ok
  have hfr : X.A.frames = some (X.env :: X.outer) := by rw [ok.frames, hs]
  have hloc : Loc X.env.scope n := .inl hln
  refine wpAny_Try_except ?_
  refine wpAny_mono ((hb (wAsT X.K c i ts Wout D) (X.pn ++ pins) (fun e s₁ => wpAny (model X.prog X.w) X.A (noteFrame e X.env) (fun _ s₂ => wpAny (model X.prog X.w) X.A (setFlight e none) (fun _ s₃ =>
    wpAny (model X.prog X.w) X.A (handleBy e X.env [.ExceptHandler (some (.Name x np)) (some n) (b₀ :: suite) pos']) (SP X pins D) X.xe s₃) X.xe s₂) X.xe s₁) (fun u s' xx => ?_) PassesOwn.looking).run [] s σ H D (I.toTry _) h) (fun f s1 hsp => ?_) (fun e s1 he => he)
  · obtain ⟨a, B, sI, pins', σ', H', cls, d, rfl, J', nb, up, sky, na, os, ag, b, hb1, hyes, hno⟩ := xx
    have J : Inv X pins σ' H' sI := J'.ofTry ok
    have sky' : Sky B (X.env :: X.outer) a (Zc cls d) X.env.locals s'.heap := by rw [← hs]; exact sky
    show wpAny (model X.prog X.w) X.A (noteFrame (.ref a) X.env) _ _ _
    refine Sky.land Zc.steady hfr hf sky' fun h3 fl3 up3 => ?_
    have J3 : Inv X pins σ' H' { s' with heap := h3 } := J.landed nb fl3.1 (up.trans up3) os ag
    obtain ⟨oe3, vs3, he3, hz3, hd3⟩ := fl3.there
    have notFr : ∀ {h : Heap} {o : Obj} {vs : Array Value}, h.FunFrames B (X.env :: X.outer) → h.get? a = some o → o.data = .fields vs → a ∉ frs (X.env :: X.outer) := fun {h o vs} ff e dd hm => by
      obtain ⟨_, o', e', hnf⟩ := ff.mem hm
      rw [e] at e'; cases e'
      exact hnf _ dd
    have nfr := notFr fl3.2.2.1 he3 hd3
    have hnew : sI.heap.get? a = none := by
      cases q : sI.heap.get? a with
      | none => rfl
      | some o =>
        have := nb a o q (by rw [hs]; exact nfr)
        rw [fl3.2.1] at this; cases this
    have S3 := suite0 (a := a) J3
    refine wpAny_handleBy_cons (codeAny_handlers_test ?_) (by intro q; cases q)
    have LT : PySem.W.Looks (model X.prog X.w) h3 (typeOf (.ref a)) cls := fun A Q E s k q => wpAny_typeOf_ref (k _ _ he3) (by rw [hz3.1]; exact q)
    have LM := PySem.W.exm_one (M := model X.prog X.w) (J3.kIn) LT hb1
    have test : ∀ {Q : Value → Shared → Prop} {E : Value → Shared → Prop}, Q c { s' with heap := h3 } → wpAny (model X.prog X.w) (X.A.mark (some (.ref a))) (eval (.Name x np) X.env) Q E { s' with heap := h3 } := fun {Q E} q => by
      obtain ⟨hg, hdbg, hm | ⟨hm, hv, hnn⟩⟩ := hc
      · exact ld_glob (X := X.suite a (X.pn ++ pins)) S3 hg hm q hdbg
      · exact ld_blt (X := X.suite a (X.pn ++ pins)) S3 hg hm hv q hnn hdbg
    refine test (LM.here ?_)
    cases b with
    | true =>
      refine codeAny_handlers_suite_as ?_
      refine HandSPX.lands_againZ fl3 fun h4 fl4 up4 => ?_
      obtain ⟨oe4, vs4, he4, hz4, hd4⟩ := fl4.there
      have J4 : Inv X pins σ' (upd H' a (ExT cls d a)) { s' with heap := h4 } := landedT J nb fl4.1 ((up.trans up3).trans up4) os ag hnew na he4 hz4 hd4
      have S4 := suite0 (a := a) J4
      refine store_ok (X := X.suite a (X.pn ++ pins)) (v := .ref a) S4 hN hi hloc rfl (fun s5 S5 => ?_) (.inr hln)
      refine wpAny_mono ((hsu a (X.pn ++ pins)).run [] s5 _ _ _ S5 (hyes rfl a na)) (fun f s6 hsp => ?_) (fun _ _ z => False.elim z)
      have end_ : ∀ {σ6 : L2.St} {H6 : Hp} {Q : Shared → Prop}, Inv (X.suite a (X.pn ++ pins)) [] σ6 H6 s6 → (∀ s7, Inv X pins (σ6.set i none) H6 s7 → Q s7) →
          wpAny (model X.prog X.w) X.A (do bindName X.env n .none; unbindBehindTheSuite X.env n pos') (fun _ s7 => Q s7) X.xe s6 := fun {σ6 H6 Q} S6 hq => gone_ok (unsuite0 S6 ok) hN hi hln hq
      cases f with
      | next =>
        obtain ⟨σ6, H6, S6, q6⟩ := hsp
        exact end_ S6 fun s7 J7 => ⟨_, _, J7, q6⟩
      | brk =>
        obtain ⟨σ6, H6, S6, q6⟩ := hsp
        exact end_ S6 fun s7 J7 => ⟨_, _, J7, q6⟩
      | cont =>
        obtain ⟨σ6, H6, S6, q6⟩ := hsp
        exact end_ S6 fun s7 J7 => ⟨_, _, J7, q6⟩
      | ret u =>
        obtain ⟨v6, σ6, H6, S6, r6, q6⟩ := hsp
        exact end_ S6 fun s7 J7 => ⟨_, _, _, J7, r6, q6⟩
    | false =>
      show wpAny _ X.A (handleBy (.ref a) X.env []) _ _ _
      refine wpAny_handleBy_nil ?_
      obtain ⟨k1, k2, k3, oe, vs, T, oT, ts', he, hz, hd, h1, hr⟩ := id fl3
      unfold PySem.passOn
      refine wpAny_bind (wpAny_field he hd h1 ?_)
      rw [if_neg (show ¬ ((Value.ref T == Value.none) = true) from by simp)]
      have fin : wpAny (model X.prog X.w) X.A (setFlight (.ref a) X.env.frame) (fun _ s4 => wpAny (model X.prog X.w) X.A (throw (.ref a) : Sem Flow) (SP X pins D) X.xe s4) X.xe { s' with heap := h3 } := by
        rw [hf]
        refine HandSPX.setFlight_upZ fl3 fun h4 hh4 up4 => wpAny_throw (tk _ _ ?_)
        exact ⟨a, B, sI, pins, σ', H', cls, d, rfl, J, nb, (up.trans up3).trans up4, .inr (.inr (by rw [hs]; exact hh4)), na, os, ag, hno rfl⟩
      first
        | exact wpAny_bind (wpAny_pure (wpAny_bind fin))
        | exact wpAny_bind fin
  · cases f with
    | next =>
      obtain ⟨σ', H', J', q⟩ := hsp
      exact wpAny_execs_nil ⟨σ', H', J'.ofTry ok, q⟩
    | brk =>
      obtain ⟨σ', H', J', q⟩ := hsp
      exact ⟨σ', H', J'.ofTry ok, q⟩
    | cont =>
      obtain ⟨σ', H', J', q⟩ := hsp
      exact ⟨σ', H', J'.ofTry ok, q⟩
    | ret u =>
      obtain ⟨v, σ', H', J', r, q⟩ := hsp
      exact ⟨v, σ', H', J'.ofTry ok, r, q⟩
end
/-! ### the M-forms -/
section
variable {X : Cx} {W : WX} {K : PySem.W.Frag} {a b c e : Expr} {pos pos' tpos : Pos} {ma mb mc m : EM} {ml : EMt (List MV)}
def tryAs (tbl : List (CId × Bool)) (i : Nat) (b su : SM) : SM := fun e S => match b e S with
  | .exc ex e1 S1 => (match tbl.find? fun p => decide (p.1 = ex.C) with
    | some p => if p.2 = true then (match su (e1.set i (some (.ref S1.n))) (S1.add (.exn ex.C ex.fs)) with
        | .nx e2 S2 => .nx (e2.set i none) S2
        | .brk e2 S2 => .brk (e2.set i none) S2
        | .ct e2 S2 => .ct (e2.set i none) S2
        | .ret x S2 => .ret x S2
        | _ => .bad) else .exc ex e1 S1
    | none => .bad)
  | r => r
theorem RepE.unset {rho : Nat → Addr} {n : Nat} {H : Hp} {sg : L2.St} {e : Sl} (h : RepE K rho n H sg e) (i : Nat) : RepE K rho n H (sg.set i none) (e.set i none) := by
  refine ⟨by rw [List.length_set, List.length_set]; exact h.1, fun j x q => ?_⟩
  by_cases hj : i = j
  · subst hj
    by_cases hl : i < e.length
    · rw [List.getElem?_set_self hl] at q; cases q
    · rw [List.getElem?_eq_none (by rw [List.length_set]; omega)] at q; cases q
  · rw [List.getElem?_set_ne hj] at q ⊢
    exact h.2 j x q
theorem ms_tryAs {x n : Str} {cv : Value} {i : Nat} {body suite : List Stmt} {b₀ : Stmt} {np pos pos' : Pos} {tbl : List (CId × Bool)} {mb su : SM} (hN : X.N.Nodup) (tk : Takes X W) (hc : Names X x cv) (ht : ∀ p ∈ tbl, PySem.W.exmOne X.K (.ref p.1.ad) cv = some p.2)
    (hb : ∀ (W : WX) (pn : List (Addr × Obj)) (xe : Value → Shared → Prop), Takes (X.tr pn xe) W → PassesOwn (model X.prog X.w) X.A X.env xe → PSs (X.tr pn xe) body (tS X.K W mb))
    (hsu : ∀ (a : Addr) (pn : List (Addr × Obj)), PSs (X.suite a pn) (b₀ :: suite) (tS X.K (fun _ _ _ _ => False) su))
    (hi : X.N[i]? = some n := by rfl) (hln : X.env.kindOf n = some .local := by rfl) (hs : X.stack = X.env :: X.outer := by rfl) (hf : X.env.frame = some X.env.locals := by rfl) :
    PS X (.Try body [.ExceptHandler (some (.Name x np)) (some n) (b₀ :: suite) pos'] [] [] pos) (tS X.K W (tryAs tbl i mb su)) :=
  PS.to (ps_try_asT hs hf hN hi hln hc tk hb hsu) fun D sg H ⟨rho, e, S, s, re, f⟩ => by
    refine ⟨rho, e, S, s, re, ?_⟩
    unfold tryAs at f
    cases q : mb e S with
    | nx e1 S1 => rw [q] at f; exact f
    | ret y S1 => rw [q] at f; exact f
    | brk e1 S1 => rw [q] at f; exact f
    | ct e1 S1 => rw [q] at f; exact f
    | bad => rw [q] at f; exact f
    | exc ex e1 S1 =>
      rw [q] at f
      simp only at f
      split at f
      · rename_i p hp
        have hpC : p.1 = ex.C := by simpa using List.find?_some hp
        have hm := ht p (List.mem_of_find?_eq_some hp)
        rw [hpC] at hm
        intro rho1 H1 sg1 d s1 l1 re1 r1
        refine ⟨p.2, hm, fun hpt a na => ?_, fun hpf => ?_⟩
        · rw [if_pos hpt] at f
          have f1 := f.step l1
          have hfr : RepF X.K (ext rho1 S1.n a) (S1.n + 1) (upd H1 a (ExT ex.cls d a)) d ex.fs := r1.mono (Nat.le_succ _) (fun _ h => ext_lt h) (fun _ _ => sqT_upd (isMut_none na)) fun _ _ => xd_upd (isMut_none na)
          have s2 : Sim X.K (ext rho1 S1.n a) (S1.add (.exn ex.C ex.fs)) (upd H1 a (ExT ex.cls d a)) := s1.add na rfl ⟨d, upd_same, hfr⟩
          have l2 : Le X.K rho1 S1 H1 (ext rho1 S1.n a) (S1.add (.exn ex.C ex.fs)) (upd H1 a (ExT ex.cls d a)) := Le.add na
          have f2 := f1.step l2
          refine ⟨_, e1.set i (some (.ref S1.n)), _, s2, (re1.le l2).set (v := .ref a) ⟨Nat.lt_succ_self _, by rw [ext_at]⟩, ?_⟩
          cases q2 : su (e1.set i (some (.ref S1.n))) (S1.add (.exn ex.C ex.fs)) with
          | nx e2 S2 => rw [q2] at f2; exact fun rho3 H3 sg3 s3 l3 re3 => f2 rho3 H3 _ s3 l3 (RepE.unset re3 i)
          | brk e2 S2 => rw [q2] at f2; exact fun rho3 H3 sg3 s3 l3 re3 => f2 rho3 H3 _ s3 l3 (RepE.unset re3 i)
          | ct e2 S2 => rw [q2] at f2; exact fun rho3 H3 sg3 s3 l3 re3 => f2 rho3 H3 _ s3 l3 (RepE.unset re3 i)
          | ret y S2 => rw [q2] at f2; exact f2
          | exc ex2 e2 S2 => rw [q2] at f2; exact f2.elim
          | bad => rw [q2] at f2; exact f2.elim
        · rw [if_neg (by rw [hpf]; decide)] at f
          exact f rho1 H1 sg1 d s1 l1 re1 r1
      · exact f.elim
/-! ### fields -/
def exnO (x : MV) (S : Sto) : Option (Nat × CId × List (Str × MV)) := match x with
  | .ref k => match S.g k with
    | .exn C fs => some (k, C, fs)
    | _ => none
  | _ => none
theorem exnO_ok {rho : Nat → Addr} {S : Sto} {H : Hp} (s : Sim K rho S H) {x : MV} {v : V} (r : Rep K rho S.n H x v) {k : Nat} {C : CId} {fs : List (Str × MV)} (h : exnO x S = some (k, C, fs)) : x = .ref k ∧ k < S.n ∧ S.g k = .exn C fs ∧ v = .ref (rho k) ∧ ∃ d, H (rho k) = some (ExT (.ref C.ad) d (rho k)) ∧ RepF K rho S.n H d fs := by
  unfold exnO at h
  split at h
  · split at h
    · rename_i q
      cases h
      obtain ⟨h1, h2⟩ := r
      have ho := s.obj _ h1
      rw [q] at ho
      exact ⟨rfl, h1, q, h2, ho⟩
    · cases h
  · cases h
def xfV (cs : List CId) (f : Str) (x : MV) (S : Sto) : Res MV := match exnO x S with
  | some (_, C, fs) => if C ∈ cs then optV (fs.lookup f) S else .bad
  | none => .bad
structure XfOk (K : PySem.W.Frag) (C : CId) (f : Str) : Prop where
  c : XfC K C.ad
  n : PySem.W.findIn K (.ref C.ad) f = some none
def tXfT (K : PySem.W.Frag) (f : Str) (te : TE) : TE := fun σ H Q => te σ H fun x H1 => ∃ a C d dd ws v, x = .ref a ∧ H1 a = some (ExT (.ref C) d a) ∧ d = some dd ∧ H1 dd = some (.xd ws) ∧ ws.lookup f = some v ∧ XfC K C ∧ PySem.W.findIn K (.ref C) f = some none ∧ Q v H1
theorem pe_xfT {f : Str} {te : TE} (he : PE X e te) (hb : attributeBase e f X.env (eval e X.env) = eval e X.env) : PE X (.Attribute e f pos) (tXfT X.K f te) := by
  refine ⟨fun pins s σ H Q I h => ?_⟩
  refine attr_of hb (thn (he.run pins s σ H _ I h) fun u s1 hh => ?_)
  obtain ⟨x, H1, I1, rx, a, C, d, dd, ws, v, ex, ea, ed, edd, l, T, hno, q⟩ := hh
  subst ex
  obtain rfl : u = Value.ref a := rx
  subst ed
  obtain ⟨oe, vs, ha, hz, hd⟩ := extT_at I1.hok ea
  have hx : ObjOk X.prog X.w H1 s1.heap dd (.xd ws) := I1.hok dd _ edd
  obtain ⟨mA, hns, hr⟩ := hx
  obtain ⟨od, ho, hl⟩ := lookIn_ns hns
  obtain ⟨u, hu, ru⟩ := RelO.some_of (v := v) (o := mA f) (by rw [← l]; exact hr f)
  have J : PySem.W.InstAt s1.heap a oe C (some od) := ⟨ha, hz.1, by unfold PySem.W.notCls; rw [hd] <;> rfl, by rw [hz.2]; exact ho⟩
  exact HandSPX.exc_get I1.kIn J T.ga T.gg T.exC (PySem.W.findObj_own T.hdC hno rfl (by rw [hl, hu])) (handed_of ru) ⟨v, H1, I1.tok _, ru, q⟩
theorem mp_xf {cs : List CId} {f : Str} (hc : ∀ C ∈ cs, XfOk X.K C f) (he : PE X e (tM X.K W m)) (hb : attributeBase e f X.env (eval e X.env) = eval e X.env := by rfl) : PE X (.Attribute e f pos) (tM X.K W (op1 (xfV cs f) m)) :=
  PE.to (pe_xfT he hb) fun sg H Q h => (tG_bind (rel := rV) h).imp fun vx H1 ⟨rho, e, S, x, s, re, rx, f⟩ => by
    simp only [xfV] at f
    split at f
    · rename_i k C fs q
      obtain ⟨rfl, hk, hS, rfl, d, h1, h2⟩ := exnO_ok s rx q
      split at f
      · rename_i hC
        obtain ⟨y, q2, f⟩ := f.opt
        rcases h2 with ⟨_, rfl⟩ | ⟨dd, ws, rfl, h3, h4⟩
        · cases q2
        · obtain ⟨v, q3, rv⟩ := h4.look.1 y q2
          exact ⟨_, _, _, dd, ws, v, rfl, h1, rfl, h3, q3, (hc C hC).c, (hc C hC).n, f.val s rv⟩
      · exact f.elim
    · exact f.elim
/-! ### raise C(..) -/
theorem RepP.zip {rho : Nat → Addr} {n : Nat} {H : Hp} : ∀ (names : List Str) {xs : List MV} {vs : List V}, RepL K rho n H xs vs → RepP K rho n H (names.zip xs) (names.zip vs)
  | [], _, _, _ => rfl
  | f :: names, [], vs, h => by rw [show vs = [] from h]; rfl
  | f :: names, x :: xs, vs, h => by
    obtain ⟨w, r, h1, h2, h3⟩ := h
    subst h1
    exact ⟨w, _, rfl, h2, RepP.zip names h3⟩
theorem RepP.rev {rho : Nat → Addr} {n : Nat} {H : Hp} {ps : List (Str × MV)} {ws : List (Str × V)} (h : RepP K rho n H ps ws) : RepP K rho n H ps.reverse ws.reverse := by
  induction ps generalizing ws with
  | nil => rw [show ws = [] from h]; rfl
  | cons p ps ih =>
    obtain ⟨v, r, h1, h2, h3⟩ := h
    subst h1
    rw [List.reverse_cons, List.reverse_cons]
    exact (ih h3).app ⟨v, [], rfl, h2, rfl⟩
def raiseM (C : CId) (names : List Str) (ml : EMt (List MV)) : SM := useM ml fun xs => fun e S => if xs.length = names.length then .exc ⟨C, (names.zip xs).reverse⟩ e S else .bad
/-- what an own __init__ that stores its parameters promises -/
def spX (C : Addr) (names : List Str) : Sp := fun vs H Q _ => ∃ a ws, vs = .ref a :: ws ∧ ws.length = names.length ∧ H a = some (exo a C none) ∧
  ∀ d, H d = none → d ≠ a → ∀ H', (∀ b, b ≠ a → b ≠ d → H' b = H b) → H' a = some (exo a C (some d)) → H' d = some (exd d (names.zip ws).reverse) → Q .non H'
structure RaG (P : Program) (w : World) (K : PySem.W.Frag) (mg : Str → Option Value) (base : Heap) (k : Nat) (x : Str) (C : CId) (names : List Str) : Prop where
  ex : ∃ (fI : Addr) (fd : FuncData) (ps : List Str), OexC K C.ad ∧ PySem.W.findIn K (.ref C.ad) "__init__" = some (some (.ref fI)) ∧ PySem.W.typeIn K (.ref fI) = some (.type "function") ∧ FnOk P w K mg base (L2.CX P w) k fI fd ps (spX C.ad names) ∧ Binds K fd ps [] ∧ mg x = some (.ref C.ad)
theorem passes_no {X : Cx} : Passes (L2.CX X.prog X.w) X (fun _ _ _ => False) := fun pins σ H s e s' I c => by
  obtain ⟨_, _, _, _, _, _, _, _, _, _, _, _, z⟩ := c
  exact z.elim
theorem ms_raise {k j : Nat} {x : Str} {C : CId} {names : List Str} {p pos pos2 : Pos} {e : Expr} {es : List Expr} (R : RaG X.prog X.w X.K X.mg X.base k x C names) (tk : Takes X W) (hr : Room j X.A) (ha : PA X (e :: es) (tA X.K W ml)) (hkj : k + 1 ≤ j := by decide) (hc : X.calm = true := by rfl) (hn : names.length ≤ 1000 := by decide) (hg : Gl X x := by rfl)
    (hdb : (x == ("__debug__" : Str)) = false := by decide) (he : starEach (e :: es) X.env = (false, eval e X.env) :: starEach es X.env := by rfl) (hpl : (backTo pos (starEach es X.env)).any (·.1) = false := by rfl) :
    PS X (.Raise (some (.Call (.Name x p) (e :: es) [] pos)) none pos2) (tS X.K W (raiseM C names ml)) := by
  obtain ⟨fI, fd, ps, T, h1, h2, F, hb, hm⟩ := R.ex
  refine PS.to (L2.ps_raise hc tk (pmk_oex T h1 h2 F (hr.mono hkj) hb .nil passes_no hg hm ha hdb he hpl)) fun D sg H h => (tS_use (rel := rL) h).imp fun vs H1 ⟨rho, en, S, xs, s, re, rl, f⟩ => ?_
  split at f
  · rename_i hl
    have hl2 : vs.length = names.length := by rw [rl.len]; exact hl
    refine ⟨by omega, fun a na => ⟨a, vs, by rw [List.append_nil], hl2, upd_same, fun d hd hne H' hrest hA hD => ⟨rfl, d, _, hA, hD, ?_, ?_⟩⟩⟩
    · rw [upd_ne hne] at hd; exact hd
    · have hd1 : H1 d = none := by rw [upd_ne hne] at hd; exact hd
      have eq : upd (del H' a) d (.xd (names.zip vs).reverse) = upd H1 d (.xd (names.zip vs).reverse) := by
        funext b
        by_cases hbd : b = d
        · rw [hbd, upd_same, upd_same]
        · rw [upd_ne hbd, upd_ne hbd]
          by_cases hba : b = a
          · rw [hba, del_same, na]
          · rw [del_ne hba, hrest b hba hbd, upd_ne hba]
      rw [eq]
      have l2 : Le X.K rho S H1 rho S (upd H1 d (.xd (names.zip vs).reverse)) := Le.ofNew hd1
      exact f rho _ sg (some d) (s.ofNew hd1) l2 (re.le l2) (.inr ⟨d, _, rfl, upd_same, (RepP.zip names (rl.le l2)).rev⟩)
  · exact f.elim
/-- __init__(self, p): self.f = p -/
theorem init1 {P : Program} {w : World} {K : PySem.W.Frag} {mg : Str → Option Value} {base : Heap} {qual : Str} {st : Stmt} {f : Addr} {fd : FuncData} {C : Addr} {n1 s0 s1 : Str} (T : OexC K C) (h1 : PySem.W.findIn K (.ref C) n1 = some none) (F : Fun K "__init__" qual st f fd) (S : FnScope [s0, s1] [s0, s1] (defScope st))
    (hbody : ∀ (cdv : Value) (A : Around) (outer : List PySem.Env) (s : Shared) (H : Hp) (E : XK), PSs (cxOf (L2.CX P w) P w K mg base [s0, s1] qual (defScope st) f cdv A outer s H E) (defBody st) (tOst K n1 (tVar 0) (tVar 1))) : FnOk P w K mg base (L2.CX P w) 1 f fd [s0, s1] (spX C [n1]) :=
  F.okX (k := 0) S (fun vs H Q E ⟨a, ws, e, hl, _⟩ => by rw [e, List.length_cons, hl]; rfl) fun cdv A outer s H vs Q E hr ⟨a, ws, e, hl, ha, q⟩ => by
    subst e
    match ws, hl with
    | [y], _ =>
      refine ⟨_, hbody cdv A outer s H E, y, rfl, .ref a, rfl, a, C, rfl, T, h1, .inl ⟨ha, fun dx hd hne => ?_⟩⟩
      exact q dx hd hne _ (fun b hb hb2 => by rw [upd_ne hb, upd_ne hb2]) upd_same (by rw [upd_ne hne, upd_same]; rfl)
/-- __init__(self, p, q): self.f = p; self.g = q -/
theorem init2 {P : Program} {w : World} {K : PySem.W.Frag} {mg : Str → Option Value} {base : Heap} {qual : Str} {st : Stmt} {f : Addr} {fd : FuncData} {C : Addr} {n1 n2 s0 s1 s2 : Str} (T : OexC K C) (h1 : PySem.W.findIn K (.ref C) n1 = some none) (h2 : PySem.W.findIn K (.ref C) n2 = some none) (F : Fun K "__init__" qual st f fd) (S : FnScope [s0, s1, s2] [s0, s1, s2] (defScope st))
    (hbody : ∀ (cdv : Value) (A : Around) (outer : List PySem.Env) (s : Shared) (H : Hp) (E : XK), PSs (cxOf (L2.CX P w) P w K mg base [s0, s1, s2] qual (defScope st) f cdv A outer s H E) (defBody st) (tSeq (tOst K n1 (tVar 0) (tVar 1)) (tOst K n2 (tVar 0) (tVar 2)))) : FnOk P w K mg base (L2.CX P w) 1 f fd [s0, s1, s2] (spX C [n1, n2]) :=
  F.okX (k := 0) S (fun vs H Q E ⟨a, ws, e, hl, _⟩ => by rw [e, List.length_cons, hl]; rfl) fun cdv A outer s H vs Q E hr ⟨a, ws, e, hl, ha, q⟩ => by
    subst e
    match ws, hl with
    | [y, z], _ =>
      refine ⟨_, hbody cdv A outer s H E, y, rfl, .ref a, rfl, a, C, rfl, T, h1, .inl ⟨ha, fun dx hd hne => ?_⟩⟩
      refine ⟨z, rfl, .ref a, rfl, a, C, rfl, T, h2, .inr ⟨dx, _, upd_same, by rw [upd_ne hne, upd_same], by simp, ?_⟩⟩
      exact q dx hd hne _ (fun b hb hb2 => by rw [upd_ne hb2, upd_ne hb, upd_ne hb2]) (by rw [upd_ne (Ne.symm hne), upd_same]) (by rw [upd_same]; rfl)
/-! ### isinstance of an exception -/
theorem cls_of {prog : Program} {w : World} {A : Around} {E : Value → Shared → Prop} {s : Shared} {K : PySem.W.Frag} {x D : Addr} {ox : Obj} {od : Option Obj} {Q : Option Value → Shared → Prop} (C : ExcC K D) (X : K.In s.heap) (I : PySem.W.InstAt s.heap x ox D od) (h : Q (some (.ref D)) { s with toks := s.toks + 1 }) :
    wpAny (model prog w) A (getAttr? (.ref x) "__class__") Q E s := by
  have hf : PySem.W.findObj K D od "__class__" = some (.bind (.builtin "getset_descriptor.__get__") (.builtin "object.__class__")) := by
    obtain ⟨cd, hc, _⟩ := PySem.W.any_some C.hd
    unfold PySem.W.findObj
    rw [hc, Option.bind_some, C.ha, Option.bind_some]
    simp [C.hn, C.ht]
  obtain ⟨hp, g, d, t, os⟩ := s
  have L0 := I.type (M := model prog w)
  have L1 := PySem.W.looks_findIn (M := model prog w) X C.hg
  have L2 := PySem.W.looks_findIn (M := model prog w) X C.hk
  have L3 := PySem.W.looks_find (M := model prog w) X I hf
  have sub : PySem.W.Looks (model prog w) hp (isInstance (.ref x) (.type "BaseException")) true := L0.andThen (PySem.W.looks_subIn X C.hs)
  have hx0 : (false && onTheHeap (Value.builtin "BaseException.__getattribute__")) = false := rfl
  have hx2 : (Value.builtin "BaseException.__getattribute__" == Value.builtin "object.__getattribute__") = false := by decide +kernel
  have hx1 : (onTheHeap (Value.ref D) && Value.builtin "BaseException.__getattribute__" == Value.builtin "object.__getattribute__") = false := by rw [hx2]; rfl
  unfold getAttr? getAttrBy? getAttrBy
  refine wpAny_bind (wpAny_mkText (wpAny_bind (wpAny_attempt (wpAny_holding (wpAny_bind (L0.at (wpAny_bind (L1.at ?_))))))))
  show wpAny _ _ (if (onTheHeap (Value.ref D) && Value.builtin "BaseException.__getattribute__" == Value.builtin "object.__getattribute__") = true then _ else _) _ _ _
  rw [hx1, if_neg Bool.false_ne_true]
  unfold getAttrByItsOwn hookBefore
  refine wpAny_bind ?_
  rw [if_pos (show onTheHeap (Value.ref D) = true from rfl)]
  refine L2.at ?_
  refine wpAny_bind (wpAny_attempt (wpAny_holding ?_))
  unfold callGetattribute
  rw [hx0, if_neg Bool.false_ne_true]
  unfold boundAndCalled
  rw [PySem.F.excAttr_ValueError.ga.bind (.ref x)]
  refine wpAny_bind (wpAny_pure ?_)
  show wpAny _ _ (call (.builtin "BaseException.__getattribute__") [.ref x, .str "__class__" t]) _ _ _
  refine wpAny_call (codeAny_call_builtin PySem.F.excAttr_ValueError.ga.plain PySem.F.entry_bexc_ga ?_)
  refine @PySem.W.check_slot (model prog w) _ _ ⟨hp, g, d, t + 1, os⟩ "BaseException.__getattribute__" "BaseException" "__getattribute__" (.ref x) [.str "__class__" t] [] _ (by decide +kernel) (by decide +kernel) sub (PySem.F.args_bexc_ga (.ref x) (.str "__class__" t)) ?_
  unfold Builtin.«object.__getattribute__»
  refine wpAny_bind (wpAny_of_eq (a := ((Value.ref x : Value), [Value.str "__class__" t])) (by first | rfl | (simp only [slotArgs]; rfl)) ?_)
  refine wpAny_bind (wpAny_pure (wpAny_bind (L0.at (wpAny_bind (L3.at ?_)))))
  show wpAny _ _ (holding [Value.builtin "object.__class__"] (call (.builtin "getset_descriptor.__get__") [.builtin "object.__class__", .ref x, .ref D]) >>= ret) _ _ _
  refine wpAny_bind (wpAny_holding (wpAny_call (PySem.W.class_get (s := ⟨hp, g, d, t + 1, os⟩) (ox := ox) (od := od) X I C.hm ?_)))
  refine wpAny_pure ?_
  show wpAny _ _ (handedOut (.ref D)) _ _ _
  rw [PySem.W.handedOut_of (v := .ref D) rfl]
  first
    | exact wpAny_pure (wpAny_pure h)
    | exact wpAny_pure h
    | exact wpAny_pure (wpAny_bind (wpAny_pure (wpAny_pure h)))
theorem kit_exn {K : PySem.W.Frag} {x D : Addr} {od : Option Obj} (C : ExcC K D) : PySem.W.KitX K (.ref x) (.ref D) (fun h => ∃ ox od, PySem.W.InstAt h x ox D od) where
  ty := fun _ _ _ ⟨_, _, I⟩ => I.type
  it := fun _ _ X _ => by
    obtain ⟨cdD, hcD, _⟩ := PySem.W.any_some C.hd
    unfold PySem.W.clsIn at hcD
    split at hcD
    · rename_i c' d' cd' sl' ho
      intro A' Q' E' s' k q
      unfold isType loadHead
      exact wpAny_bind (wpAny_loadPart (k _ _ (X _ _ ho)) (wpAny_pure q))
    · cases hcD
  ne := fun h tp dd its n sl X htp => by
    obtain ⟨cdD, hcD, _⟩ := PySem.W.any_some C.hd
    refine Bool.eq_false_iff.mpr fun q => ?_
    have e : D = tp := Value.ref.inj (beq_iff_eq.mp q)
    subst e
    unfold PySem.W.clsIn at hcD
    split at hcD
    · rename_i c' d' cd' sl' ho
      have z := (X _ _ ho).symm.trans htp
      cases z
    · cases hcD
  ca := fun X ⟨_, _, I⟩ k => cls_of C X I k
def rIsX (K : PySem.W.Frag) : List V → Hp → VK → Prop := fun xs H Q => ∃ (a D : Addr) (d : Option Addr) (c : V) (u : Value) (b : Bool), xs = [.ref a, c] ∧ ClsV c u ∧ H a = some (ExT (.ref D) d a) ∧ (d = none ∨ ∃ dd ws, d = some dd ∧ H dd = some (.xd ws)) ∧ ExcC K D ∧ PySem.W.kitOne K (.ref D) u = some b ∧ Q (.bl b) H
theorem call_isX {X : Cx} : CallR X (.builtin "isinstance") (rIsX X.K) := by
  intro pins s σ H xs us Q I r h
  obtain ⟨a, D, d, c, u, b, rfl, k, ha, hd, C, e, q⟩ := h
  obtain ⟨u1, u2, rfl, r1, r2⟩ := vals2 r
  have e2 := k.eq r2
  subst e2
  cases (show u1 = Value.ref a from r1)
  obtain ⟨oe, vs, hg, hz, hdat⟩ := extT_at I.hok ha
  have J : ∃ ox od, PySem.W.InstAt s.heap a ox D od := by
    rcases hd with rfl | ⟨dd, ws, rfl, hdd⟩
    · exact ⟨oe, none, hg, hz.1, by unfold PySem.W.notCls; rw [hdat] <;> rfl, by rw [hz.2]; trivial⟩
    · have hx : ObjOk X.prog X.w H s.heap dd (.xd ws) := I.hok dd _ hdd
      obtain ⟨mA, hns, hr⟩ := hx
      obtain ⟨od, ho, hl⟩ := lookIn_ns hns
      exact ⟨oe, some od, hg, hz.1, by unfold PySem.W.notCls; rw [hdat] <;> rfl, by rw [hz.2]; exact ho⟩
  exact PySem.W.kia_one (kit_exn (od := none) C) I.kIn J e (fun z => nomatch z) fun tk => ⟨.bl b, H, I.kept (t' := tk) fun _ _ z => z, rfl, q⟩
structure IsXOk (K : PySem.W.Frag) (C : CId) (tb : List (CId × Bool)) : Prop where
  o : ∀ p ∈ tb, ExcC K p.1.ad ∧ PySem.W.kitOne K (.ref p.1.ad) (.ref C.ad) = some p.2
/-- isinstance(x, C), C an exception's class -/
def isXL (C : CId) (tb : List (CId × Bool)) : List MV → Sto → Res MV
  | [x, .obj a], S => if a = C.ad then (match exnO x S with
    | some (_, D, _) => (match tb.find? fun p => decide (p.1 = D) with
      | some p => .ok (.bl p.2) S
      | none => .bad)
    | none => .bad) else .bad
  | _, _ => .bad
theorem isXL_ok {K : PySem.W.Frag} {C : CId} {tb : List (CId × Bool)} (h : IsXOk K C tb) : SndL K (rIsX K) (isXL C tb) := by
  intro rho S H xs vs Q E s rx f
  unfold isXL at f
  split at f
  · rename_i x a
    obtain ⟨v, w, h1, h2, h3⟩ := rep2 rx
    split at f
    · rename_i ea
      subst ea
      have h3 : w = .ref C.ad := h3
      split at f
      · rename_i k D fs q
        obtain ⟨rfl, hk, hS, rfl, d, g1, g2⟩ := exnO_ok s h2 q
        split at f
        · rename_i p hp
          have e : p.1 = D := by simpa using List.find?_some hp
          subst e
          obtain ⟨T, kt⟩ := h.o p (List.mem_of_find?_eq_some hp)
          refine ⟨_, _, d, _, _, _, h1, by rw [h3]; exact .own _, g1, ?_, T, kt, f.val s rfl⟩
          rcases g2 with ⟨e, _⟩ | ⟨dd, ws, e, g3, _⟩
          · exact .inl e
          · exact .inr ⟨dd, ws, e, g3⟩
        · exact f.elim
      · exact f.elim
    · exact f.elim
  · exact f.elim
end
end Mm
end

section
/-! ## M, part 18: a loop or comprehension over an instance whose own __iter__ returns iter(self.f), f a list -/
namespace Mm
open PySem L2 PyProof.Rows ItX
def ItrEnd (P : Program) (w : World) (outer : List PySem.Env) (s : Shared) (H : Hp) (l : Addr) (r : Result) (s' : Shared) : Prop := match r with
  | .ok (.ret u) => ∃ it, u = .ref it ∧ s.heap.objs.size ≤ it ∧ H it = none ∧ CE outer P w H s (fun v H' => v = .ref it ∧ H' = upd H it (ItO l it 0)) (.ref it) s'
  | .ok _ => False
  | .error e => L2.CX P w outer H s (fun _ _ _ => False) e s'
/-- what a call of an own __iter__ that returns iter(self.f) comes to -/
def ItrRun (P : Program) (w : World) (K : PySem.W.Frag) (mg : Str → Option Value) (base : Heap) (k : Nat) (fi C : Addr) (f : Str) : Prop :=
  ∀ (A : Around) (outer : List PySem.Env) (s : Shared) (H : Hp) (a dx : Addr) (fs : List (Str × V)) (l : Addr) (zs : List V), Room k A → Env0 P w K mg base A outer s H → H a = some (.ins C dx fs) → fs.lookup f = some (.ref l) → SqL K H l zs →
    codeAny (model P w) A (.call (.ref fi) ⟨[.ref a], []⟩) (ItrEnd P w outer s H l) s
structure ItrG (P : Program) (w : World) (K : PySem.W.Frag) (mg : Str → Option Value) (base : Heap) (k : Nat) (C : CId) (f : Str) : Prop where
  ex : ∃ (fi : Addr), PySem.W.findIn K (.ref C.ad) "__iter__" = some (some (.ref fi)) ∧ PySem.W.isFn K (.ref fi) = true ∧ ItrRun P w K mg base k fi C.ad f
/-- __iter__(self): return iter(self.f) -/
theorem iter1 {P : Program} {w : World} {K : PySem.W.Frag} {mg : Str → Option Value} {base : Heap} {qual : Str} {st : Stmt} {f : Addr} {fd : FuncData} {C : Addr} {n1 s0 : Str} (T : Cls K C) (hn : NoAttr K C n1) (F : Fun K "__iter__" qual st f fd) (S : FnScope [s0] [s0] (defScope st)) (hb : Binds K fd [s0] [])
    (hbody : ∀ (cdv : Value) (A : Around) (outer : List PySem.Env) (s : Shared) (H : Hp) (E : XK), PSs (cxOf (L2.CX P w) P w K mg base [s0] qual (defScope st) f cdv A outer s H E) (defBody st) (tRet (tCB (rIterN K s.heap.objs.size) (tCons (tFld K (tVar 0) n1) tNil)))) : ItrRun P w K mg base 1 f C n1 := by
  obtain ⟨oc, od, kV, doc, pm, an, cdv, ct, osl, rfl, lk, hcd⟩ := F.ex
  intro A outer s H a dx fs l zs hr e0 ha hf hz
  have KX : K.In s.heap := e0.mod.kin.keeps fun b o e => (e0.bs b o e).1
  have lim : s.heap.NoLimit := e0.mod.nolimit.keeps fun b o e => (e0.bs b o e).1
  have r2 : Vals [V.ref a] [Value.ref a] := .cons rfl .nil
  have hkind : ∀ y ∈ ([s0] : List Str).zip [Value.ref a], (defScope st).names.lookup y.1 = some .local ∨ ((defScope st).names.lookup y.1 = some .cell ∧ ((cellsFrom (s.heap.objs.size + 1) (defScope st).names []).lookup y.1).isSome = true) := fun ⟨n, v⟩ hy => by
    rcases S.par n (List.of_mem_zip hy).1 with q | q
    · exact .inl q
    · exact .inr ⟨q, PySem.W.cellsFrom_some _ _ _ (.inl q)⟩
  have hbd := hb s [.ref a] KX rfl
  simp only [List.append_nil] at hbd
  refine codeAny_call_function hr.depth (KX _ _ lk) rfl S.co S.gen rfl (PySem.W.codeRec_of KX hcd) (hbd _ _ _ _ ?_)
  refine wpAny_newFunctionEnv_cells S.kind hkind fun env he s1 x => ?_
  subst he
  refine ⟨lim.keeps x.toInCall.keep, codeAny_func ?_⟩
  have ht := hbody cdv A outer s H (fun _ _ _ => False)
  have I : Inv (cxOf (L2.CX P w) P w K mg base [s0] qual (defScope st) f cdv A outer s H (fun _ _ _ => False)) [] (start [s0] [.ref a]) H s1 := inv_start S hr.hd e0 rfl r2 x
  refine wpAny_mono (ht.run [] s1 (start [s0] [.ref a]) H { nx := fun _ _ => False, rt := fun v H' => ∃ it, v = .ref it ∧ s.heap.objs.size ≤ it ∧ H it = none ∧ H' = upd H it (ItO l it 0) } I
    ⟨.ref a, rfl, a, C, dx, fs, _, rfl, ha, T, hn, hf, l, zs, rfl, hz, fun it h1 h2 => ⟨it, rfl, h2, h1, rfl⟩⟩) (fun fl s' hs => ?_) fun e s' hs => ?_
  · cases fl with
    | ret u =>
      obtain ⟨v, σ', H', J, rv, it, ev, h1, h2, eH⟩ := hs
      subst ev
      obtain rfl : u = Value.ref it := rv
      exact ⟨it, rfl, h1, h2, .ref it, H', J.os, J.bare, J.base, J.hok, rfl, rfl, eH⟩
    | next =>
      obtain ⟨_, _, _, q⟩ := hs
      exact False.elim q
    | brk =>
      obtain ⟨_, _, _, q⟩ := hs
      exact False.elim q
    | cont =>
      obtain ⟨_, _, _, q⟩ := hs
      exact False.elim q
  · exact hs
/-- what is walked: an instance's own iterator over its list -/
def iItr (K : PySem.W.Frag) (C : Addr) (f : Str) (te : TE) : TI := fun σ H R => te σ H fun x H1 => ∃ a dx fs l zs, x = .ref a ∧ H1 a = some (.ins C dx fs) ∧ fs.lookup f = some (.ref l) ∧ SqL K H1 l zs ∧ R (Itl K l) H1
section
variable {X : Cx} {tg e : Expr} {te : TE} {C : CId} {f : Str} {k j : Nat}
theorem pi_itr (T : ItrG X.prog X.w X.K X.mg X.base k C f) (hr : Room j X.A) (he : PE X e te) (hkj : k ≤ j := by decide) : PI X tg e (iItr X.K C.ad f te) := by
  obtain ⟨fi, h1, h2, F⟩ := T.ex
  refine ⟨fun pins s σ H R I h => ?_⟩
  refine thn (he.run pins s σ H _ I h) fun u s1 ⟨x, H1, I1, r1, a, dx, fs, l, zs, ex, ha, hf, hl, q⟩ => ?_
  subst ex
  obtain rfl : u = Value.ref a := r1
  obtain ⟨mA, J, _⟩ := ins_get I1.hok ha
  obtain ⟨od, J, _⟩ := J.look
  obtain ⟨m0, hF⟩ := I1.fr
  refine PySem.W.owit_iter hF I1.ok.mod.kin J h1 h2 ?_
  refine wpAny_call (codeAny_mono (F X.A X.stack s1 H1 a dx fs l zs (hr.mono hkj) I1.env0 ha hf hl) fun r s' hq' => ?_)
  cases r with
  | error e =>
    obtain ⟨_, _, _, _, _, _, _, _, _, _, _, _, z⟩ := hq'
    exact z.elim
  | ok fl =>
  cases fl with
  | next => exact False.elim hq'
  | brk => exact False.elim hq'
  | cont => exact False.elim hq'
  | ret u =>
  obtain ⟨it2, rfl, hsz, hn, hq2⟩ := hq'
  obtain ⟨v2, H2, I2, rv, ev2, eH2⟩ := I1.after hq2
  subst ev2
  subst eH2
  have eo := itO_get I2 upd_same
  have st : s'.heap.IsListIter it2 l 0 := ⟨_, eo, rfl, rfl⟩
  have I3 := inv_drop I2 (a := it2) (φ := fun h => h.get? it2 = some (GNX.itObj l 0)) upd_same
  have fp := inv_fp I2 (u := ItO l it2 0) upd_same (Nat.le_trans I1.sz hsz)
  rw [dropH_upd hn] at I3 fp
  unfold PySem.W.OwitIt
  have hT : s'.TypeIs (.ref it2) "list_iterator" := ⟨_, eo, rfl⟩
  refine wpAny_specialOf (name := Str.ofString "__next__") hT slot_listiter_next.lookup ?_
  refine ⟨it2, [it2], _, _, H1, rfl, I3, turn_list l it2, st, fun b hb => ?_, q⟩
  have e : b = it2 := by simpa using hb
  rw [e]; exact fp
end
section
variable {X : Cx} {W : WX} {K : PySem.W.Frag} {tg e : Expr} {m : EM} {C : CId} {f : Str} {k j : Nat}
/-- the items of an instance by its own __iter__ -/
def ownO (C : CId) (f : Str) (x : MV) (S : Sto) : Option Itm := match insO x S with
  | some (_, D, fs) => if D = C then (match fs.lookup f with
    | some (.ref l) => (match S.g l with
      | .lst xs => some ⟨xs, [(l, xs)]⟩
      | _ => none)
    | _ => none) else none
  | none => none
def ownM (C : CId) (f : Str) (m : EM) : EMt Itm := bindM m fun x => fun _ S => itmV (ownO C f x S) S
theorem mi_own (T : ItrG X.prog X.w X.K X.mg X.base k C f) (hr : Room j X.A) (he : PE X e (tM X.K W m)) (hkj : k ≤ j := by decide) : PI X tg e (tI X.K W (ownM C f m)) :=
  PI.to (pi_itr T hr he hkj) fun sg H R h => (tG_bind (rel := rV) h).imp fun v H1 ⟨rho, en, S, x, s, re, r, f⟩ => by
    obtain ⟨itm, q, k⟩ := fin_itm (al := Unit) f s
    unfold ownO at q
    split at q
    · rename_i kk D fs q1
      obtain ⟨rfl, hk, hS, rfl, dx, ws, g1, g2⟩ := insO_ok s r q1
      split at q
      · rename_i hD
        subst hD
        split at q
        · rename_i l q2
          obtain ⟨v, q3, rv⟩ := g2.look.1 _ q2
          obtain ⟨hl, rfl⟩ := rv
          split at q
          · rename_i xs q4
            cases q
            obtain ⟨vs, g3, g4⟩ := lst_at s hl q4
            exact ⟨_, dx, ws, _, vs, rfl, g1, q3, SqL.of g3, k _ (rJ_seqL hl)⟩
          · cases q
        · cases q
      · cases q
    · cases q
end
end Mm
end

section
/-! ## P, part 2: instances, texts, sums, recursion -/
namespace Mm
open PySem L2
section
variable {al be : Type} {e : Sl} {S : Sto} {x y z : MV} {m ma mb mc mo mv : EM} {ml : EMt (List MV)} {nx : Sl → Sto → Prop} {k : Kt} {Q : MV → Sto → Prop}
theorem Sto.ext' {S S' : Sto} (h1 : S.n = S'.n) (h2 : ∀ j, S.g j = S'.g j) : S = S' := by
  cases S; cases S'
  simp only at h1
  subst h1
  congr
  exact funext h2
theorem add_put {o o' : MO} : (S.add o).put S.n o' = S.add o' := Sto.ext' rfl fun j => by
  show (if j = S.n then o' else if j = S.n then o else S.g j) = if j = S.n then o' else S.g j
  split <;> rfl
theorem put_put {a : Nat} {o o' : MO} : (S.put a o).put a o' = S.put a o' := Sto.ext' rfl fun j => by
  show (if j = a then o' else if j = a then o else S.g j) = if j = a then o' else S.g j
  split <;> rfl
/-! attributes -/
theorem lk_here {f : Str} {r : List (Str × MV)} : List.lookup f ((f, x) :: r) = some x := by simp [List.lookup]
theorem lk_next {f g : Str} {r : List (Str × MV)} {o : Option MV} (h : (f == g) = false) (t : List.lookup f r = o) : List.lookup f ((g, y) :: r) = o := by simp only [List.lookup, h, t]
theorem lk_nil {f : Str} : List.lookup f ([] : List (Str × MV)) = none := rfl
theorem pf_nil {f : Str} : putFM f x [] = [(f, x)] := rfl
theorem pf_here {f : Str} {r : List (Str × MV)} : putFM f x ((f, y) :: r) = (f, x) :: r := if_pos rfl
theorem pf_next {f g : Str} {r r' : List (Str × MV)} (h : ¬ g = f) (t : putFM f x r = r') : putFM f x ((g, y) :: r) = (g, y) :: r' := by rw [← t]; exact if_neg h
theorem w_fld {cs : List CId} {f : Str} {a : Nat} {C : CId} {fs : List (Str × MV)} (hS : S.g a = .ins C fs) (hC : C ∈ cs) (h : fs.lookup f = some x) (q : Q x S) : Ret (fldV cs f (.ref a) S) Q := by
  simp only [fldV, insO, hS, if_pos hC, h]; exact q
theorem v_fld {cs : List CId} {f : Str} (h : Ret (mv e S) fun v S1 => Ret (mo e S1) fun o S2 => ∃ a C fs fs', o = .ref a ∧ S2.g a = .ins C fs ∧ C ∈ cs ∧ fs.length < 1000 ∧ putFM f v fs = fs' ∧ nx e (S2.put a (.ins C fs'))) : RetS (setFM cs f mo mv e S) nx k :=
  v_use (h.imp fun _ _ h => v_use (h.imp fun o S2 ⟨a, C, fs, fs', h1, h2, h3, h4, h5, h6⟩ => by
    subst h1 h5
    simp only [insO, h2, if_pos (And.intro h3 h4)]; exact h6))
theorem v_fldv {cs : List CId} {f : Str} {i j a : Nat} {v : MV} {C : CId} {fs fs' : List (Str × MV)} (hi : e[i]? = some (some (.ref a))) (hj : e[j]? = some (some v)) (hS : S.g a = .ins C fs) (hC : C ∈ cs) (hl : fs.length < 1000) (hp : putFM f v fs = fs') (q : nx e (S.put a (.ins C fs'))) : RetS (setFM cs f (varM i) (varM j) e S) nx k :=
  v_fld (w_var hj (w_var hi ⟨a, C, fs, fs', rfl, hS, hC, hl, hp, q⟩))
theorem w_new {C : CId} {mi : MF} {xs : List MV} (h : Ret (mi (.ref S.n :: xs) (S.add (.ins C []))) fun y S' => y = .non ∧ Q (.ref S.n) S') : Ret (newV C mi xs S) Q := by
  obtain ⟨y, S', q, rfl, h2⟩ := h.eq
  unfold newV
  rw [q]; exact h2
theorem w_met {mn : Str} {cs : List (CId × MF)} (h : Ret (mo e S) fun o S1 => ∃ m, pickM mn cs o S1 = some m ∧ Ret (ml e S1) fun xs S2 => Ret (m (o :: xs) S2) Q) : Ret (metM mn cs mo ml e S) Q :=
  w_bind (h.imp fun o S1 ⟨m, h1, h2⟩ => by
    simp only [h1]; exact w_bind h2)
theorem pick_here {mn : Str} {C : CId} {mf : MF} {cs : List (CId × MF)} {a : Nat} {fs : List (Str × MV)} (hS : S.g a = .ins C fs) (h : fs.lookup mn = none) : pickM mn ((C, mf) :: cs) (.ref a) S = some mf := by
  simp [pickM, insO, hS, h]
theorem pick_next {mn : Str} {C D : CId} {mf mg : MF} {cs : List (CId × MF)} {a : Nat} {fs : List (Str × MV)} (hS : S.g a = .ins C fs) (hne : D.nm ≠ C.nm) (h : pickM mn cs (.ref a) S = some mg) : pickM mn ((D, mf) :: cs) (.ref a) S = some mg := by
  have hD : D ≠ C := fun e => hne (by rw [e])
  simp only [pickM, insO, hS] at h ⊢
  split at h
  · rename_i hl
    rw [if_pos hl, List.find?_cons_of_neg (by simpa using hD)]
    exact h
  · cases h
theorem w_eqI {cs : List (CId × MF)} {a b : Nat} {C : CId} {fs gs : List (Str × MV)} {m : MF} (h1 : S.g a = .ins C fs) (h2 : S.g b = .ins C gs) (h3 : (cs.find? fun p => decide (p.1 = C)).map (·.2) = some m) (h : Ret (m [.ref a, .ref b] S) fun y S' => ∃ c, y = .bl c ∧ Q y S') : Ret (eqIV cs (.ref a) (.ref b) S) Q := by
  obtain ⟨y, S', q, c, rfl, h5⟩ := h.eq
  obtain ⟨p, h6, rfl⟩ := Option.map_eq_some_iff.1 h3
  simp only [eqIV, insO, h1, h2, if_true, h6, q]
  exact h5
theorem find_here {C : CId} {m : MF} {cs : List (CId × MF)} : (((C, m) :: cs).find? fun p => decide (p.1 = C)).map (·.2) = some m := by simp
theorem find_next {C D : CId} {m m' : MF} {cs : List (CId × MF)} (hne : D.nm ≠ C.nm) (h : (cs.find? fun p => decide (p.1 = C)).map (·.2) = some m) : (((D, m') :: cs).find? fun p => decide (p.1 = C)).map (·.2) = some m := by
  have hD : D ≠ C := fun e => hne (by rw [e])
  rw [List.find?_cons_of_neg (by simpa using hD)]
  exact h
theorem w_isI {C D : CId} {tb : List (CId × Bool)} {a : Nat} {fs : List (Str × MV)} {b : Bool} (h1 : S.g a = .ins D fs) (h2 : (tb.find? fun p => decide (p.1 = D)).map (·.2) = some b) (q : Q (.bl b) S) : Ret (isIL C tb [.ref a, .obj C.ad] S) Q := by
  obtain ⟨p, h3, rfl⟩ := Option.map_eq_some_iff.1 h2
  simp only [isIL, isIV, insO, h1, if_true, h3]
  exact q
theorem w_isB {C : CId} {tb : List (CId × Bool)} {t : String} (h1 : insO x S = none) (h2 : tyN x S = some t) (h3 : t ∈ baseTys) (q : Q (.bl false) S) : Ret (isIL C tb [x, .obj C.ad] S) Q := by
  simp only [isIL, isIV, if_true, h1, h2, if_pos h3]
  exact q
theorem tb_here {C : CId} {b : Bool} {tb : List (CId × Bool)} : (((C, b) :: tb).find? fun p => decide (p.1 = C)).map (·.2) = some b := by simp
theorem tb_next {C D : CId} {b b' : Bool} {tb : List (CId × Bool)} (hne : D.nm ≠ C.nm) (h : (tb.find? fun p => decide (p.1 = C)).map (·.2) = some b) : (((D, b') :: tb).find? fun p => decide (p.1 = C)).map (·.2) = some b := by
  have hD : D ≠ C := fun e => hne (by rw [e])
  rw [List.find?_cons_of_neg (by simpa using hD)]
  exact h
/-! texts, sums -/
theorem w_strI {i : Int} (h : i.natAbs.log2 < 1920) (q : Q (.str (toString i)) S) : Ret (strV [.int i] S) Q := by
  simp only [strV, if_pos h]; exact q
theorem w_strS {a : Str} (q : Q (.str a) S) : Ret (strV [.str a] S) Q := q
theorem strsOf_map : ∀ ys : List Str, strsOf (ys.map .str) = some ys
  | [] => rfl
  | y :: ys => by simp only [List.map_cons, strsOf, strsOf_map ys, Option.map_some]
theorem intsO_map : ∀ ys : List Int, intsO (ys.map .int) = some ys
  | [] => rfl
  | y :: ys => by simp only [List.map_cons, intsO, intsO_map ys, Option.map_some]
theorem w_join {a : Str} {ys : List Str} (h1 : seqT x S = some (ys.map .str)) (h2 : (ys.map (·.length)).sum + ys.length * a.length ≤ 16777216) (q : Q (.str (Txt.join a ys)) S) : Ret (joinV (.str a) [x] S) Q := by
  simp only [joinV, h1, Option.bind_some, strsOf_map, if_pos h2]; exact q
theorem seqT_lst {a : Nat} {xs : List MV} (hS : S.g a = .lst xs) : seqT (.ref a) S = some xs := by simp only [seqT, hS, seqO]
theorem w_sum {a : Nat} {ns : List Int} (hS : S.g a = .lst (ns.map .int)) (q : Q (.int ns.sum) S) : Ret (sumV [.ref a] S) Q := by
  simp only [sumV, hS, seqO, Option.bind_some, intsO_map]; exact q
theorem w_inFl {xs : List MV} {b : Bool} (h : inFl x xs = some b) (q : Q (.bl b) S) : Ret (inVv x (.tup xs) S) Q := w_in (b := b) h q
theorem w_ninFl {xs : List MV} {b : Bool} (h : inFl x xs = some b) (q : Q (.bl (!b)) S) : Ret (notInV x (.tup xs) S) Q := w_nin (b := b) h q
/-! dicts with tuple keys -/
theorem w_lenT2 {a : Nat} {kvs : List (List Key × MV)} (hS : S.g a = .dT kvs) (q : Q (.int kvs.length) S) : Ret (lenV2 [.ref a] S) Q := by
  simp only [lenV2, hS]; exact q
theorem w_inT {neg : Bool} (h : Ret (ml e S) fun xs S1 => xs.length ≤ sizeLine ∧ Ret (mo e S1) fun o S2 => ∃ a kvs ks, o = .ref a ∧ S2.g a = .dT kvs ∧ toKs xs = some ks ∧ Q (.bl (if neg then !(valM kvs ks).isSome else (valM kvs ks).isSome)) S2) : Ret (inTM neg ml mo e S) Q :=
  w_bind (h.imp fun xs S1 ⟨h1, h2⟩ => by
    rw [if_pos h1]
    exact w_bind (h2.imp fun o S2 ⟨a, kvs, ks, h3, h4, h5, h6⟩ => by
      subst h3
      simp only [dTO, h4, h5, if_pos h1]; exact h6))
theorem w_idxTM (h : Ret (mo e S) fun o S1 => Ret (ml e S1) fun xs S2 => ∃ a kvs ks y, o = .ref a ∧ S2.g a = .dT kvs ∧ toKs xs = some ks ∧ xs.length ≤ sizeLine ∧ valM kvs ks = some y ∧ Q y S2) : Ret (idxTM mo ml e S) Q :=
  w_bind (h.imp fun o S1 h => w_bind (h.imp fun xs S2 ⟨a, kvs, ks, y, h1, h2, h3, h4, h5, h6⟩ => by
    subst h1
    simp only [dTO, h2, h3, if_pos h4, h5]; exact h6))
theorem v_setTM (h : Ret (mv e S) fun v S0 => Ret (mo e S0) fun o S1 => Ret (ml e S1) fun xs S2 => ∃ a kvs ks, o = .ref a ∧ S2.g a = .dT kvs ∧ toKs xs = some ks ∧ xs.length ≤ sizeLine ∧ kvs.length < sizeLine ∧ nx e (S2.put a (.dT (putM kvs ks v)))) : RetS (setTM mo ml mv e S) nx k :=
  v_use (h.imp fun v S0 h => v_use (h.imp fun o S1 h => v_use (h.imp fun xs S2 ⟨a, kvs, ks, h1, h2, h3, h4, h5, h6⟩ => by
    subst h1
    simp only [dTO, h2, h3, if_pos h4, if_pos h5]; exact h6)))
theorem v_par {i j : Nat} (h : Ret (ml e S) fun xs S1 => ∃ x y, xs = [x, y] ∧ nx ((e.set i (some x)).set j (some y)) S1) : RetS (parM i j ml e S) nx k := v_use (h.imp fun xs S1 hh => by
  obtain ⟨x, y, rfl, h2⟩ := hh; exact h2)
end
end Mm
end

section
/-! ## P, part 3: exceptions: what is raised, what is caught -/
namespace Mm
open PySem L2
/-- an exception goes out -/
def RetX {al : Type} (r : Res al) (Q : Exc → Sto → Prop) : Prop := match r with
  | .exc x S => Q x S
  | _ => False
def RetSX (r : SR) (Q : Exc → Sl → Sto → Prop) : Prop := match r with
  | .exc x e S => Q x e S
  | _ => False
section
variable {al be : Type} {e : Sl} {S : Sto} {x y z : MV} {m ma mb mc mo mv : EM} {ml : EMt (List MV)} {nx : Sl → Sto → Prop} {k : Kt} {Q : MV → Sto → Prop} {QX : Exc → Sto → Prop} {QS : Exc → Sl → Sto → Prop}
theorem RetX.eq {r : Res al} (h : RetX r QX) : ∃ x S, r = .exc x S ∧ QX x S := by
  cases r with
  | exc x S => exact ⟨x, S, rfl, h⟩
  | ok => exact h.elim
  | bad => exact h.elim
theorem RetX.imp {r : Res al} {Q Q' : Exc → Sto → Prop} (h : RetX r Q) (i : ∀ x S, Q x S → Q' x S) : RetX r Q' := by
  cases r with
  | exc x S => exact i x S h
  | ok => exact h
  | bad => exact h
theorem RetSX.eq {r : SR} (h : RetSX r QS) : ∃ x e S, r = .exc x e S ∧ QS x e S := by
  cases r with
  | exc x e S => exact ⟨x, e, S, rfl, h⟩
  | _ => exact h.elim
theorem RetSX.imp {r : SR} {Q Q' : Exc → Sl → Sto → Prop} (h : RetSX r Q) (i : ∀ x e S, Q x e S → Q' x e S) : RetSX r Q' := by
  cases r with
  | exc x e S => exact i x e S h
  | _ => exact h
/-- the first part is fine, the second raises -/
theorem x_bind {m : EMt al} {f : al → EMt be} (h : Ret (m e S) fun x S' => RetX (f x e S') QX) : RetX (bindM m f e S) QX := by
  obtain ⟨x, S', q, h⟩ := h.eq
  unfold bindM
  rw [q]; exact h
/-- the first part raises -/
theorem x_bind1 {m : EMt al} {f : al → EMt be} (h : RetX (m e S) QX) : RetX (bindM m f e S) QX := by
  obtain ⟨x, S', q, h⟩ := h.eq
  unfold bindM
  rw [q]; exact h
theorem x_opL {g : List MV → Sto → Res MV} (h : Ret (ml e S) fun xs S1 => RetX (g xs S1) QX) : RetX (opL g ml e S) QX := x_bind h
theorem x_met {mn : Str} {cs : List (CId × MF)} (h : Ret (mo e S) fun o S1 => ∃ m, pickM mn cs o S1 = some m ∧ Ret (ml e S1) fun xs S2 => RetX (m (o :: xs) S2) QX) : RetX (metM mn cs mo ml e S) QX :=
  x_bind (h.imp fun o S1 ⟨m, h1, h2⟩ => by
    simp only [h1]; exact x_bind h2)
theorem x_use {m : EMt al} {f : al → SM} (h : Ret (m e S) fun x S1 => RetSX (f x e S1) QS) : RetSX (useM m f e S) QS := by
  obtain ⟨x, S', q, h⟩ := h.eq
  unfold useM
  rw [q]; exact h
theorem x_use1 {m : EMt al} {f : al → SM} (h : RetX (m e S) fun x S1 => QS x e S1) : RetSX (useM m f e S) QS := by
  obtain ⟨x, S', q, h⟩ := h.eq
  unfold useM
  rw [q]; exact h
theorem x_asg {p : Pt} (h : RetX (m e S) fun x S1 => QS x e S1) : RetSX (asgM p m e S) QS := x_use1 h
theorem x_drop (h : RetX (m e S) fun x S1 => QS x e S1) : RetSX (dropM' m e S) QS := x_use1 h
theorem x_retM (h : RetX (m e S) fun x S1 => QS x e S1) : RetSX (retM m e S) QS := x_use1 h
theorem x_seq {a b : SM} (h : RetS (a e S) (fun e S => RetSX (b e S) QS) { rt := fun _ _ => False }) : RetSX (seqM a b e S) QS := by
  unfold seqM
  cases q : a e S with
  | nx e' S' => rw [q] at h; exact h
  | ret => rw [q] at h; exact h
  | brk => rw [q] at h; exact h
  | ct => rw [q] at h; exact h
  | exc => rw [q] at h; exact h.elim
  | bad => rw [q] at h; exact h
theorem x_seq1 {a b : SM} (h : RetSX (a e S) QS) : RetSX (seqM a b e S) QS := by
  obtain ⟨x, e', S', q, h⟩ := h.eq
  unfold seqM
  rw [q]; exact h
theorem x_if {ta : EMt Bool} {a b : SM} (h : Ret (ta e S) fun c S1 => (c = true → RetSX (a e S1) QS) ∧ (c = false → RetSX (b e S1) QS)) : RetSX (ifM ta a b e S) QS := x_use (h.imp fun c S1 ⟨h1, h2⟩ => by
  cases c with
  | true => exact h1 rfl
  | false => exact h2 rfl)
theorem x_raise {C : CId} {names : List Str} (h : Ret (ml e S) fun xs S1 => xs.length = names.length ∧ QS ⟨C, (names.zip xs).reverse⟩ e S1) : RetSX (raiseM C names ml e S) QS := x_use (h.imp fun xs S1 ⟨h1, h2⟩ => by
  rw [if_pos h1]; exact h2)
theorem x_def {np N : Nat} {b : SM} {xs : List MV} (hl : xs.length = np) (h : RetSX (b (xs.map some ++ List.replicate (N - np) none) S) fun x _ S => QX x S) : RetX (defM np N b xs S) QX := by
  obtain ⟨x, e', S', q, h⟩ := h.eq
  unfold defM
  rw [if_pos hl, q]; exact h
/-! ### try -/
theorem v_try {tbl : List (CId × Bool)} {i : Nat} {b su : SM} (h : RetS (b e S) nx k) : RetS (tryAs tbl i b su e S) nx k := by
  unfold tryAs
  cases q : b e S with
  | exc => rw [q] at h; exact h.elim
  | _ => rw [q] at h; exact h
theorem v_tryX {tbl : List (CId × Bool)} {i : Nat} {b su : SM} (h : RetSX (b e S) fun x e1 S1 => (tbl.find? fun p => decide (p.1 = x.C)).map (·.2) = some true ∧ RetS (su (e1.set i (some (.ref S1.n))) (S1.add (.exn x.C x.fs))) (fun e2 S2 => nx (e2.set i none) S2) { rt := k.rt, bk := fun e2 S2 => k.bk (e2.set i none) S2, ct := fun e2 S2 => k.ct (e2.set i none) S2 }) : RetS (tryAs tbl i b su e S) nx k := by
  obtain ⟨x, e1, S1, q, h1, h2⟩ := h.eq
  obtain ⟨p, h3, h4⟩ := Option.map_eq_some_iff.1 h1
  unfold tryAs
  rw [q]
  simp only [h3, h4, if_true]
  cases q2 : su (e1.set i (some (.ref S1.n))) (S1.add (.exn x.C x.fs)) with
  | nx e2 S2 => rw [q2] at h2; exact h2
  | brk e2 S2 => rw [q2] at h2; exact h2
  | ct e2 S2 => rw [q2] at h2; exact h2
  | ret y S2 => rw [q2] at h2; exact h2
  | exc => rw [q2] at h2; exact h2.elim
  | bad => rw [q2] at h2; exact h2.elim
theorem w_xf {cs : List CId} {f : Str} {a : Nat} {C : CId} {fs : List (Str × MV)} (hS : S.g a = .exn C fs) (hC : C ∈ cs) (h : fs.lookup f = some x) (q : Q x S) : Ret (xfV cs f (.ref a) S) Q := by
  simp only [xfV, exnO, hS, if_pos hC, h]; exact q
theorem w_isX {C D : CId} {tb : List (CId × Bool)} {a : Nat} {fs : List (Str × MV)} {b : Bool} (h1 : S.g a = .exn D fs) (h2 : (tb.find? fun p => decide (p.1 = D)).map (·.2) = some b) (q : Q (.bl b) S) : Ret (isXL C tb [.ref a, .obj C.ad] S) Q := by
  obtain ⟨p, h3, rfl⟩ := Option.map_eq_some_iff.1 h2
  simp only [isXL, exnO, h1, if_true, h3]
  exact q
/-- an instance that is walked by its own __iter__ -/
theorem w_own {C : CId} {f : Str} {QI : Itm → Sto → Prop} (h : Ret (m e S) fun x S1 => ∃ a l xs fs, x = .ref a ∧ S1.g a = .ins C fs ∧ fs.lookup f = some (.ref l) ∧ S1.g l = .lst xs ∧ QI ⟨xs, [(l, xs)]⟩ S1) : Ret (ownM C f m e S) QI :=
  w_bind (h.imp fun x S1 ⟨a, l, xs, fs, h1, h2, h3, h4, h5⟩ => w_itm (by subst h1; simp only [ownO, insO, h2, if_true, h3, h4]) h5)
end
end Mm
end

section
/-! ## H, part 4: the trees of the programs -/
namespace Mm
open PySem L2
/-- what a form is, but for its parts -/
inductive Kd where
  | num (i : Int) | nam (s : Str) | wd (w : Str) | fn (ns : List Str) | one (w s : Str) | bnd (w : Str) (ns : List Str) | dos | call | op (w : Str) | oth (w : Str)
inductive T where
  | node (k : Kd) (ps : List T)
def strsM (ns : List Str) : MV := .tup (ns.map .str)
def prM (p : Str × MV) : MV := .tup [.str p.1, p.2]
def Kd.mv : Kd → List MV → MV
  | .num i, _ => .tup [.str "number", .int i]
  | .nam s, _ => .tup [.str "name", .str s]
  | .wd w, _ => .tup [.str w]
  | .fn ns, ps => .tup [.str "fn", strsM ns, ps.headD .non]
  | .one w s, ps => .tup [.str w, .str s, ps.headD .non]
  | .bnd w ns, ps => .tup [.str w, .tup ((ns.zip ps).map prM), ps.getLastD .non]
  | .dos, ps => .tup [.str "do", .tup ps]
  | .call, ps => .tup [.str "call", ps.headD .non, .tup ps.tail]
  | .op w, ps => .tup [.str "op", .str w, .tup ps]
  | .oth w, ps => .tup (.str w :: ps)
/-- n parts are right for it -/
def Kd.ok : Kd → Nat → Prop
  | .num _, n => n = 0
  | .nam _, n => n = 0
  | .wd w, n => n = 0 ∧ (w = "true" ∨ w = "false" ∨ w = "none" ∨ w = "ask")
  | .fn ns, n => n = 1 ∧ ns.length ≤ 1000
  | .one w _, n => n = 1 ∧ (w = "set" ∨ w = "keep" ∨ w = "once" ∨ w = "take")
  | .bnd w ns, n => n = ns.length + 1 ∧ (w = "let" ∨ w = "rec")
  | .dos, _ => True
  | .call, n => 1 ≤ n
  | .op _, _ => True
  | .oth w, n => (w = "if" ∧ n = 3) ∨ (w = "mark" ∧ n = 1) ∨ (w = "wind" ∧ n = 3) ∨ (w = "show" ∧ n = 1)
/-- its word -/
def Kd.word : Kd → Str
  | .num _ => "number"
  | .nam _ => "name"
  | .wd w => w
  | .fn _ => "fn"
  | .one w _ => w
  | .bnd w _ => w
  | .dos => "do"
  | .call => "call"
  | .op _ => "op"
  | .oth w => w
theorem Kd.hd (k : Kd) (ps : List MV) : ∃ r, k.mv ps = .tup (.str k.word :: r) := by
  cases k <;> exact ⟨_, rfl⟩
mutual
def T.mv : T → MV
  | .node k ps => k.mv (T.mvs ps)
def T.mvs : List T → List MV
  | [] => []
  | t :: ts => t.mv :: T.mvs ts
end
theorem T.mvs_map : ∀ ts : List T, T.mvs ts = ts.map T.mv
  | [] => rfl
  | t :: ts => by simp only [T.mvs, List.map_cons, T.mvs_map ts]
mutual
def T.size : T → Nat
  | .node _ ps => 1 + T.sizes ps
def T.sizes : List T → Nat
  | [] => 0
  | t :: ts => t.size + T.sizes ts
end
mutual
def T.dep : T → Nat
  | .node _ ps => 1 + T.deps ps
def T.deps : List T → Nat
  | [] => 0
  | t :: ts => max t.dep (T.deps ts)
end
/-- every form has its parts -/
inductive T.Ok : T → Prop where
  | mk {k : Kd} {ps : List T} (h : k.ok ps.length) (hs : ∀ t ∈ ps, T.Ok t) : T.Ok (.node k ps)
theorem T.Ok.k {k : Kd} {ps : List T} : T.Ok (.node k ps) → k.ok ps.length
  | .mk h _ => h
theorem T.Ok.ps {k : Kd} {ps : List T} : T.Ok (.node k ps) → ∀ t ∈ ps, T.Ok t
  | .mk _ h => h
theorem T.dep_mem : ∀ {ps : List T} {t : T}, t ∈ ps → t.dep ≤ T.deps ps
  | p :: ps, t, h => by
    simp only [T.deps]
    rcases List.mem_cons.1 h with rfl | h
    · exact Nat.le_max_left ..
    · exact Nat.le_trans (T.dep_mem h) (Nat.le_max_right ..)
theorem T.deps_le {d : Nat} : ∀ {ps : List T}, (∀ t ∈ ps, t.dep ≤ d) → T.deps ps ≤ d
  | [], _ => Nat.zero_le _
  | p :: ps, h => Nat.max_le.2 ⟨h p List.mem_cons_self, T.deps_le fun t ht => h t (List.mem_cons_of_mem _ ht)⟩
theorem T.dep_part {k : Kd} {ps : List T} {t : T} {n : Nat} (h : t ∈ ps) (hn : (T.node k ps).dep ≤ n + 1) : t.dep ≤ n := by
  simp only [T.dep] at hn
  have := T.dep_mem h
  omega
theorem T.len_sizes : ∀ ps : List T, ps.length ≤ T.sizes ps
  | [] => Nat.zero_le _
  | ⟨k, qs⟩ :: ps => by
    simp only [T.sizes, T.size, List.length_cons]
    have := T.len_sizes ps
    omega
theorem T.sizes_app : ∀ ps qs : List T, T.sizes (ps ++ qs) = T.sizes ps + T.sizes qs
  | [], qs => by simp [T.sizes]
  | p :: ps, qs => by simp only [List.cons_append, T.sizes, T.sizes_app ps qs]; omega
theorem T.size_mem : ∀ {ps : List T} {t : T}, t ∈ ps → t.size ≤ T.sizes ps
  | p :: ps, t, h => by
    simp only [T.sizes]
    rcases List.mem_cons.1 h with rfl | h
    · omega
    · have := T.size_mem h; omega
theorem T.size_pos (t : T) : 1 ≤ t.size := by
  cases t; simp only [T.size]; omega
theorem T.sizes_take {ps : List T} {i : Nat} {t : T} (h : ps[i]? = some t) : T.sizes (ps.take (i + 1)) = T.sizes (ps.take i) + t.size := by
  rw [take_snoc h, T.sizes_app]; simp [T.sizes]
theorem T.sizes_take_le (ps : List T) (i : Nat) : T.sizes (ps.take i) ≤ T.sizes ps := by
  have := T.sizes_app (ps.take i) (ps.drop i)
  rw [List.take_append_drop] at this
  omega
def T.kd : T → Kd
  | .node k _ => k
theorem T.hd (t : T) : ∃ r, t.mv = .tup (.str t.kd.word :: r) := by
  cases t with
  | node k ps => exact k.hd _
section
variable {k : Kd} {n : Nat}
theorem word_name (h : k.ok n) (e : k.word = "name") : ∃ s, k = .nam s := by
  cases k with
  | nam s => exact ⟨s, rfl⟩
  | wd w => obtain ⟨_, rfl | rfl | rfl | rfl⟩ := h <;> exact absurd e (by simp only [Kd.word]; decide)
  | one w s => obtain ⟨_, rfl | rfl | rfl | rfl⟩ := h <;> exact absurd e (by simp only [Kd.word]; decide)
  | bnd w ns => obtain ⟨_, rfl | rfl⟩ := h <;> exact absurd e (by simp only [Kd.word]; decide)
  | oth w => rcases h with ⟨rfl, _⟩ | ⟨rfl, _⟩ | ⟨rfl, _⟩ | ⟨rfl, _⟩ <;> exact absurd e (by simp only [Kd.word]; decide)
  | _ => exact absurd e (by simp only [Kd.word]; decide)
theorem word_set (h : k.ok n) (e : k.word = "set") : ∃ s, k = .one "set" s := by
  cases k with
  | one w s => exact ⟨s, by rw [show w = "set" from e]⟩
  | wd w => obtain ⟨_, rfl | rfl | rfl | rfl⟩ := h <;> exact absurd e (by simp only [Kd.word]; decide)
  | bnd w ns => obtain ⟨_, rfl | rfl⟩ := h <;> exact absurd e (by simp only [Kd.word]; decide)
  | oth w => rcases h with ⟨rfl, _⟩ | ⟨rfl, _⟩ | ⟨rfl, _⟩ | ⟨rfl, _⟩ <;> exact absurd e (by simp only [Kd.word]; decide)
  | _ => exact absurd e (by simp only [Kd.word]; decide)
theorem word_take (h : k.ok n) (e : k.word = "take") : ∃ s, k = .one "take" s := by
  cases k with
  | one w s => exact ⟨s, by rw [show w = "take" from e]⟩
  | wd w => obtain ⟨_, rfl | rfl | rfl | rfl⟩ := h <;> exact absurd e (by simp only [Kd.word]; decide)
  | bnd w ns => obtain ⟨_, rfl | rfl⟩ := h <;> exact absurd e (by simp only [Kd.word]; decide)
  | oth w => rcases h with ⟨rfl, _⟩ | ⟨rfl, _⟩ | ⟨rfl, _⟩ | ⟨rfl, _⟩ <;> exact absurd e (by simp only [Kd.word]; decide)
  | _ => exact absurd e (by simp only [Kd.word]; decide)
theorem word_keep (h : k.ok n) (e : k.word = "keep") : ∃ s, k = .one "keep" s := by
  cases k with
  | one w s => exact ⟨s, by rw [show w = "keep" from e]⟩
  | wd w => obtain ⟨_, rfl | rfl | rfl | rfl⟩ := h <;> exact absurd e (by simp only [Kd.word]; decide)
  | bnd w ns => obtain ⟨_, rfl | rfl⟩ := h <;> exact absurd e (by simp only [Kd.word]; decide)
  | oth w => rcases h with ⟨rfl, _⟩ | ⟨rfl, _⟩ | ⟨rfl, _⟩ | ⟨rfl, _⟩ <;> exact absurd e (by simp only [Kd.word]; decide)
  | _ => exact absurd e (by simp only [Kd.word]; decide)
theorem word_call (h : k.ok n) (e : k.word = "call") : k = .call := by
  cases k with
  | call => rfl
  | wd w => obtain ⟨_, rfl | rfl | rfl | rfl⟩ := h <;> exact absurd e (by simp only [Kd.word]; decide)
  | one w s => obtain ⟨_, rfl | rfl | rfl | rfl⟩ := h <;> exact absurd e (by simp only [Kd.word]; decide)
  | bnd w ns => obtain ⟨_, rfl | rfl⟩ := h <;> exact absurd e (by simp only [Kd.word]; decide)
  | oth w => rcases h with ⟨rfl, _⟩ | ⟨rfl, _⟩ | ⟨rfl, _⟩ | ⟨rfl, _⟩ <;> exact absurd e (by simp only [Kd.word]; decide)
  | _ => exact absurd e (by simp only [Kd.word]; decide)
theorem word_let (h : k.ok n) (e : k.word = "let") : ∃ ns, k = .bnd "let" ns ∧ n = ns.length + 1 := by
  cases k with
  | bnd w ns => exact ⟨ns, by rw [show w = "let" from e], h.1⟩
  | wd w => obtain ⟨_, rfl | rfl | rfl | rfl⟩ := h <;> exact absurd e (by simp only [Kd.word]; decide)
  | one w s => obtain ⟨_, rfl | rfl | rfl | rfl⟩ := h <;> exact absurd e (by simp only [Kd.word]; decide)
  | oth w => rcases h with ⟨rfl, _⟩ | ⟨rfl, _⟩ | ⟨rfl, _⟩ | ⟨rfl, _⟩ <;> exact absurd e (by simp only [Kd.word]; decide)
  | _ => exact absurd e (by simp only [Kd.word]; decide)
theorem word_rec (h : k.ok n) (e : k.word = "rec") : ∃ ns, k = .bnd "rec" ns ∧ n = ns.length + 1 := by
  cases k with
  | bnd w ns => exact ⟨ns, by rw [show w = "rec" from e], h.1⟩
  | wd w => obtain ⟨_, rfl | rfl | rfl | rfl⟩ := h <;> exact absurd e (by simp only [Kd.word]; decide)
  | one w s => obtain ⟨_, rfl | rfl | rfl | rfl⟩ := h <;> exact absurd e (by simp only [Kd.word]; decide)
  | oth w => rcases h with ⟨rfl, _⟩ | ⟨rfl, _⟩ | ⟨rfl, _⟩ | ⟨rfl, _⟩ <;> exact absurd e (by simp only [Kd.word]; decide)
  | _ => exact absurd e (by simp only [Kd.word]; decide)
theorem word_wind (h : k.ok n) (e : k.word = "wind") : k = .oth "wind" ∧ n = 3 := by
  cases k with
  | oth w => rcases h with ⟨rfl, _⟩ | ⟨rfl, _⟩ | ⟨rfl, h⟩ | ⟨rfl, _⟩ <;> first | exact absurd e (by simp only [Kd.word]; decide) | exact ⟨rfl, h⟩
  | wd w => obtain ⟨_, rfl | rfl | rfl | rfl⟩ := h <;> exact absurd e (by simp only [Kd.word]; decide)
  | one w s => obtain ⟨_, rfl | rfl | rfl | rfl⟩ := h <;> exact absurd e (by simp only [Kd.word]; decide)
  | bnd w ns => obtain ⟨_, rfl | rfl⟩ := h <;> exact absurd e (by simp only [Kd.word]; decide)
  | _ => exact absurd e (by simp only [Kd.word]; decide)
end
/-! a list that is cut at its last -/
theorem last_split {al : Type} {ps : List al} {n : Nat} (h : ps.length = n + 1) : ∃ qs q, ps = qs ++ [q] ∧ qs.length = n := by
  rcases List.eq_nil_or_concat ps with rfl | ⟨qs, q, rfl⟩
  · simp at h
  · exact ⟨qs, q, by simp, by simpa using h⟩
theorem len1 {al : Type} {ps : List al} (h : ps.length = 1) : ∃ q, ps = [q] := by
  match ps, h with
  | [q], _ => exact ⟨q, rfl⟩
theorem zip_app1 {al be : Type} : ∀ (ns : List al) (qs : List be) (q : be), qs.length = ns.length → ns.zip (qs ++ [q]) = ns.zip qs
  | [], qs, q, h => by
    rw [List.length_eq_zero_iff.1 h]; rfl
  | n :: ns, [], q, h => by simp at h
  | n :: ns, x :: qs, q, h => by
    simp only [List.cons_append, List.zip_cons_cons]
    rw [zip_app1 ns qs q (by simpa using h)]
/-! what a part is told -/
/-- the names that a form binds -/
def Kd.bn : Kd → List Str
  | .fn ns => ns
  | .bnd _ ns => ns
  | .one w s => if w = "set" then [] else [s]
  | _ => []
theorem Kd.bn_len {k : Kd} {n : Nat} (h : k.ok n) : k.bn.length ≤ 1000 + n := by
  cases k with
  | fn ns => exact Nat.le_trans h.2 (Nat.le_add_right ..)
  | bnd w ns => have := h.1; simp only [Kd.bn]; omega
  | one w s => simp only [Kd.bn]; split <;> simp <;> omega
  | _ => exact Nat.zero_le _
/-- .. as its part at i, of n, has them -/
def Kd.inN (k : Kd) (n i : Nat) : List Str := match k with
  | .bnd w ns => if w = "let" ∧ i + 1 < n then [] else ns
  | k => k.bn
theorem Kd.inN_len {k : Kd} {n i : Nat} (h : k.ok n) : (k.inN n i).length ≤ 1000 + n := by
  have := Kd.bn_len h
  cases k with
  | bnd w ns =>
    simp only [Kd.inN]
    split
    · exact Nat.zero_le _
    · exact this
  | _ => exact this
/-! texts in tuples -/
theorem toFs_strs : ∀ ns : List Str, toFs (ns.map .str) = some (ns.map .str)
  | [] => rfl
  | n :: ns => by simp only [List.map_cons, toFs, toF, toFs_strs ns]
theorem inFl_strs (s : Str) (ns : List Str) : inFl (.str s) (ns.map .str) = some (decide (s ∈ ns)) := by
  unfold inFl
  simp only [toFs_strs, toF]
  congr 1
  induction ns with
  | nil => rfl
  | cons n ns ih =>
    have e : L2.inV (V.str s) ((n :: ns).map V.str) = (L2.eqV (V.str n) (V.str s) || L2.inV (V.str s) (ns.map V.str)) := rfl
    rw [e, ih]
    have e2 : L2.eqV (V.str n) (V.str s) = decide (s = n) := by
      show (n == s) = decide (s = n)
      by_cases h : s = n
      · subst h; simp
      · have : ¬ n = s := fun e => h e.symm
        simp [h, this]
    rw [e2]
    by_cases h : s = n
    · simp [h]
    · simp [h]
theorem w_inStrs {s : Str} {ns : List Str} {S : Sto} {Q : MV → Sto → Prop} (q : Q (.bl (decide (s ∈ ns))) S) : Ret (inVv (.str s) (strsM ns) S) Q := w_inFl (inFl_strs s ns) q
theorem w_ninStrs {s : Str} {ns : List Str} {S : Sto} {Q : MV → Sto → Prop} (q : Q (.bl (!decide (s ∈ ns))) S) : Ret (notInV (.str s) (strsM ns) S) Q := w_ninFl (inFl_strs s ns) q
end Mm
end

section
/-! ## H, part 5: what a maker of inputs keeps; trees that are made -/
namespace Law
open PySem L2 Mm
/-- all that stood ahead has not changed, but for what X names -/
def ExtX (X : List Nat) (S S' : Sto) : Prop := S.n ≤ S'.n ∧ ∀ j, j < S.n → j ∉ X → S'.g j = S.g j
theorem ExtX.refl {X : List Nat} {S : Sto} : ExtX X S S := ⟨Nat.le_refl _, fun _ _ _ => rfl⟩
theorem ExtX.trans {X : List Nat} {S S' S'' : Sto} (a : ExtX X S S') (b : ExtX X S' S'') : ExtX X S S'' := ⟨Nat.le_trans a.1 b.1, fun j hj hh => (b.2 j (Nat.lt_of_lt_of_le hj a.1) hh).trans (a.2 j hj hh)⟩
theorem ExtX.of {X : List Nat} {S S' : Sto} (a : Ext S S') : ExtX X S S' := ⟨a.1, fun j hj _ => a.2 j hj⟩
theorem ExtX.but {X : List Nat} {S S' : Sto} {h : Nat} (a : But h S S') (hm : h ∈ X) : ExtX X S S' := ⟨Nat.le_of_eq a.1.symm, fun j _ hh => a.2 j fun e => hh (e ▸ hm)⟩
/-- what a maker keeps: the hand, and what stood ahead but for X -/
structure GX (X : List Nat) (S0 : Sto) (h c : Nat) (S : Sto) : Prop where
  hd : Hd S h c
  ex : ExtX X S0 S
  mem : h ∈ X
  out : c ∉ X
section
variable {X : List Nat} {S0 S S' : Sto} {h c : Nat} {xs : List MV}
theorem GX.start (H : Hd S h c) : GX [h] S h c S := ⟨H, .refl, List.mem_cons_self, by
  obtain ⟨_, _, _, _, H⟩ := H
  intro e; exact H.ne (List.mem_singleton.1 e)⟩
theorem GX.lt (g : GX X S0 h c S) : h < S.n := by obtain ⟨_, _, _, _, H⟩ := g.hd; exact H.lt
theorem GX.ltc (g : GX X S0 h c S) : c < S.n := by obtain ⟨_, _, _, _, H⟩ := g.hd; exact H.ltc
theorem GX.le (g : GX X S0 h c S) : S0.n ≤ S.n := g.ex.1
theorem GX.ext (g : GX X S0 h c S) (e : Ext S S') : GX X S0 h c S' := ⟨g.hd.ext e, g.ex.trans (.of e), g.mem, g.out⟩
theorem GX.add {o : MO} (g : GX X S0 h c S) : GX X S0 h c (S.add o) := g.ext (Ext.refl.add)
theorem GX.put {o : MO} {k : Nat} (g : GX X S0 h c S) (hk : k ∈ X) (hn : k ≠ h) : GX X S0 h c (S.put k o) :=
  ⟨g.hd.put hn fun e => g.out (e ▸ hk), g.ex.trans ⟨Nat.le_refl _, fun j _ hh => put_ne fun e => hh (e ▸ hk)⟩, g.mem, g.out⟩
theorem GX.putN {o : MO} {k : Nat} (g : GX X S0 h c S) (h0 : h < S0.n) (h1 : c < S0.n) (hk : S0.n ≤ k) : GX X S0 h c (S.put k o) :=
  ⟨g.hd.put (by omega) (by omega), ⟨g.ex.1, fun j hj hh => (put_ne (by omega)).trans (g.ex.2 j hj hh)⟩, g.mem, g.out⟩
theorem GX.putA {o : MO} {S1 : Sto} (g1 : GX X S0 h c S1) (g : GX X S0 h c S) : GX X S0 h c (S.put S1.n o) :=
  ⟨g.hd.put (by have := g1.lt; omega) (by have := g1.ltc; omega), ⟨g.ex.1, fun j hj hh => (put_ne (by have := g1.le; omega)).trans (g.ex.2 j hj hh)⟩, g.mem, g.out⟩
theorem GX.draw {many : Int} (g : GX X S0 h c S) (h0 : 0 < many) (h1 : many < 2 ^ 62) : Ret (m__law_draw [.ref h, .int many] S) fun x S' => (∃ r : Int, 0 ≤ r ∧ r < many ∧ x = .int r) ∧ GX X S0 h c S' ∧ But h S S' :=
  (Law.draw g.hd h0 h1).imp fun _ _ ⟨a, b, d⟩ => ⟨a, ⟨b, g.ex.trans (.but d g.mem), g.mem, g.out⟩, d⟩
theorem GX.pick (g : GX X S0 h c S) (h0 : 0 < xs.length) (h1 : xs.length < 1000000) : Ret (m__law_pick [.ref h, .tup xs] S) fun x S' => x ∈ xs ∧ GX X S0 h c S' ∧ But h S S' :=
  (pickT g.hd h0 (by omega)).imp fun _ _ ⟨a, b, d⟩ => ⟨a, ⟨b, g.ex.trans (.but d g.mem), g.mem, g.out⟩, d⟩
end
/-! texts -/
inductive StL : List MV → List Str → Prop where
  | nil : StL [] []
  | cons {s : Str} {xs : List MV} {ss : List Str} : StL xs ss → StL (.str s :: xs) (s :: ss)
theorem StL.eq {xs : List MV} {ss : List Str} (h : StL xs ss) : xs = ss.map .str := by
  induction h with
  | nil => rfl
  | cons _ ih => rw [ih]; rfl
theorem StL.of : ∀ ss : List Str, StL (ss.map .str) ss
  | [] => .nil
  | _ :: ss => .cons (StL.of ss)
/-! trees of which every form is as P says -/
inductive OkP (P : Kd → Nat → Prop) : T → Prop where
  | mk {k : Kd} {ps : List T} (h : k.ok ps.length) (hp : P k ps.length) (hs : ∀ t ∈ ps, OkP P t) : OkP P (.node k ps)
theorem OkP.ok {P : Kd → Nat → Prop} : ∀ {t : T}, OkP P t → t.Ok := by
  intro t h
  induction h with
  | mk h _ _ ih => exact .mk h ih
theorem OkP.k {P : Kd → Nat → Prop} {k : Kd} {ps : List T} : OkP P (.node k ps) → k.ok ps.length
  | .mk h _ _ => h
theorem OkP.p {P : Kd → Nat → Prop} {k : Kd} {ps : List T} : OkP P (.node k ps) → P k ps.length
  | .mk _ h _ => h
theorem OkP.ps {P : Kd → Nat → Prop} {k : Kd} {ps : List T} : OkP P (.node k ps) → ∀ t ∈ ps, OkP P t
  | .mk _ _ h => h
theorem OkP.imp {P P' : Kd → Nat → Prop} (i : ∀ k n, P k n → P' k n) : ∀ {t : T}, OkP P t → OkP P' t := by
  intro t h
  induction h with
  | mk h hp _ ih => exact .mk h (i _ _ hp) ih
def TM (P : Kd → Nat → Prop) (n d : Nat) (x : MV) : Prop := ∃ t : T, x = t.mv ∧ OkP P t ∧ t.size ≤ n ∧ t.dep ≤ d
def TMs (P : Kd → Nat → Prop) (n d : Nat) (xs : List MV) : Prop := ∃ ts : List T, xs = T.mvs ts ∧ (∀ t ∈ ts, OkP P t) ∧ T.sizes ts ≤ n ∧ T.deps ts ≤ d
section
variable {P : Kd → Nat → Prop} {n m d e : Nat} {x y z : MV} {xs : List MV} {w s : Str}
theorem TM.mono {N D : Nat} (h : TM P n d x) (hn : n ≤ N) (hd : d ≤ D) : TM P N D x := by
  obtain ⟨t, h1, h2, h3, h4⟩ := h
  exact ⟨t, h1, h2, Nat.le_trans h3 hn, Nat.le_trans h4 hd⟩
theorem TMs.nil : TMs P 0 0 [] := ⟨[], rfl, fun _ h => (by cases h), Nat.le_refl _, Nat.le_refl _⟩
theorem TMs.cons (h : TM P n d x) (hs : TMs P m e xs) : TMs P (n + m) (max d e) (x :: xs) := by
  obtain ⟨t, rfl, a2, a3, a4⟩ := h
  obtain ⟨ts, rfl, b2, b3, b4⟩ := hs
  refine ⟨t :: ts, rfl, fun u hu => ?_, ?_, ?_⟩
  · rcases List.mem_cons.1 hu with rfl | hu
    · exact a2
    · exact b2 u hu
  · simp only [T.sizes]; omega
  · simp only [T.deps]; omega
theorem TMs.app {ys : List MV} (h : TMs P n d xs) (hs : TMs P m e ys) : TMs P (n + m) (max d e) (xs ++ ys) := by
  obtain ⟨ts, rfl, a2, a3, a4⟩ := h
  obtain ⟨us, rfl, b2, b3, b4⟩ := hs
  refine ⟨ts ++ us, by rw [T.mvs_map, T.mvs_map, T.mvs_map, List.map_append], fun u hu => ?_, ?_, ?_⟩
  · rcases List.mem_append.1 hu with hu | hu
    · exact a2 u hu
    · exact b2 u hu
  · rw [T.sizes_app]; omega
  · refine T.deps_le fun u hu => ?_
    rcases List.mem_append.1 hu with hu | hu
    · have := T.dep_mem hu; omega
    · have := T.dep_mem hu; omega
theorem TMs.mono {N D : Nat} (h : TMs P n d xs) (hn : n ≤ N) (hd : d ≤ D) : TMs P N D xs := by
  obtain ⟨t, h1, h2, h3, h4⟩ := h
  exact ⟨t, h1, h2, Nat.le_trans h3 hn, Nat.le_trans h4 hd⟩
theorem TM.mk {k : Kd} (hs : TMs P n d xs) (hk : k.ok xs.length) (hp : P k xs.length) (e : x = k.mv xs) : TM P (n + 1) (d + 1) x := by
  obtain ⟨ts, rfl, b2, b3, b4⟩ := hs
  have hl : (T.mvs ts).length = ts.length := by rw [T.mvs_map, List.length_map]
  rw [hl] at hk hp
  refine ⟨.node k ts, e, .mk hk hp b2, ?_, ?_⟩
  · simp only [T.size]; omega
  · simp only [T.dep]; omega
theorem TM.num {i : Int} (p : P (.num i) 0) : TM P 1 1 (.tup [.str "number", .int i]) := TM.mk (k := .num i) .nil rfl p rfl
theorem TM.nam (p : P (.nam s) 0) : TM P 1 1 (.tup [.str "name", .str s]) := TM.mk (k := .nam s) .nil rfl p rfl
theorem TM.tt (p : P (.wd "true") 0) : TM P 1 1 (.tup [.str "true"]) := TM.mk (k := .wd "true") .nil ⟨rfl, .inl rfl⟩ p rfl
theorem TM.ff (p : P (.wd "false") 0) : TM P 1 1 (.tup [.str "false"]) := TM.mk (k := .wd "false") .nil ⟨rfl, .inr (.inl rfl)⟩ p rfl
theorem TM.no (p : P (.wd "none") 0) : TM P 1 1 (.tup [.str "none"]) := TM.mk (k := .wd "none") .nil ⟨rfl, .inr (.inr (.inl rfl))⟩ p rfl
theorem TM.ask (p : P (.wd "ask") 0) : TM P 1 1 (.tup [.str "ask"]) := TM.mk (k := .wd "ask") .nil ⟨rfl, .inr (.inr (.inr rfl))⟩ p rfl
theorem TM.fn {ns : List Str} (h : StL xs ns) (hn : ns.length ≤ 1000) (p : P (.fn ns) 1) (hx : TM P n d x) : TM P (n + 0 + 1) (max d 0 + 1) (.tup [.str "fn", .tup xs, x]) := TM.mk (k := .fn ns) (.cons hx .nil) ⟨rfl, hn⟩ p (by rw [h.eq]; rfl)
theorem TM.one (hw : w = "set" ∨ w = "keep" ∨ w = "once" ∨ w = "take") (p : P (.one w s) 1) (hx : TM P n d x) : TM P (n + 0 + 1) (max d 0 + 1) (.tup [.str w, .str s, x]) := TM.mk (k := .one w s) (.cons hx .nil) ⟨rfl, hw⟩ p rfl
theorem TM.oneL {L : List Str} (hw : w ∈ L) (hL : ∀ v ∈ L, v = "set" ∨ v = "keep" ∨ v = "once" ∨ v = "take") (p : P (.one w s) 1) (hx : TM P n d x) : TM P (n + 0 + 1) (max d 0 + 1) (.tup [.str w, .str s, x]) := TM.one (hL w hw) p hx
theorem TMs.take {k : Nat} (h : TMs P n d xs) : TMs P n d (xs.take k) := by
  obtain ⟨ts, rfl, b2, b3, b4⟩ := h
  refine ⟨ts.take k, by rw [T.mvs_map, T.mvs_map, List.map_take], fun t ht => b2 t (List.mem_of_mem_take ht), Nat.le_trans (T.sizes_take_le ts k) b3, T.deps_le fun t ht => Nat.le_trans (T.dep_mem (List.mem_of_mem_take ht)) b4⟩
theorem TMs.cutL {c : Int} {L : List Int} (hc : c ∈ L) (hL : ∀ v ∈ L, 0 ≤ v) (h : TMs P n d xs) : TMs P n d (cutM xs none (some c)) := by
  rw [cutM_to (hL c hc)]; exact h.take
theorem TM.dos (hs : TMs P n d xs) (p : P .dos xs.length) : TM P (n + 1) (d + 1) (.tup [.str "do", .tup xs]) := TM.mk (k := .dos) hs trivial p rfl
theorem TM.call (hx : TM P n d x) (hs : TMs P m e xs) (p : P .call (xs.length + 1)) : TM P (n + m + 1) (max d e + 1) (.tup [.str "call", x, .tup xs]) := TM.mk (k := .call) (.cons hx hs) (show 1 ≤ xs.length + 1 by omega) p rfl
theorem TM.op (hs : TMs P n d xs) (p : P (.op w) xs.length) : TM P (n + 1) (d + 1) (.tup [.str "op", .str w, .tup xs]) := TM.mk (k := .op w) hs trivial p rfl
theorem TM.cond (hs : TMs P n d [x, y, z]) (p : P (.oth "if") 3) : TM P (n + 1) (d + 1) (.tup [.str "if", x, y, z]) := TM.mk (k := .oth "if") hs (.inl ⟨rfl, rfl⟩) p rfl
theorem TM.wind (hs : TMs P n d [x, y, z]) (p : P (.oth "wind") 3) : TM P (n + 1) (d + 1) (.tup [.str "wind", x, y, z]) := TM.mk (k := .oth "wind") hs (.inr (.inr (.inl ⟨rfl, rfl⟩))) p rfl
theorem TM.mark (hs : TMs P n d [x]) (p : P (.oth "mark") 1) : TM P (n + 1) (d + 1) (.tup [.str "mark", x]) := TM.mk (k := .oth "mark") hs (.inr (.inl ⟨rfl, rfl⟩)) p rfl
theorem TM.shw (hs : TMs P n d [x]) (p : P (.oth "show") 1) : TM P (n + 1) (d + 1) (.tup [.str "show", x]) := TM.mk (k := .oth "show") hs (.inr (.inr (.inr ⟨rfl, rfl⟩))) p rfl
/-- rows of a let or rec -/
inductive RowL : List MV → List Str → List MV → Prop where
  | nil : RowL [] [] []
  | cons {s : Str} {x : MV} {rs : List MV} {ss : List Str} {xs : List MV} : RowL rs ss xs → RowL (.tup [.str s, x] :: rs) (s :: ss) (x :: xs)
theorem RowL.eq {rs xs : List MV} {ss : List Str} (h : RowL rs ss xs) : rs = (ss.zip xs).map prM ∧ xs.length = ss.length := by
  induction h with
  | nil => exact ⟨rfl, rfl⟩
  | cons _ ih => exact ⟨by rw [ih.1]; rfl, by rw [List.length_cons, List.length_cons, ih.2]⟩
theorem TM.bnd {rs : List MV} {ns : List Str} (hw : w = "let" ∨ w = "rec") (hr : RowL rs ns xs) (hs : TMs P n d xs) (hx : TM P m e x) (p : P (.bnd w ns) (ns.length + 1)) : TM P (n + (m + 0) + 1) (max d (max e 0) + 1) (.tup [.str w, .tup rs, x]) := by
  obtain ⟨h1, h2⟩ := hr.eq
  have h3 : (xs ++ [x]).length = ns.length + 1 := by rw [List.length_append, h2]; rfl
  refine TM.mk (k := .bnd w ns) (hs.app (.cons hx .nil)) ⟨h3, hw⟩ (by rw [h3]; exact p) ?_
  simp only [Kd.mv, zip_app1 ns xs x h2]
  rw [h1]; simp
/-- one of some trees -/
inductive AllM (P : Kd → Nat → Prop) : Nat → Nat → List MV → Prop where
  | nil : AllM P 0 0 []
  | cons {n m d e : Nat} {x : MV} {xs : List MV} : TM P n d x → AllM P m e xs → AllM P (max n m) (max d e) (x :: xs)
theorem AllM.mem (h : AllM P n d xs) (hx : x ∈ xs) : TM P n d x := by
  induction h with
  | nil => cases hx
  | cons a _ ih =>
    rcases List.mem_cons.1 hx with rfl | hx
    · exact a.mono (Nat.le_max_left ..) (Nat.le_max_left ..)
    · exact (ih hx).mono (Nat.le_max_right ..) (Nat.le_max_right ..)
theorem AllM.app {ys : List MV} (h : AllM P n d xs) (hs : AllM P m e ys) : AllM P (max n m) (max d e) (xs ++ ys) := by
  induction h with
  | nil => rw [Nat.max_eq_right (Nat.zero_le _), Nat.max_eq_right (Nat.zero_le _)]; exact hs
  | cons a _ ih => rw [Nat.max_assoc, Nat.max_assoc]; exact .cons a ih
theorem w_idxA {S : Sto} {i : Int} {Q : MV → Sto → Prop} (h : AllM P n d xs) (h0 : 0 ≤ i) (h1 : i < xs.length) (q : ∀ x, TM P n d x → Q x S) : Ret (idxV (.tup xs) (.int i) S) Q := by
  obtain ⟨x, hx, _, hat⟩ := atI_mem (xs := xs) h0 h1
  exact w_idxT hat (q x (h.mem hx))
theorem w_idxAL {S : Sto} {a : Nat} {i : Int} {Q : MV → Sto → Prop} (g : S.g a = .lst xs) (h : AllM P n d xs) (h0 : 0 ≤ i) (h1 : i < xs.length) (q : ∀ x, TM P n d x → Q x S) : Ret (idxV (.ref a) (.int i) S) Q := by
  obtain ⟨x, hx, _, hat⟩ := atI_mem (xs := xs) h0 h1
  exact w_idxL g hat (q x (h.mem hx))
theorem w_inSt {S : Sto} {ss : List Str} {Q : MV → Sto → Prop} (h : StL xs ss) (q : Q (.bl (decide (s ∈ ss))) S) : Ret (inVv (.str s) (.tup xs) S) Q := by
  rw [h.eq]; exact w_inStrs q
theorem GX.pickS {X : List Nat} {S0 S : Sto} {h c : Nat} {ss : List Str} (g : GX X S0 h c S) (hs : StL xs ss) (h0 : 0 < ss.length) (h1 : ss.length < 1000000) : Ret (m__law_pick [.ref h, .tup xs] S) fun x S' => (∃ s ∈ ss, x = .str s) ∧ GX X S0 h c S' ∧ But h S S' := by
  rw [hs.eq]
  refine (g.pick (by rw [List.length_map]; exact h0) (by rw [List.length_map]; exact h1)).imp ?_
  rintro x S' ⟨a, b⟩
  obtain ⟨s, h1, h2⟩ := List.mem_map.1 a
  exact ⟨⟨s, h1, h2.symm⟩, b⟩
theorem GX.pickM {X : List Nat} {S0 S : Sto} {h c : Nat} (g : GX X S0 h c S) (hs : AllM P n d xs) (h0 : 0 < xs.length) (h1 : xs.length < 1000000) : Ret (m__law_pick [.ref h, .tup xs] S) fun x S' => TM P n d x ∧ GX X S0 h c S' ∧ But h S S' :=
  (g.pick h0 h1).imp fun _ _ ⟨a, b⟩ => ⟨hs.mem a, b⟩
theorem GX.pickI {X : List Nat} {S0 S : Sto} {h c : Nat} {is : List Int} (g : GX X S0 h c S) (hs : xs = is.map .int) (h0 : 0 < is.length) (h1 : is.length < 1000000) : Ret (m__law_pick [.ref h, .tup xs] S) fun x S' => (∃ i ∈ is, x = .int i) ∧ GX X S0 h c S' ∧ But h S S' := by
  rw [hs]
  refine (g.pick (by rw [List.length_map]; exact h0) (by rw [List.length_map]; exact h1)).imp ?_
  rintro x S' ⟨a, b⟩
  obtain ⟨s, h1, h2⟩ := List.mem_map.1 a
  exact ⟨⟨s, h1, h2.symm⟩, b⟩
section
variable {X : List Nat} {S0 S : Sto} {h c : Nat} {xs : List MV} {Q : MV → Sto → Prop}
theorem GX.drawQ {many : Int} (g : GX X S0 h c S) (h0 : 0 < many) (h1 : many < 2 ^ 62) (q : ∀ r S', 0 ≤ r → r < many → GX X S0 h c S' → Q (.int r) S') : Ret (m__law_draw [.ref h, .int many] S) Q :=
  (g.draw h0 h1).imp fun _ _ ⟨⟨r, r0, r1, e⟩, g, _⟩ => by subst e; exact q r _ r0 r1 g
theorem GX.pickSQ {ss : List Str} (g : GX X S0 h c S) (hs : StL xs ss) (h0 : 0 < ss.length) (h1 : ss.length < 1000000) (q : ∀ s S', s ∈ ss → GX X S0 h c S' → Q (.str s) S') : Ret (m__law_pick [.ref h, .tup xs] S) Q :=
  (g.pickS hs h0 h1).imp fun _ _ ⟨⟨s, r0, e⟩, g, _⟩ => by subst e; exact q s _ r0 g
theorem GX.pickMQ {P : Kd → Nat → Prop} {n d : Nat} (g : GX X S0 h c S) (hs : AllM P n d xs) (h0 : 0 < xs.length) (h1 : xs.length < 1000000) (q : ∀ x S', TM P n d x → GX X S0 h c S' → Q x S') : Ret (m__law_pick [.ref h, .tup xs] S) Q :=
  (g.pickM hs h0 h1).imp fun _ _ ⟨t, g, _⟩ => q _ _ t g
/-- numbers -/
inductive InL : List MV → List Int → Prop where
  | nil : InL [] []
  | cons {s : Int} {xs : List MV} {ss : List Int} : InL xs ss → InL (.int s :: xs) (s :: ss)
theorem InL.eq {ss : List Int} (h : InL xs ss) : xs = ss.map .int := by
  induction h with
  | nil => rfl
  | cons _ ih => rw [ih]; rfl
theorem GX.pickIQ {ss : List Int} (g : GX X S0 h c S) (hs : InL xs ss) (h0 : 0 < ss.length) (h1 : ss.length < 1000000) (q : ∀ s S', s ∈ ss → GX X S0 h c S' → Q (.int s) S') : Ret (m__law_pick [.ref h, .tup xs] S) Q :=
  (g.pickI hs.eq h0 h1).imp fun _ _ ⟨⟨s, r0, e⟩, g, _⟩ => by subst e; exact q s _ r0 g
end
end
end Law
end

section
/-! ## H, part 6: paths in trees; trees as data -/
namespace Law
open PySem L2 Mm
/-! ## paths in trees -/
abbrev Pth := List Int
def pM (p : Pth) : MV := .tup (p.map .int)
mutual
/-- the paths, in reading order, of the parts of which f tells yes -/
def selA (f : Kd → Bool) : T → List Pth
  | .node k ps => (if f k then [[]] else []) ++ selAL f 0 ps
def selAL (f : Kd → Bool) : Nat → List T → List Pth
  | _, [] => []
  | i, t :: ts => (selA f t).map (fun p => (i : Int) :: p) ++ selAL f (i + 1) ts
end
abbrev pathsA : T → List Pth := selA fun _ => true
def isKeep : Kd → Bool
  | .one w _ => decide (w = "keep")
  | _ => false
abbrev keepsA : T → List Pth := selA isKeep
def atA : Pth → T → Option T
  | [], t => some t
  | i :: p, .node _ ps => if 0 ≤ i then (ps[i.toNat]?).bind (atA p) else none
def putA : Pth → T → T → T
  | [], new, _ => new
  | i :: p, new, .node k ps => .node k (match ps[i.toNat]? with
    | some v => ps.set i.toNat (putA p new v)
    | none => ps)
def onceK : Kd → Kd
  | .one w s => if w = "keep" then .one "once" s else .one w s
  | k => k
mutual
/-- once for keep at the paths of S -/
def chgA (S : Pth → Bool) : T → T
  | .node k ps => .node (if S [] then onceK k else k) (chgAL S 0 ps)
def chgAL (S : Pth → Bool) : Nat → List T → List T
  | _, [] => []
  | i, t :: ts => chgA (fun p => S ((i : Int) :: p)) t :: chgAL S (i + 1) ts
end
theorem chgAL_len (S : Pth → Bool) : ∀ (i : Nat) (ts : List T), (chgAL S i ts).length = ts.length
  | _, [] => rfl
  | i, t :: ts => by simp only [chgAL, List.length_cons, chgAL_len S (i + 1) ts]
theorem chgAL_get (S : Pth → Bool) : ∀ (i : Nat) (ts : List T) (j : Nat), (chgAL S i ts)[j]? = (ts[j]?).map (chgA fun p => S (((i + j : Nat) : Int) :: p))
  | _, [], j => by simp [chgAL]
  | i, t :: ts, 0 => by simp [chgAL]
  | i, t :: ts, j + 1 => by
    simp only [chgAL, List.getElem?_cons_succ, chgAL_get S (i + 1) ts j]
    rw [show i + 1 + j = i + (j + 1) by omega]
theorem onceK_ok {k : Kd} {n : Nat} (h : k.ok n) : (onceK k).ok n := by
  cases k with
  | one w s =>
    simp only [onceK]
    split
    · exact ⟨h.1, .inr (.inr (.inl rfl))⟩
    · exact h
  | _ => exact h
mutual
theorem chgA_ok (S : Pth → Bool) : ∀ t : T, t.Ok → (chgA S t).Ok ∧ (chgA S t).size = t.size ∧ (chgA S t).dep = t.dep
  | .node k ps, h => by
    obtain ⟨h1, h2, h3⟩ := chgAL_ok S 0 ps h.ps
    simp only [chgA]
    refine ⟨.mk ?_ h1, by simp only [T.size, h2], by simp only [T.dep, h3]⟩
    rw [chgAL_len]
    split
    · exact onceK_ok h.k
    · exact h.k
theorem chgAL_ok (S : Pth → Bool) : ∀ (i : Nat) (ts : List T), (∀ t ∈ ts, t.Ok) → (∀ t ∈ chgAL S i ts, t.Ok) ∧ T.sizes (chgAL S i ts) = T.sizes ts ∧ T.deps (chgAL S i ts) = T.deps ts
  | _, [], _ => ⟨fun t ht => (by cases ht), rfl, rfl⟩
  | i, t :: ts, h => by
    obtain ⟨a1, a2, a3⟩ := chgA_ok (fun p => S ((i : Int) :: p)) t (h t List.mem_cons_self)
    obtain ⟨b1, b2, b3⟩ := chgAL_ok S (i + 1) ts fun u hu => h u (List.mem_cons_of_mem _ hu)
    refine ⟨fun u hu => ?_, by simp only [chgAL, T.sizes, a2, b2], by simp only [chgAL, T.deps, a3, b3]⟩
    simp only [chgAL] at hu
    rcases List.mem_cons.1 hu with rfl | hu
    · exact a1
    · exact b1 u hu
end
mutual
theorem chgA_no : ∀ t : T, chgA (fun _ => false) t = t
  | .node k ps => by simp only [chgA, chgAL_no 0 ps, Bool.false_eq_true, if_false]
theorem chgAL_no : ∀ (i : Nat) (ts : List T), chgAL (fun _ => false) i ts = ts
  | _, [] => rfl
  | i, t :: ts => by simp only [chgAL, chgA_no t, chgAL_no (i + 1) ts]
end
theorem at_chg : ∀ (p : Pth) (S : Pth → Bool) (t : T), atA p (chgA S t) = (atA p t).map (chgA fun q => S (p ++ q))
  | [], S, t => rfl
  | i :: p, S, .node k ps => by
    simp only [chgA, atA]
    split
    · rename_i hi
      rw [chgAL_get, Nat.zero_add]
      cases q : ps[i.toNat]? with
      | none => rfl
      | some v =>
        simp only [Option.map_some, Option.bind_some]
        rw [at_chg p]
        rw [show ((i.toNat : Nat) : Int) = i by omega]
        rfl
    · rfl
theorem kd_chg (S : Pth → Bool) (t : T) : (chgA S t).kd = if S [] then onceK t.kd else t.kd := by
  cases t; rfl
/-- the form at the place becomes a once form -/
def setOnce : T → T
  | .node (.one _ s) ps => .node (.one "once" s) ps
  | t => t
theorem isKeep_eq {k : Kd} (h : isKeep k = true) : ∃ s, k = .one "keep" s := by
  cases k with
  | one w s => exact ⟨s, by rw [show w = "keep" from of_decide_eq_true h]⟩
  | _ => cases h
theorem put_chg : ∀ (p : Pth) (t u : T) (S : Pth → Bool), atA p t = some u → isKeep u.kd = true → putA p (setOnce (chgA (fun q => S (p ++ q)) u)) (chgA S t) = chgA (fun q => S q || decide (q = p)) t
  | [], t, u, S, h, hk => by
    cases h
    obtain ⟨k, ps⟩ := t
    obtain ⟨s, rfl⟩ := isKeep_eq (k := k) hk
    have e1 : setOnce (chgA (fun q => S ([] ++ q)) (.node (.one "keep" s) ps)) = .node (.one "once" s) (chgAL S 0 ps) := by
      simp only [chgA, List.nil_append]
      split <;> rfl
    rw [putA, e1]
    simp only [chgA, decide_true, Bool.or_true, if_true, onceK]
    congr 1
    have key : ∀ (i : Nat) (ts : List T), chgAL S i ts = chgAL (fun q => S q || decide (q = [])) i ts := fun i ts => by
      refine List.ext_getElem? fun j => ?_
      rw [chgAL_get, chgAL_get]
      simp
    exact key 0 ps
  | i :: p, .node k ps, u, S, h, hk => by
    simp only [atA] at h
    split at h
    · rename_i hi
      cases q : ps[i.toNat]? with
      | none => rw [q] at h; cases h
      | some v =>
        rw [q] at h
        simp only [Option.bind_some] at h
        have ih := put_chg p v u (fun r => S (i :: r)) h hk
        have hin : ((i.toNat : Nat) : Int) = i := by omega
        simp only [chgA, putA]
        rw [chgAL_get, Nat.zero_add, q, hin]
        simp only [Option.map_some]
        have e0 : (fun q => S (i :: p ++ q)) = fun q => S (i :: (p ++ q)) := rfl
        rw [e0, ih]
        have e1 : (S [] || decide (([] : Pth) = i :: p)) = S [] := by simp
        simp only [e1]
        congr 1
        refine List.ext_getElem? fun j => ?_
        rw [List.getElem?_set, chgAL_len, chgAL_get, chgAL_get, Nat.zero_add]
        have hl := (List.getElem?_eq_some_iff.1 q).1
        by_cases hj : i.toNat = j
        · subst hj
          rw [if_pos rfl, if_pos hl, q, hin]
          simp
        · rw [if_neg hj]
          have : ∀ r : Pth, ¬ ((j : Int) :: r = i :: p) := fun r e => hj (by have := (List.cons.inj e).1; omega)
          simp [this]
    · cases h
/-! the paths that are told lead to parts -/
theorem sel_mem_at {f : Kd → Bool} : ∀ (p : Pth) (t : T), (p ∈ selA f t ↔ ∃ u, atA p t = some u ∧ f u.kd = true) := by
  intro p
  induction p with
  | nil =>
    rintro ⟨k, ps⟩
    have hL : ∀ (i : Nat) (ts : List T), ([] : Pth) ∉ selAL f i ts := by
      intro i ts
      induction ts generalizing i with
      | nil => simp [selAL]
      | cons t ts ih => simp only [selAL, List.mem_append, not_or]; exact ⟨by simp, ih (i + 1)⟩
    simp only [selA, List.mem_append, hL, or_false, atA, Option.some.injEq]
    constructor
    · intro h
      split at h
      · rename_i e; exact ⟨_, rfl, e⟩
      · cases h
    · rintro ⟨u, rfl, h⟩
      have h : f k = true := h
      rw [if_pos h]; exact List.mem_cons_self
  | cons i p ih =>
    rintro ⟨k, ps⟩
    have hL : ∀ (ts : List T) (n : Nat), (i :: p ∈ selAL f n ts ↔ (n : Int) ≤ i ∧ ∃ v, ts[(i - n).toNat]? = some v ∧ p ∈ selA f v) := by
      intro ts
      induction ts with
      | nil => intro n; simp [selAL]
      | cons t ts ih2 =>
        intro n
        simp only [selAL, List.mem_append, ih2 (n + 1), List.mem_map]
        constructor
        · rintro (⟨q, hq, e⟩ | ⟨h1, v, h2, h3⟩)
          · obtain ⟨e1, rfl⟩ := List.cons.inj e
            subst e1
            exact ⟨Int.le_refl _, t, by simp, hq⟩
          · refine ⟨by omega, v, ?_, h3⟩
            rw [show (i - (n : Int)).toNat = (i - ((n + 1 : Nat) : Int)).toNat + 1 by omega]
            simpa using h2
        · rintro ⟨h1, v, h2, h3⟩
          by_cases e : i = n
          · subst e
            have h2 : t = v := by simpa using h2
            subst h2
            exact .inl ⟨p, h3, rfl⟩
          · refine .inr ⟨by omega, v, ?_, h3⟩
            rw [show (i - (n : Int)).toNat = (i - ((n + 1 : Nat) : Int)).toNat + 1 by omega] at h2
            simpa using h2
    have h0 : i :: p ∉ (if f k then [([] : Pth)] else []) := by split <;> simp
    simp only [selA, List.mem_append, h0, false_or, hL, atA]
    constructor
    · rintro ⟨h1, v, h2, h3⟩
      obtain ⟨u, h4, h5⟩ := (ih v).1 h3
      have h1 : 0 ≤ i := by simpa using h1
      have h2 : ps[i.toNat]? = some v := by simpa using h2
      exact ⟨u, by rw [if_pos h1, h2]; exact h4, h5⟩
    · rintro ⟨u, h4, h5⟩
      split at h4
      · rename_i h1
        cases q : ps[i.toNat]? with
        | none => rw [q] at h4; cases h4
        | some v =>
          rw [q] at h4
          exact ⟨by simpa using h1, v, by simpa using q, (ih v).2 ⟨u, h4, h5⟩⟩
      · cases h4
theorem selAL_nil {f : Kd → Bool} (i : Nat) (ts : List T) : ([] : Pth) ∉ selAL f i ts := by
  induction ts generalizing i with
  | nil => simp [selAL]
  | cons t ts ih => simp only [selAL, List.mem_append, not_or]; exact ⟨by simp, ih (i + 1)⟩
mutual
theorem sel_filter (f : Kd → Bool) : ∀ t : T, selA f t = (pathsA t).filter fun p => (match atA p t with | some u => f u.kd | none => false)
  | .node k ps => by
    have h := selAL_filter f 0 ps
    simp only [selA, if_true, List.filter_append]
    rw [h]
    congr 1
    · simp only [List.filter_cons, List.filter_nil, atA, T.kd]; rfl
    · refine List.filter_congr fun p hp => ?_
      cases p with
      | nil => exact absurd hp (selAL_nil 0 ps)
      | cons i p =>
        simp only [atA]
        by_cases hi : 0 ≤ i
        · rw [if_pos hi]; simp [hi]
        · rw [if_neg hi]; simp [hi]
theorem selAL_filter (f : Kd → Bool) : ∀ (n : Nat) (ts : List T), selAL f n ts = (selAL (fun _ => true) n ts).filter fun p => (match p with | [] => false | i :: p => if (n : Int) ≤ i then (match (ts[(i - n).toNat]?).bind (atA p) with | some u => f u.kd | none => false) else false)
  | _, [] => rfl
  | n, t :: ts => by
    have h1 := sel_filter f t
    have h2 := selAL_filter f (n + 1) ts
    simp only [selAL, List.filter_append, List.filter_map]
    rw [h1, h2]
    congr 1
    · congr 1
      refine List.filter_congr fun p hp => ?_
      simp
    · refine List.filter_congr fun p hp => ?_
      cases p with
      | nil => rfl
      | cons i p =>
        by_cases hi : ((n + 1 : Nat) : Int) ≤ i
        · simp only [if_pos hi, if_pos (show (n : Int) ≤ i by omega)]
          rw [show (i - (n : Int)).toNat = (i - ((n + 1 : Nat) : Int)).toNat + 1 by omega, List.getElem?_cons_succ]
        · exfalso
          apply hi
          clear h1 h2
          have key : ∀ (ts : List T) (m : Nat), i :: p ∈ selAL (fun _ => true) m ts → (m : Int) ≤ i := by
            intro ts
            induction ts with
            | nil => intro m h; simp [selAL] at h
            | cons t ts ih =>
              intro m h
              simp only [selAL, List.mem_append, List.mem_map] at h
              rcases h with ⟨q, _, e⟩ | h
              · have := (List.cons.inj e).1; omega
              · have := ih (m + 1) h; omega
          exact key ts (n + 1) hp
end
theorem isKeep_once (k : Kd) : isKeep (onceK k) = false := by
  cases k with
  | one w s =>
    simp only [onceK]
    split
    · rfl
    · rename_i h; exact decide_eq_false h
  | _ => rfl
mutual
theorem keeps_chg : ∀ (S : Pth → Bool) (t : T), keepsA (chgA S t) = (keepsA t).filter fun p => !S p
  | S, .node k ps => by
    simp only [chgA, selA, List.filter_append, keepsL_chg S 0 ps]
    congr 1
    cases h : S [] with
    | false => simp only [Bool.false_eq_true, if_false]; split <;> simp [h]
    | true =>
      simp only [if_true, isKeep_once, Bool.false_eq_true, if_false]
      split <;> simp [h]
theorem keepsL_chg : ∀ (S : Pth → Bool) (i : Nat) (ts : List T), selAL isKeep i (chgAL S i ts) = (selAL isKeep i ts).filter fun p => !S p
  | _, _, [] => rfl
  | S, i, t :: ts => by
    simp only [chgAL, selAL, List.filter_append, List.filter_map, keepsL_chg S (i + 1) ts]
    have h := keeps_chg (fun p => S ((i : Int) :: p)) t
    simp only [keepsA] at h
    rw [h]; rfl
end
/-! how many paths there are, how long, how far -/
mutual
theorem sel_len (f : Kd → Bool) : ∀ t : T, (selA f t).length ≤ t.size
  | .node k ps => by
    have := selAL_len f 0 ps
    simp only [selA, List.length_append, T.size]
    split <;> simp <;> omega
theorem selAL_len (f : Kd → Bool) : ∀ (i : Nat) (ts : List T), (selAL f i ts).length ≤ T.sizes ts
  | _, [] => Nat.le_refl _
  | i, t :: ts => by
    have h1 := sel_len f t
    have h2 := selAL_len f (i + 1) ts
    simp only [selAL, List.length_append, List.length_map, T.sizes]
    omega
end
theorem at_dep : ∀ (p : Pth) (t u : T), atA p t = some u → p.length + u.dep ≤ t.dep
  | [], t, u, h => by cases h; simp
  | i :: p, .node k ps, u, h => by
    simp only [atA] at h
    split at h
    · cases q : ps[i.toNat]? with
      | none => rw [q] at h; cases h
      | some v =>
        rw [q] at h
        have := at_dep p v u h
        have := T.dep_mem (List.mem_of_getElem? q)
        simp only [List.length_cons, T.dep]; omega
    · cases h
theorem at_ok : ∀ (p : Pth) (t u : T), atA p t = some u → t.Ok → u.Ok ∧ u.size ≤ t.size
  | [], t, u, h, ht => by cases h; exact ⟨ht, Nat.le_refl _⟩
  | i :: p, .node k ps, u, h, ht => by
    simp only [atA] at h
    split at h
    · cases q : ps[i.toNat]? with
      | none => rw [q] at h; cases h
      | some v =>
        rw [q] at h
        have hv := List.mem_of_getElem? q
        obtain ⟨h1, h2⟩ := at_ok p v u h (ht.ps v hv)
        have := T.size_mem hv
        exact ⟨h1, by simp only [T.size]; omega⟩
    · cases h
/-- every form has at most so many parts -/
theorem at_few {P : Kd → Nat → Prop} {m : Nat} (hP : ∀ k n, P k n → n ≤ m) : ∀ (p : Pth) (t u : T), OkP P t → atA p t = some u → ∀ c ∈ p, 0 ≤ c ∧ c < m
  | [], t, u, _, h => fun c hc => by cases hc
  | i :: p, .node k ps, u, ht, h => by
    simp only [atA] at h
    split at h
    · rename_i hi
      cases q : ps[i.toNat]? with
      | none => rw [q] at h; cases h
      | some v =>
        rw [q] at h
        have hl := (List.getElem?_eq_some_iff.1 q).1
        have hm := hP _ _ ht.p
        intro c hc
        rcases List.mem_cons.1 hc with rfl | hc
        · omega
        · exact at_few hP p v u (ht.ps v (List.mem_of_getElem? q)) h c hc
    · cases h
end Law
namespace Mm
open PySem L2 Law
/-! ## trees as data -/
def prD (p : Str × PyData) : PyData := .tuple [.str p.1, p.2]
def Kd.d : Kd → List PyData → PyData
  | .num i, _ => .tuple [.str "number", .int i]
  | .nam s, _ => .tuple [.str "name", .str s]
  | .wd w, _ => .tuple [.str w]
  | .fn ns, ds => .tuple [.str "fn", .tuple (ns.map .str), ds.headD .none]
  | .one w s, ds => .tuple [.str w, .str s, ds.headD .none]
  | .bnd w ns, ds => .tuple [.str w, .tuple ((ns.zip ds).map prD), ds.getLastD .none]
  | .dos, ds => .tuple [.str "do", .tuple ds]
  | .call, ds => .tuple [.str "call", ds.headD .none, .tuple ds.tail]
  | .op w, ds => .tuple [.str "op", .str w, .tuple ds]
  | .oth w, ds => .tuple (.str w :: ds)
mutual
def T.d : T → PyData
  | .node k ps => Kd.d k (T.ds ps)
def T.ds : List T → List PyData
  | [] => []
  | t :: ts => T.d t :: T.ds ts
end
theorem T.ds_map : ∀ ts : List T, T.ds ts = ts.map T.d
  | [] => rfl
  | t :: ts => by simp only [T.ds, List.map_cons, T.ds_map ts]
theorem zip_mv (ns : List Str) (ps : List T) : (ns.zip (T.mvs ps)).map prM = (ns.zip ps).map fun p => prM (p.1, p.2.mv) := by
  rw [T.mvs_map, List.zip_map_right, List.map_map]; rfl
theorem zip_d (ns : List Str) (ps : List T) : (ns.zip (T.ds ps)).map prD = (ns.zip ps).map fun p => prD (p.1, p.2.d) := by
  rw [T.ds_map, List.zip_map_right, List.map_map]; rfl
theorem headD_map {al be : Type} (f : al → be) (l : List al) (x : al) (d : be) : (l.map f).headD d = match l with | [] => d | a :: _ => f a := by cases l <;> rfl
mutual
theorem T.fl : ∀ t : T, Fl t.mv t.d
  | .node k ps => by
    have h : ∀ p ∈ ps, Fl p.mv p.d := T.fls ps
    have hs : FlL (T.mvs ps) (T.ds ps) := by rw [T.mvs_map, T.ds_map]; exact fll_map ps h
    have s1 : ∀ {s : Str}, Fl (.str s) (.str s) := fl_str
    have hh : Fl ((T.mvs ps).headD .non) ((T.ds ps).headD .none) := by
      cases ps with
      | nil => exact fl_non
      | cons p ps => exact h p List.mem_cons_self
    have ht : FlL (T.mvs ps).tail (T.ds ps).tail := by
      cases ps with
      | nil => exact fll_nil
      | cons p ps =>
        simp only [T.mvs, T.ds, List.tail_cons]
        rw [T.mvs_map, T.ds_map]
        exact fll_map ps fun a ha => h a (List.mem_cons_of_mem _ ha)
    have hl : Fl ((T.mvs ps).getLastD .non) ((T.ds ps).getLastD .none) := by
      rcases List.eq_nil_or_concat ps with rfl | ⟨qs, q, rfl⟩
      · exact fl_non
      · rw [T.mvs_map, T.ds_map, List.concat_eq_append, List.map_append, List.map_append]
        rw [show (qs.map T.mv ++ [q].map T.mv).getLastD .non = q.mv by simp, show (qs.map T.d ++ [q].map T.d).getLastD .none = q.d by simp]
        exact h q (by simp)
    cases k with
    | num i => exact fl_tup (fll_cons s1 (fll_cons fl_int fll_nil))
    | nam s => exact fl_tup (fll_cons s1 (fll_cons s1 fll_nil))
    | wd w => exact fl_tup (fll_cons s1 fll_nil)
    | fn ns => exact fl_tup (fll_cons s1 (fll_cons (fl_tup (fll_map ns fun _ _ => s1)) (fll_cons hh fll_nil)))
    | one w s => exact fl_tup (fll_cons s1 (fll_cons s1 (fll_cons hh fll_nil)))
    | bnd w ns =>
      refine fl_tup (fll_cons s1 (fll_cons (fl_tup ?_) (fll_cons hl fll_nil)))
      rw [zip_mv, zip_d]
      exact fll_map _ fun p hp => fl_tup (fll_cons s1 (fll_cons (h p.2 (List.of_mem_zip hp).2) fll_nil))
    | dos => exact fl_tup (fll_cons s1 (fll_cons (fl_tup hs) fll_nil))
    | call => exact fl_tup (fll_cons s1 (fll_cons hh (fll_cons (fl_tup ht) fll_nil)))
    | op w => exact fl_tup (fll_cons s1 (fll_cons s1 (fll_cons (fl_tup hs) fll_nil)))
    | oth w => exact fl_tup (fll_cons s1 hs)
theorem T.fls : ∀ (ts : List T), ∀ p ∈ ts, Fl p.mv p.d
  | [], _, h => by cases h
  | t :: ts, p, h => by
    rcases List.mem_cons.1 h with h | h
    · rw [h]; exact T.fl t
    · exact T.fls ts p h
end
/-- its texts can be laid -/
def KSt : Kd → Prop
  | .nam s => PyData.strOk s = true
  | .fn ns => ∀ s ∈ ns, PyData.strOk s = true
  | .one _ s => PyData.strOk s = true
  | .bnd _ ns => ∀ s ∈ ns, PyData.strOk s = true
  | .op w => PyData.strOk w = true
  | _ => True
theorem ShD.mono {n m : Nat} {d : PyData} (h : ShD n d) (hm : n ≤ m) : ShD m d := ⟨h.1, Nat.le_trans h.2 hm⟩
theorem ShL.mono {n m : Nat} {d : List PyData} (h : ShL n d) (hm : n ≤ m) : ShL m d := ⟨h.1, Nat.le_trans h.2 hm⟩
theorem ShD.up0 {n : Nat} {d : PyData} (h : ShD 0 d) : ShD n d := h.mono (Nat.zero_le _)
theorem ShD.up1 {n : Nat} {d : PyData} (h : ShD (n + 1) d) : ShD (n + 2) d := h.mono (Nat.le_succ _)
theorem ShD.up2 {n : Nat} {d : PyData} (h : ShD n d) : ShD (n + 2) d := h.mono (Nat.le_add_right ..)
theorem ShL.up0 {n : Nat} {d : List PyData} (h : ShL 0 d) : ShL n d := h.mono (Nat.zero_le _)
theorem ShL.up2 {n : Nat} {d : List PyData} (h : ShL n d) : ShL (n + 2) d := h.mono (Nat.le_add_right ..)
theorem shl_of {n : Nat} {ds : List PyData} (h : ∀ d ∈ ds, ShD n d) : ShL n ds := by
  have := shl_map (n := n) (g := id) ds h
  rwa [List.map_id] at this
mutual
theorem T.sh {P : Kd → Nat → Prop} (hP : ∀ k n, P k n → KSt k) : ∀ t : T, OkP P t → ShD (3 * t.dep) t.d
  | .node k ps, ht => by
    have hk := ht.k
    have hS := hP _ _ ht.p
    have h : ∀ p ∈ ps, ShD (3 * T.deps ps) p.d := fun p hp => (T.shs hP ps ht.ps p hp).mono (by have := T.dep_mem hp; omega)
    have hs : ShL (3 * T.deps ps) (T.ds ps) := by rw [T.ds_map]; exact shl_map ps h
    simp only [T.dep, T.d]
    rw [show 3 * (1 + T.deps ps) = 3 * T.deps ps + 2 + 1 by omega]
    generalize 3 * T.deps ps = m at *
    have w1 : ∀ {s : Str}, PyData.strOk s = true → ShD (m + 2) (.str s) := fun h => (shd_str (n := 0) h).up0
    have hh : ShD (m + 2) ((T.ds ps).headD .none) := by
      cases ps with
      | nil => exact shd_non
      | cons p ps => exact (h p List.mem_cons_self).up2
    have hl : ShD (m + 2) ((T.ds ps).getLastD .none) := by
      rcases List.eq_nil_or_concat ps with rfl | ⟨qs, q, rfl⟩
      · exact shd_non
      · rw [T.ds_map, List.concat_eq_append, List.map_append]
        rw [show (qs.map T.d ++ [q].map T.d).getLastD .none = q.d by simp]
        exact (h q (by simp)).up2
    have ht2 : ShL m (T.ds ps).tail := by
      cases ps with
      | nil => exact (shl_nil (n := 0)).up0
      | cons p ps =>
        simp only [T.ds, List.tail_cons]
        rw [T.ds_map]
        exact shl_map ps fun a ha => h a (List.mem_cons_of_mem _ ha)
    cases k with
    | num i => (refine shd_tup (shl_cons (w1 ?_) (shl_cons (shd_int (n := 0)).up0 shl_nil)); decide +kernel)
    | nam s => (refine shd_tup (shl_cons (w1 ?_) (shl_cons (w1 hS) shl_nil)); decide +kernel)
    | wd w =>
      obtain ⟨_, rfl | rfl | rfl | rfl⟩ := hk <;> (refine shd_tup (shl_cons (w1 ?_) shl_nil); decide +kernel)
    | fn ns => (refine shd_tup (shl_cons (w1 ?_) (shl_cons (shd_tup ((shl_map (n := 0) ns fun s hs => shd_str (hS s hs)).up0)) (shl_cons hh shl_nil))); decide +kernel)
    | one w s =>
      obtain ⟨_, rfl | rfl | rfl | rfl⟩ := hk <;> (refine shd_tup (shl_cons (w1 ?_) (shl_cons (w1 hS) (shl_cons hh shl_nil))); decide +kernel)
    | bnd w ns =>
      have hr : ShD (m + 2) (.tuple ((ns.zip (T.ds ps)).map prD)) := by
        rw [zip_d]
        exact shd_tup (shl_map _ fun p hp => shd_tup (shl_cons ((shd_str (n := 0) (hS p.1 (List.of_mem_zip hp).1)).up0) (shl_cons (h p.2 (List.of_mem_zip hp).2) shl_nil)))
      obtain ⟨_, rfl | rfl⟩ := hk <;> (refine shd_tup (shl_cons (w1 ?_) (shl_cons hr (shl_cons hl shl_nil))); decide +kernel)
    | dos => (refine shd_tup (shl_cons (w1 ?_) (shl_cons (shd_tup hs).up1 shl_nil)); decide +kernel)
    | call => (refine shd_tup (shl_cons (w1 ?_) (shl_cons hh (shl_cons (shd_tup ht2).up1 shl_nil))); decide +kernel)
    | op w => (refine shd_tup (shl_cons (w1 ?_) (shl_cons (w1 hS) (shl_cons (shd_tup hs).up1 shl_nil))); decide +kernel)
    | oth w =>
      rcases hk with ⟨rfl, _⟩ | ⟨rfl, _⟩ | ⟨rfl, _⟩ | ⟨rfl, _⟩ <;> (refine shd_tup (shl_cons (w1 ?_) hs.up2); decide +kernel)
theorem T.shs {P : Kd → Nat → Prop} (hP : ∀ k n, P k n → KSt k) : ∀ (ts : List T), (∀ t ∈ ts, OkP P t) → ∀ p ∈ ts, ShD (3 * p.dep) p.d
  | [], _, _, h => by cases h
  | t :: ts, hO, p, h => by
    rcases List.mem_cons.1 h with h | h
    · rw [h]; exact T.sh hP t (hO t List.mem_cons_self)
    · exact T.shs hP ts (fun u hu => hO u (List.mem_cons_of_mem _ hu)) p h
end
end Mm
namespace Law
open PySem L2 Mm
/-! paths as data -/
def pD (p : Pth) : PyData := .tuple (p.map .int)
theorem p_fl (p : Pth) : Fl (pM p) (pD p) := fl_tup (fll_ints p)
theorem p_sh (p : Pth) : ShD 1 (pD p) := shd_tup (n := 0) (shl_ints p)
theorem ints_eqv : ∀ p q : Pth, PyData.eqv (.tuple (p.map .int)) (.tuple (q.map .int)) = decide (p = q)
  | [], [] => rfl
  | [], _ :: _ => rfl
  | _ :: _, [] => rfl
  | a :: p, b :: q => by
    have ih := ints_eqv p q
    have e1 : PyData.eqv (.tuple ((a :: p).map .int)) (.tuple ((b :: q).map .int)) = ((a == b) && PyData.eqv (.tuple (p.map .int)) (.tuple (q.map .int))) := rfl
    rw [e1, ih]
    by_cases h : a = b <;> by_cases h2 : p = q <;> simp [h, h2]
end Law
end

section
/-! ## M, part 19: zip of a tuple and a list; an own __init__ that calls its base's by the base's name; xs.pop(i), tuple * int, x in xs for data, dict displays -/
namespace Mm
open PySem L2 PyProof.Rows
/-! ### zip of a tuple and a list -/
/-- the tuple at a and the list at b, in new pairs -/
def ItM (K : PySem.W.Frag) (a b : Addr) : It where
  go := fun i H => ∃ (xs ys : List V) (x y : V), (SqT K H a xs ∧ xs[i]? = some x) ∧ SqL K H b ys ∧ ys[i]? = some y
  yld := fun i H v H' => ∃ T x y, v = .ref T ∧ H T = none ∧ H' = upd H T (.tup [x, y]) ∧ (∀ xs, SqT K H a xs → xs[i]? = some x) ∧ ∀ ys, SqL K H b ys → ys[i]? = some y
  stop := fun i H => ∃ xs ys : List V, (SqT K H a xs ∧ SqL K H b ys) ∧ i ≤ xs.length ∧ i ≤ ys.length ∧ (i = xs.length ∨ i = ys.length)
theorem turn_zipM {P : Program} {w : World} {K : PySem.W.Frag} {elts : List Expr} {kk : Nat} {tpos : Pos} {a b z TI TO i1 i2 : Addr} (S : ZipSep2 z TI TO i1 i2 [i1, a] [i2, b]) (na : a ≠ i1) (nb : b ≠ i2) :
    Turn P w K (.Tuple elts kk tpos) (ItM K a b) [z, TI, TO, i1, i2] z (fun i h => IsZip h z TI TO .none ∧ IsTupOf2 h TI (.ref i1) (.ref i2) ∧ (∃ x y, IsTupOf2 h TO x y) ∧ h.IsTupleIter i1 a i ∧ h.IsListIter i2 b i) where
  mem := List.mem_cons_self
  obj := fun i h st c hc => by
    obtain ⟨hz, h1, ⟨x, y, h2⟩, ⟨o1, e1, _, d1⟩, ⟨o2, e2, _, d2⟩⟩ := st
    simp only [List.mem_cons, List.not_mem_nil, or_false] at hc
    rcases hc with q | q | q | q | q <;> subst q
    · exact ⟨_, hz, fun v q => nomatch q⟩
    · exact ⟨_, h1, fun v q => nomatch q⟩
    · exact ⟨_, h2, fun v q => nomatch q⟩
    · exact ⟨o1, e1, fun v q => by rw [d1] at q; cases q⟩
    · exact ⟨o2, e2, fun v q => by rw [d2] at q; cases q⟩
  keep := fun i h h' st k => by
    obtain ⟨hz, h1, ⟨x, y, h2⟩, h3, h4⟩ := st
    have kk : ∀ c, c ∈ [z, TI, TO, i1, i2] → ∀ o, h.get? c = some o → h'.get? c = some o := fun c hc o q => k c hc o q
    exact ⟨kk _ (by simp) _ hz, kk _ (by simp) _ h1, ⟨x, y, kk _ (by simp) _ h2⟩, h3.at fun o q => kk _ (by simp) o q, h4.at fun o q => kk _ (by simp) o q⟩
  item := by
    intro X hP hw hK hc i pins s σ H E I hf st hg
    subst hP hw hK
    obtain ⟨hz, hTI, ⟨x0, y0, hTO⟩, h1, h2⟩ := st
    obtain ⟨xs, ys, x, y, ⟨qx, hx⟩, qy, hy⟩ := hg
    obtain ⟨its, rv, p1, _⟩ := I.tuple qx
    obtain ⟨its2, rv2, p2, _⟩ := I.list qy
    obtain ⟨u, hu, ru⟩ := rv.get hx
    obtain ⟨u2, hu2, ru2⟩ := rv2.get hy
    have hd := I.ok.hd hc
    have D1 := Draws.tuple (prog := X.prog) (w := X.w) (A := X.A.in1) hd i1 a na its.toArray
    have D2 := Draws.list (prog := X.prog) (w := X.w) (A := X.A.in1) hd i2 b nb its2.toArray
    have l1 : i < its.toArray.size := by rw [List.size_toArray]; exact (List.getElem?_eq_some_iff.1 hu).1
    have l2 : i < its2.toArray.size := by rw [List.size_toArray]; exact (List.getElem?_eq_some_iff.1 hu2).1
    have zl : z < s.heap.objs.size := Heap.lt_size hz
    refine wpAny_pyNext_zipD2_item S D1 D2 hz hTI hTO ⟨h1, p1⟩ ⟨h2, p2.isList⟩ l1 l2 fun v1 v2 h' tk e1 e2 z' TO' st1 st2 hT hsz hk => ?_
    obtain rfl : v1 = u := by
      have e1 : its.toArray[i]? = some v1 := e1
      rw [List.getElem?_toArray, hu] at e1; exact (Option.some.inj e1).symm
    obtain rfl : v2 = u2 := by
      have e2 : its2.toArray[i]? = some v2 := e2
      rw [List.getElem?_toArray, hu2] at e2; exact (Option.some.inj e2).symm
    refine ⟨_, rfl, wpAny_letOwnedTupleGo_zip (s := { s with heap := h', toks := tk }) z' fun h'' z'' sb => ?_⟩
    have hT2 : h''.get? s.heap.objs.size = some { cls := .type "tuple", data := .seq #[v1, v2] } := (sb.2 _ (Nat.ne_of_gt zl)).trans hT
    have new : ObjOk X.prog X.w (upd H s.heap.objs.size (.tup [x, y])) h'' s.heap.objs.size (.tup [x, y]) := ⟨by show 2 ≤ sizeLine; decide, [v1, v2], .cons ru (.cons ru2 .nil), _, hT2, rfl, _, rfl⟩
    have far : ∀ c o, c ∉ [z, TI, TO, i1, i2] → s.heap.get? c = some o → h''.get? c = some o := fun c o hb q => by
      simp only [List.mem_cons, List.not_mem_nil, or_false, not_or] at hb
      exact (sb.2 c hb.1).trans (hk c o hb.1 hb.2.2.1 hb.2.2.2.1 hb.2.2.2.2 q)
    have I1 : Inv X pins σ (upd H s.heap.objs.size (.tup [x, y])) { s with heap := h'', toks := tk } := I.turnedNew (ch := [z, TI, TO, i1, i2]) far hf (Nat.le_refl _) new
    refine ⟨.ref s.heap.objs.size, _, I1, rfl, ⟨_, x, y, rfl, I.hok.fresh (Nat.le_refl _), rfl, fun l hl => by rw [I.tuple_inj hl qx]; exact hx, fun l hl => ?_⟩, ⟨z'', ?_, ⟨v1, v2, (sb.2 _ S.TOz).trans TO'⟩, st1.1.at fun o q => (sb.2 _ (Ne.symm S.zi1)).trans q, st2.1.at fun o q => (sb.2 _ (Ne.symm S.zi2)).trans q⟩, fun c hcm => ?_⟩
    · rw [I.list_inj hl qy]; exact hy
    · exact (sb.2 _ S.TIz).trans (hk _ _ S.TIz S.TITO S.TIi1 S.TIi2 hTI)
    · have lt : c < s.heap.objs.size := by
        simp only [List.mem_cons, List.not_mem_nil, or_false] at hcm
        rcases hcm with q | q | q | q | q <;> subst q
        · exact zl
        · exact Heap.lt_size hTI
        · exact Heap.lt_size hTO
        · obtain ⟨_, q, _⟩ := h1; exact Heap.lt_size q
        · obtain ⟨_, q, _⟩ := h2; exact Heap.lt_size q
      rw [upd_ne (Nat.ne_of_lt lt)]
      exact (hf c hcm).1
  done := by
    intro X hP hw hK hc i pins s σ H E I hf st hg
    subst hP hw hK
    obtain ⟨hz, hTI, ⟨x0, y0, hTO⟩, h1, h2⟩ := st
    obtain ⟨xs, ys, ⟨qx, qy⟩, b1, b2, b3⟩ := hg
    obtain ⟨its, rv, p1, _⟩ := I.tuple qx
    obtain ⟨its2, rv2, p2, _⟩ := I.list qy
    have hd := I.ok.hd hc
    have D1 := Draws.tuple (prog := X.prog) (w := X.w) (A := X.A.in1) hd i1 a na its.toArray
    have D2 := Draws.list (prog := X.prog) (w := X.w) (A := X.A.in1) hd i2 b nb its2.toArray
    have s1 : its.toArray.size = xs.length := by rw [List.size_toArray, rv.length]
    have s2 : its2.toArray.size = ys.length := by rw [List.size_toArray, rv2.length]
    refine wpAny_pyNext_zipD2_end S D1 D2 hz hTI hTO ⟨h1, p1⟩ ⟨h2, p2.isList⟩ (by omega) (by omega) (by omega) fun h' tk hk => ⟨rfl, I.turnedL (t' := tk) (ch := [z, TI, TO, i1, i2]) (fun c o hb q => ?_) hf⟩
    simp only [List.mem_cons, List.not_mem_nil, or_false, not_or] at hb
    exact hk c o hb.1 hb.2.2.1 hb.2.2.2.1 hb.2.2.2.2 q
  self := fun A i s Q E st h => wpAny_pyIter_zip st.1 h
def iZipM (K : PySem.W.Frag) (ta : TA) : TI := fun σ H R => ta σ H fun vs H1 => ∃ a b xs ys, vs = [V.ref a, .ref b] ∧ (SqT K H1 a xs ∧ SqL K H1 b ys) ∧ R (ItM K a b) H1
theorem pi_zipM {X : Cx} {e e2 : Expr} {ta : TA} {p pos tpos : Pos} {elts : List Expr} {kk : Nat} (hg : Gl X "zip") (hm : X.mg "zip" = none) (ha : PA X [e, e2] ta) (hs : starEach [e, e2] X.env = (false, eval e X.env) :: starEach [e2] X.env := by rfl)
    (hpl : (backTo pos (starEach [e2] X.env)).any (·.1) = false := by rfl) : PI X (.Tuple elts kk tpos) (.Call (.Name "zip" p) [e, e2] [] pos) (iZipM X.K ta) := by
  constructor
  intro pins s σ H R I h
  refine Call_ (ld_blt I hg hm boot_zip (PyProof.Rows.callWith_type1 (thn (ha.run pos pins s σ H _ I h) fun us s1 ⟨vs, H1, I1, r1, a, b, xs, ys, ex, ⟨qx, qy⟩, q⟩ => ?_) hs hpl))
  subst ex
  obtain ⟨u1, u2, rfl, t1, t2⟩ := vals2 r1
  cases t1
  cases t2
  obtain ⟨its, rv, p1, _⟩ := I1.tuple qx
  obtain ⟨its2, rv2, p2, _⟩ := I1.list qy
  have la : a < s1.heap.objs.size := by obtain ⟨_, q, _⟩ := id p1; exact Heap.lt_size q
  have lb : b < s1.heap.objs.size := by obtain ⟨_, q, _⟩ := id p2.isList; exact Heap.lt_size q
  refine zip_begins2 (begins_tuple a its.toArray) (begins_list b its2.toArray) p1 p2.isList fun h' hz hTI hTO g1 g2 hsz hk => wpAny_pyIter_zip hz ?_
  refine ⟨s1.heap.objs.size + 4, [s1.heap.objs.size + 4, s1.heap.objs.size + 2, s1.heap.objs.size + 3, s1.heap.objs.size, s1.heap.objs.size + 1], _, _, H1, rfl, I1.kept (t' := s1.toks) hk, turn_zipM (a := a) (b := b) (zip_sep2 (fun c hc => ?_) fun c hc => ?_) (Nat.ne_of_lt la) (Nat.ne_of_lt (Nat.lt_succ_of_lt lb)), ⟨hz, hTI, ⟨_, _, hTO⟩, ⟨_, g1, rfl, rfl⟩, ⟨_, g2, rfl, rfl⟩⟩, fun c hc => ?_, q⟩
  · rw [List.mem_singleton.1 hc]; exact la
  · rw [List.mem_singleton.1 hc]; exact lb
  · have hle : s1.heap.objs.size ≤ c := by
      simp only [List.mem_cons, List.not_mem_nil, or_false] at hc
      rcases hc with z | z | z | z | z <;> rw [z] <;> first | exact Nat.le_add_right .. | exact Nat.le_refl _
    exact I1.fpOk hle (I1.hok.fresh hle)
theorem rJ_zipM {K : PySem.W.Frag} {rho : Nat → Addr} {n k : Nat} {H : Hp} {a : Addr} {vs : List V} {xs ys : List MV} (hk : k < n) (h : SqT K H a vs) (r : RepL K rho n H xs vs) : rJ K rho n H ⟨prZ xs ys, [(k, ys)]⟩ (ItM K a (rho k)) := by
  intro rho' S' H' hn hr ht s hc
  have h' := ht a vs h
  have r' := RepL.mono hn hr ht r
  obtain ⟨ws, g', t'⟩ := ck_at hk hn hr s (by simpa using hc)
  refine ⟨⟨vs, ws, ⟨h', g'⟩, ?_⟩, fun i z hz => ?_⟩
  · rw [r'.len, t'.len]
    show (prZ xs ys).length ≤ _ ∧ (prZ xs ys).length ≤ _ ∧ _
    rw [prZ_len]; omega
  obtain ⟨x, y, hx, hy, rfl⟩ := prZ_get hz
  obtain ⟨v, h1, h2⟩ := r'.get hx
  obtain ⟨w, h3, h4⟩ := t'.get hy
  refine ⟨⟨vs, ws, v, w, ⟨h', h1⟩, g', h3⟩, fun v2 H2 ⟨T, v1, w1, e1, e2, e3, e4, e5⟩ => ?_⟩
  subst e1 e3
  have q1 := e4 vs h'
  rw [h1] at q1; cases q1
  exact pair_new s e2 h2 (sq_inj t' hy g' e5)
/-- zip of two lists, of two tuples, of a tuple and a list -/
def zipO2 (S : Sto) : List MV → Option Itm
  | [.tup xs, .ref k] => (seqO (S.g k)).map fun ys => ⟨prZ xs ys, [(k, ys)]⟩
  | xs => zipO S xs
def zipM2 (ml : EMt (List MV)) : EMt Itm := bindM ml fun xs => fun _ S => itmV (zipO2 S xs) S
section
variable {X : Cx} {W : WX}
theorem mi_zip2 {a b : Expr} {ml : EMt (List MV)} {p pos tpos : Pos} {elts : List Expr} {kk : Nat} (hg : Gl X "zip") (hm : X.mg "zip" = none) (ha : PA X [a, b] (tA X.K W ml))
    (hs : starEach [a, b] X.env = (false, eval a X.env) :: starEach [b] X.env := by rfl) (hpl : (backTo pos (starEach [b] X.env)).any (·.1) = false := by rfl) :
    PI X (.Tuple elts kk tpos) (.Call (.Name "zip" p) [a, b] [] pos) (tI X.K W (zipM2 ml)) := by
  refine ⟨fun pins s σ H R I h => ?_⟩
  have h0 := h
  obtain ⟨rho, e, S, sm, re, f⟩ := h
  by_cases hq : ∃ xs k S', ml e S = .ok [.tup xs, .ref k] S'
  · obtain ⟨xs, k, S', q⟩ := hq
    refine (pi_zipM hg hm ha hs hpl).run pins s σ H R I ⟨rho, e, S, sm, re, ?_⟩
    simp only [zipM2, bindM, q] at f
    rw [q]
    intro rho' H' vs s' l' r'
    have f' := f.step l'
    obtain ⟨itm, q2, k2⟩ := fin_itm (al := Unit) f' s'
    obtain ⟨v, w, h1, ⟨a', us, h2, h3, h4⟩, hk, h5⟩ := rep2 r'
    simp only [zipO2, Option.map_eq_some_iff] at q2
    obtain ⟨ys, q3, rfl⟩ := q2
    obtain ⟨us2, g1, g2⟩ := seqO_at s' hk q3
    exact ⟨a', _, us, us2, by rw [h1, h2, h5], ⟨h3, g1⟩, k2 _ (rJ_zipM hk h3 h4)⟩
  · refine (mi_zip (W := W) (ml := ml) hg hm ha hs hpl).run pins s σ H R I ⟨rho, e, S, sm, re, ?_⟩
    have e2 : zipM ml e S = zipM2 ml e S := by
      unfold zipM zipM2 bindM
      cases q : ml e S with
      | exc => rfl
      | bad => rfl
      | ok vs S' =>
        show itmV (zipO S' vs) S' = itmV (zipO2 S' vs) S'
        have : zipO2 S' vs = zipO S' vs := by
          unfold zipO2
          split
          · rename_i xs k; exact absurd ⟨xs, k, S', q⟩ hq
          · rfl
        rw [this]
    rw [e2]; exact f
end
/-! ### xs.pop(i) -/
section
variable {K : PySem.W.Frag}
def popAtV : MV → List MV → Sto → Res MV
  | .ref k, [.int i], S => match S.g k with
    | .lst xs => if 0 ≤ i ∧ i < 2 ^ 62 then (match xs[i.toNat]? with
      | some y => .ok y (S.put k (.lst (xs.eraseIdx i.toNat)))
      | none => .bad) else .bad
    | _ => .bad
  | _, _, _ => .bad
theorem popAtV_ok : SndB K "list" rPopAt popAtV := by
  intro rho S H x vx xs vs Q E s rx rs f
  unfold popAtV at f
  split at f
  · rename_i k i
    obtain ⟨hk, ek⟩ := rx
    obtain ⟨v, h1, h2⟩ := rep1 rs
    have h2 : v = .int i := h2
    subst h2
    split at f
    · rename_i ys q
      split at f
      · rename_i hi
        split at f
        · rename_i y hy
          obtain ⟨ws, g1, g2⟩ := lst_at s hk q
          have hm : isMut (H (rho k)) := isMut_some g1 trivial
          obtain ⟨u, h4, h5⟩ := g2.get hy
          have hl := (List.getElem?_eq_some_iff.1 h4).1
          refine ⟨_, ws, i, i.toNat, u, ek, h1, g1, by omega, by omega, ?_, h4, f.put s hk (by rw [q]; rfl) ⟨_, upd_same, (g2.upd hm).eraseIdx _⟩ (h5.upd hm)⟩
          unfold seqIndex?
          simp only [if_neg (show ¬ i < 0 by omega)]
          rw [if_pos (by simp; omega)]
        · exact f.elim
      · exact f.elim
    · exact f.elim
  · exact f.elim
/-! ### tuple * int -/
def repTV : MV → MV → Sto → Res MV
  | .tup xs, .int k, S => if xs ≠ [] ∧ 2 ≤ k ∧ k ≤ 1000 ∧ xs.length ≤ 1000 then .ok (.tup (List.replicate k.toNat xs).flatten) S else .bad
  | _, _, _ => .bad
theorem RepL.rep {rho : Nat → Addr} {n : Nat} {H : Hp} {xs : List MV} {vs : List V} (h : RepL K rho n H xs vs) : ∀ m, RepL K rho n H (List.replicate m xs).flatten (List.replicate m vs).flatten
  | 0 => rfl
  | m + 1 => by
    rw [List.replicate_succ, List.replicate_succ, List.flatten_cons, List.flatten_cons]
    exact h.app (RepL.rep h m)
theorem repTV_ok : Snd2 K (rRepT K) repTV := by
  intro rho S H x y vx vy Q E s rx ry f
  unfold repTV at f
  split at f
  · rename_i xs k
    obtain ⟨a, vs, h1, h2, h3⟩ := rx
    split at f
    · rename_i h
      have hl := h3.len
      refine ⟨a, k, vs, h1, ry, h2, ?_, h.2.1, h.2.2.1, by omega, fun p hp => f.tup s (h3.rep _) hp⟩
      intro e
      rw [e] at hl
      exact h.1 (List.length_eq_zero_iff.1 hl.symm)
    · exact f.elim
  · exact f.elim
/-! ### x in xs, for data -/
def inDO (x y : MV) (S : Sto) : Option Bool := match toD S x, toD S y with
  | some d, some (.list ds) => if SeqAt.shaped d = true ∧ SeqAt.shaped (.list ds) = true then some (ds.any fun z => PyData.eqv z d) else none
  | some d, some (.tuple ds) => if SeqAt.shaped d = true ∧ SeqAt.shaped (.tuple ds) = true then some (ds.any fun z => PyData.eqv z d) else none
  | _, _ => none
def inDV (x y : MV) (S : Sto) : Res MV := match inDO x y S with
  | some b => .ok (.bl b) S
  | none => .bad
def notInDV (x y : MV) (S : Sto) : Res MV := match inDO x y S with
  | some b => .ok (.bl (!b)) S
  | none => .bad
def rInT (K : PySem.W.Frag) (neg : Bool) : R2 := fun x y H Q => ∃ d ds, Dp K H x d ∧ Dp K H y (.tuple ds) ∧ SeqAt.shaped d = true ∧ SeqAt.shaped (.tuple ds) = true ∧ Q (.bl (if neg then !ds.any fun z => PyData.eqv z d else ds.any fun z => PyData.eqv z d)) H
theorem room_inT {u : Nat} {d : PyData} {ds : List PyData} (h : SeqAt.shaped d = true) (hu : u + 65 < cLine) : u + 1 + min (PyData.depthAll ds) d.depth < cLine := by
  simp only [SeqAt.shaped, Bool.and_eq_true, decide_eq_true_eq] at h
  omega
theorem op_inT {X : Cx} (hu : X.A.units + 65 < cLine) : OpR X (compareOp .In) (rInT X.K false) := by
  rintro pins s σ H x y v u Q I rx ry ⟨d, ds, hd, he, sd, se, q⟩
  obtain ⟨_, r1⟩ := Dp.reads I d x v hd rx
  obtain ⟨_, r2⟩ := Dp.reads I (.tuple ds) y u he ry
  exact SeqAt.in_tuple_reads r2 r1 (SeqAt.canLay_of_shaped se) (SeqAt.canLay_of_shaped sd) (room_inT sd hu) ⟨.bl _, H, I, rfl, q⟩
theorem op_ninT {X : Cx} (hu : X.A.units + 65 < cLine) : OpR X (compareOp .NotIn) (rInT X.K true) := by
  rintro pins s σ H x y v u Q I rx ry ⟨d, ds, hd, he, sd, se, q⟩
  obtain ⟨_, r1⟩ := Dp.reads I d x v hd rx
  obtain ⟨_, r2⟩ := Dp.reads I (.tuple ds) y u he ry
  exact SeqAt.notIn_tuple_reads r2 r1 (SeqAt.canLay_of_shaped se) (SeqAt.canLay_of_shaped sd) (room_inT sd hu) ⟨.bl _, H, I, rfl, q⟩
theorem op_inDV {X : Cx} (hu : X.A.units + 65 < cLine) : OpR X (compareOp .In) (fun x y H Q => rInD X.K x y H Q ∨ rInT X.K false x y H Q) := OpR.or (op_inD hu) (op_inT hu)
theorem op_ninDV {X : Cx} (hu : X.A.units + 65 < cLine) : OpR X (compareOp .NotIn) (fun x y H Q => rNotInD X.K x y H Q ∨ rInT X.K true x y H Q) := OpR.or (op_notInD hu) (op_ninT hu)
theorem inDV_ok : Snd2 K (fun x y H Q => rInD K x y H Q ∨ rInT K false x y H Q) inDV := by
  intro rho S H x y vx vy Q E s rx ry f
  unfold inDV inDO at f
  split at f
  · rename_i b q
    split at q
    · rename_i d ds q1 q2
      split at q
      · rename_i h
        cases q
        exact .inl ⟨d, ds, toD_ok s rx q1, toD_ok s ry q2, h.1, h.2, f.val s rfl⟩
      · cases q
    · rename_i d ds q1 q2
      split at q
      · rename_i h
        cases q
        exact .inr ⟨d, ds, toD_ok s rx q1, toD_ok s ry q2, h.1, h.2, f.val s rfl⟩
      · cases q
    · cases q
  · exact f.elim
theorem notInDV_ok : Snd2 K (fun x y H Q => rNotInD K x y H Q ∨ rInT K true x y H Q) notInDV := by
  intro rho S H x y vx vy Q E s rx ry f
  unfold notInDV inDO at f
  split at f
  · rename_i b q
    split at q
    · rename_i d ds q1 q2
      split at q
      · rename_i h
        cases q
        exact .inl ⟨d, ds, toD_ok s rx q1, toD_ok s ry q2, h.1, h.2, f.val s rfl⟩
      · cases q
    · rename_i d ds q1 q2
      split at q
      · rename_i h
        cases q
        exact .inr ⟨d, ds, toD_ok s rx q1, toD_ok s ry q2, h.1, h.2, f.val s rfl⟩
      · cases q
    · cases q
  · exact f.elim
end
/-! ### dict displays with written texts as keys -/
section
variable {X : Cx} {W : WX} {K : PySem.W.Frag}
def pairsM : List (Str × EM) → EMt (List (Key × MV))
  | [] => fun _ S => .ok [] S
  | p :: r => bindM p.2 fun x => bindM (pairsM r) fun ps => fun _ S => .ok ((Sum.inr p.1, x) :: ps) S
def mergeM (kvs more : List (Key × MV)) : List (Key × MV) := more.foldl (fun acc kv => putM acc kv.1 kv.2) kvs
theorem RepP.merge {rho : Nat → Addr} {n : Nat} {H : Hp} : ∀ {more : List (Key × MV)} {ws : List (Key × V)} {kvs : List (Key × MV)} {vs : List (Key × V)}, RepP K rho n H more ws → RepP K rho n H kvs vs → RepP K rho n H (mergeM kvs more) (mergeK vs ws)
  | [], ws, kvs, vs, h, g => by rw [show ws = [] from h]; exact g
  | p :: more, ws, kvs, vs, h, g => by
    obtain ⟨v, r, h1, h2, h3⟩ := h
    subst h1
    have z := RepP.merge h3 (RepP.put (k := p.1) h2 g)
    exact z
def dispM (ps : List (Str × EM)) : EM := fun e S => match pairsM ps e (S.add (.dK [])) with
  | .ok kvs S2 => (match S2.g S.n with
    | .dK [] => if kvs.length ≤ 15 then .ok (.ref S.n) (S2.put S.n (.dK (mergeM [] kvs))) else .bad
    | _ => .bad)
  | .exc ex S2 => .exc ex S2
  | .bad => .bad
abbrev rKP : RelT (List (Key × MV)) (List (Key × V)) := fun K rho n H x y => RepP K rho n H x y
theorem pairs_run {sg : L2.St} : ∀ (ps : List (Str × EM)) (rho : Nat → Addr) (e : Sl) (S : Sto) (H : Hp) (Q : List (V × V) → Hp → Prop), Sim K rho S H → RepE K rho S.n H sg e → Fin K rKP rho S H (fun kvs H' => Q (kvs.map fun kv => (kV kv.1, kv.2)) H') (fun c d H' => W c d sg H') (pairsM ps e S) →
    tPairs (ps.map fun p => (tM K W (conM (.str p.1)), tM K W p.2)) sg H Q
  | [], rho, e, S, H, Q, s, re, f => f rho H [] s Le.refl rfl
  | p :: ps, rho, e, S, H, Q, s, re, f => by
    refine ⟨rho, e, S, s, re, fun rho1 H1 v s1 l1 rv => ?_⟩
    have rv : v = .str p.1 := rv
    subst rv
    refine ⟨rho1, e, S, s1, re.le l1, ?_⟩
    have f1 := f.step l1
    simp only [pairsM, bindM] at f1
    cases q : p.2 e S with
    | bad => rw [q] at f1; exact f1
    | exc ex S2 => rw [q] at f1; exact f1
    | ok x S2 =>
      rw [q] at f1
      simp only at f1
      intro rho2 H2 y s2 l2 ry
      have f2 := f1.step l2
      refine pairs_run ps rho2 e S2 H2 (fun vs H' => Q ((.str p.1, y) :: vs) H') s2 ((re.le l1).le l2) ?_
      cases q2 : pairsM ps e S2 with
      | bad => rw [q2] at f2; exact f2
      | exc ex S3 => rw [q2] at f2; exact f2
      | ok kvs S3 =>
        rw [q2] at f2
        exact fun rho3 H3 kw s3 l3 rk => f2 rho3 H3 ((Sum.inr p.1, y) :: kw) s3 l3 ⟨y, kw, rfl, ry.le l3, rk⟩
inductive PDM (X : Cx) (W : WX) : List (Option Expr) → List Expr → List (Str × EM) → Prop where
  | nil : PDM X W [] [] []
  | cons {k : Str} {j : Nat} {c : Pos} {v : Expr} {ks : List (Option Expr)} {vs : List Expr} {m : EM} {ps : List (Str × EM)} (h : PE X v (tM X.K W m)) (r : PDM X W ks vs ps) : PDM X W (some (.Constant (.str k) j c) :: ks) (v :: vs) ((k, m) :: ps)
theorem PDM.pps {pos : Pos} {ks : List (Option Expr)} {vs : List Expr} {ps : List (Str × EM)} (h : PDM X W ks vs ps) : PPs X pos ks vs (ps.map fun p => (tM X.K W (conM (.str p.1)), tM X.K W p.2)) := by
  induction h with
  | nil => exact pps_nil
  | cons h r ih => exact pps_cons mp_str h ih
theorem mp_disp {pos : Pos} {ks : List (Option Expr)} {vs : List Expr} {ps : List (Str × EM)} (h : PDM X W ks vs ps) (hall : ks.all (·.isSome) = true := by rfl) (hl : ks.length = vs.length := by rfl) (h0 : ks ≠ [] := by simp) (h15 : ks.length ≤ 15 := by decide) :
    PE X (.Dict ks vs pos) (tM X.K W (dispM ps)) :=
  PE.to (pe_disp h.pps hall hl h0 h15) fun sg H Q ⟨rho, e, S, s, re, f⟩ => fun p hp => by
    have s1 : Sim X.K (ext rho S.n p) (S.add (.dK [])) (upd H p (.dK [])) := s.add hp rfl ⟨[], upd_same, rfl⟩
    have l1 : Le X.K rho S H (ext rho S.n p) (S.add (.dK [])) (upd H p (.dK [])) := Le.add hp
    refine pairs_run ps _ e _ _ _ s1 (re.le l1) ?_
    unfold dispM at f
    cases q : pairsM ps e (S.add (.dK [])) with
    | bad => rw [q] at f; exact f
    | exc ex S2 => rw [q] at f; exact f.step l1
    | ok kvs S2 =>
      rw [q] at f
      simp only at f
      split at f
      · rename_i g
        split at f
        · rename_i hk
          intro rho2 H2 kw s2 l2 rk
          have hn : S.n < S2.n := Nat.lt_of_lt_of_le (Nat.lt_succ_self _) l2.n
          have hr : rho2 S.n = p := by rw [l2.r S.n (Nat.lt_succ_self _), ext_at]
          have ho := s2.obj S.n hn
          rw [g, hr] at ho
          obtain ⟨ws, h1, h2⟩ := ho
          have h2 : ws = [] := h2
          subst h2
          refine ⟨h1, kw, rfl, by rw [rk.len]; exact hk, ?_⟩
          have hm : isMut (H2 p) := isMut_some h1 trivial
          have s3 := s2.put (u := .dK (mergeK [] kw)) (o := .dK (mergeM [] kvs)) hn (by rw [g]; rfl) ⟨_, upd_same, by
            rw [hr]
            exact RepP.mono (Nat.le_refl _) (fun _ _ => rfl) (fun _ _ => sqT_upd hm) (RepP.merge rk (kvs := []) (vs := []) rfl)⟩
          have l3 := Le.put (u := .dK (mergeK [] kw)) (o := .dK (mergeM [] kvs)) s2 hn (by rw [g]; rfl) rfl
          rw [hr] at s3 l3
          exact f rho2 _ (.ref p) s3 ((l1.trans l2).trans l3) ⟨hn, by rw [hr]⟩
        · exact f.elim
      · exact f.elim
end
/-! ### an own __init__ that calls ValueError's through the base's name -/
section
variable {X : Cx} {pins : List (Addr × Obj)} {σ : L2.St} {H : Hp} {s : Shared} {a C : Addr} {d : Option Addr} {E : Value → Shared → Prop} {A : Around}
open PySem.HandSPX PySem.W in
theorem oinit_any {us : List Value} {Q : Value → Shared → Prop} (T : OexC X.K C) (I : Inv X pins σ H s) (e : H a = some (exo a C d)) (hl : us.length ≤ sizeLine) (h : ∀ s', Inv X pins σ H s' → Q .none s') :
    wpAny (model X.prog X.w) A (call (.builtin "ValueError.__init__") (.ref a :: us)) Q E s := by
  obtain ⟨_, _, _, _, bm, _, _, _, _, _, _, _, _, _, _, hC, hbm⟩ := T.cls
  obtain ⟨t1, ho⟩ := exo_at I.hok e
  obtain ⟨hp, g, dr, t, os⟩ := s
  have B := PySem.F.excBase_ValueError
  refine wpAny_call (codeAny_call_builtin B.init.plain B.initEntry (check_init_own B (fun Y => refsVE_contains Y bm hbm) (I.kIn _ _ hC) ho rfl ?_))
  refine exc_init_tree (cls := .ref C) (t0 := t1) (dv := d) (c2 := .none) (c3 := .none) (b4 := .bool false) ho hl fun h' k hx _ => ?_
  have J := I.write (t' := t) (x := a) (e := a) (o := exo a C d) (by rw [e]; exact True.intro) (.inl rfl) k ⟨_, hx⟩ (exo_ok hx)
  have same : upd H a (exo a C d) = H := by
    funext b
    by_cases hb : b = a
    · rw [hb, upd_same, e]
    · rw [upd_ne hb]
  rw [same] at J
  exact h _ J
/-- x.__init__(self, ..), x an own class over ValueError without an __init__ -/
def tBaI (K : PySem.W.Frag) (ta : TA) : TE := fun σ H Q => ta σ H fun vs H1 => ∃ (a C : Addr) (d : Option Addr) (ws : List V), vs = .ref a :: ws ∧ ws.length ≤ 1000 ∧ OexC K C ∧ H1 a = some (exo a C d) ∧ Q .non H1
structure BaseI (K : PySem.W.Frag) (C0 : Addr) : Prop where
  rd : PySem.W.readsIn K C0 (.type "type") = true
  ga : PySem.W.specialIn K (.ref C0) "__getattribute__" = some (some (.builtin "type.__getattribute__"))
  fi : PySem.W.findCls K (.ref C0) (.type "type") "__init__" = some (.val (.builtin "ValueError.__init__"))
theorem pe_basei {x : Str} {C0 : Addr} {e : Expr} {es : List Expr} {ta : TA} {p1 p2 pos : Pos} {pl : Sem Bool} (hg : Gl X x) (hm : X.mg x = some (.ref C0)) (B : BaseI X.K C0) (ha : PA X (e :: es) ta) (hd : (x == ("__debug__" : Str)) = false := by decide)
    (hc : eval (.Call (.Attribute (.Name x p1) "__init__" p2) (e :: es) [] pos) X.env = (do let ov ← eval (.Name x p1) X.env; standAt p2.atName; let (f, first) ← holding [ov] (getMethod ov "__init__" pl); callWith pos f first (backTo pos (starEach (e :: es) X.env)) (backToKw pos (keywordEach [] X.env))) := by rfl)
    (he : starEach (e :: es) X.env = (false, eval e X.env) :: starEach es X.env := by rfl) (hpl : (backTo pos (starEach es X.env)).any (·.1) = false := by rfl) : PE X (.Call (.Attribute (.Name x p1) "__init__" p2) (e :: es) [] pos) (tBaI X.K ta) := by
  constructor
  intro pins s σ H Q I h
  refine PySem.W.methodCall_KW (ld_glob I hg hm ?_ hd) hc
  refine PySem.W.method_cls I.kIn B.ga (PySem.W.cls_value I.kIn B.rd B.fi (by decide +kernel) ?_)
  show wpAny _ _ (callWith pos (Value.builtin "ValueError.__init__") [] (backTo pos (starEach (e :: es) X.env)) []) _ _ _
  refine PyProof.Rows.callWith_method1 (thn (ha.run pos pins _ σ H _ (I.tok _) h) fun us s1 hh => ?_) he hpl
  obtain ⟨vs, H1, I1, r1, a, C, d, ws, rfl, hl, T, ea, q⟩ := hh
  cases r1 with
  | @cons _ u0 _ ur ra rw' =>
    obtain rfl : u0 = Value.ref a := ra
    exact oinit_any T I1 ea (by rw [← Paired.length rw', sizeLine_eq]; omega) fun s' J => ⟨.non, H1, J, rfl, q⟩
end
/-- __init__(self, p): self.f = p; x.__init__(self, 'text') -/
theorem init1b {P : Program} {w : World} {K : PySem.W.Frag} {mg : Str → Option Value} {base : Heap} {qual : Str} {st : Stmt} {f : Addr} {fd : FuncData} {C : Addr} {n1 s0 s1 t : Str} (T : OexC K C) (h1 : PySem.W.findIn K (.ref C) n1 = some none) (F : Fun K "__init__" qual st f fd) (S : FnScope [s0, s1] [s0, s1] (defScope st))
    (hbody : ∀ (cdv : Value) (A : Around) (outer : List PySem.Env) (s : Shared) (H : Hp) (E : XK), PSs (cxOf (L2.CX P w) P w K mg base [s0, s1] qual (defScope st) f cdv A outer s H E) (defBody st) (tSeq (tOst K n1 (tVar 0) (tVar 1)) (tDrop (tBaI K (tCons (tVar 0) (tCons (tC (.str t)) tNil)))))) : FnOk P w K mg base (L2.CX P w) 1 f fd [s0, s1] (spX C [n1]) :=
  F.okX (k := 0) S (fun vs H Q E ⟨a, ws, e, hl, _⟩ => by rw [e, List.length_cons, hl]; rfl) fun cdv A outer s H vs Q E hr ⟨a, ws, e, hl, ha, q⟩ => by
    subst e
    match ws, hl with
    | [y], _ =>
      refine ⟨_, hbody cdv A outer s H E, y, rfl, .ref a, rfl, a, C, rfl, T, h1, .inl ⟨ha, fun dx hd hne => ?_⟩⟩
      refine ⟨.ref a, rfl, a, C, some dx, [.str t], rfl, (by simp), T, upd_same, ?_⟩
      exact q dx hd hne _ (fun b hb hb2 => by rw [upd_ne hb, upd_ne hb2]) upd_same (by rw [upd_ne hne, upd_same]; rfl)
theorem u65 {A : Around} {k : Nat} (hr : Room k A) : A.units + 65 < cLine := by have := hr.un; omega
end Mm
end

section
/-! ## P, part 4: the rules for M19 -/
namespace Mm
open PySem L2
section
variable {e : Sl} {S : Sto} {x y : MV} {ml : EMt (List MV)} {Q : MV → Sto → Prop}
theorem w_popAt {a : Nat} {xs : List MV} {i : Int} (hS : S.g a = .lst xs) (h0 : 0 ≤ i ∧ i < 2 ^ 62) (h : xs[i.toNat]? = some y) (q : Q y (S.put a (.lst (xs.eraseIdx i.toNat)))) : Ret (popAtV (.ref a) [.int i] S) Q := by
  simp only [popAtV, hS, if_pos h0, h]; exact q
theorem w_repT {xs : List MV} {k : Int} (h : xs ≠ [] ∧ 2 ≤ k ∧ k ≤ 1000 ∧ xs.length ≤ 1000) (q : Q (.tup (List.replicate k.toNat xs).flatten) S) : Ret (repTV (.tup xs) (.int k) S) Q := by
  simp only [repTV, if_pos h]; exact q
theorem inDO_l {d : PyData} {ds : List PyData} (h1 : toD S x = some d) (h2 : toD S y = some (.list ds)) (s1 : SeqAt.shaped d = true) (s2 : SeqAt.shaped (.list ds) = true) : inDO x y S = some (ds.any fun z => PyData.eqv z d) := by
  simp only [inDO, h1, h2, s1, s2, and_self, if_true]
theorem inDO_t {d : PyData} {ds : List PyData} (h1 : toD S x = some d) (h2 : toD S y = some (.tuple ds)) (s1 : SeqAt.shaped d = true) (s2 : SeqAt.shaped (.tuple ds) = true) : inDO x y S = some (ds.any fun z => PyData.eqv z d) := by
  simp only [inDO, h1, h2, s1, s2, and_self, if_true]
theorem w_inD {b : Bool} (h : inDO x y S = some b) (q : Q (.bl b) S) : Ret (inDV x y S) Q := by
  unfold inDV; rw [h]; exact q
theorem w_ninD {b : Bool} (h : inDO x y S = some b) (q : Q (.bl (!b)) S) : Ret (notInDV x y S) Q := by
  unfold notInDV; rw [h]; exact q
theorem w_pnil {QP : List (Key × MV) → Sto → Prop} (q : QP [] S) : Ret (pairsM [] e S) QP := q
theorem w_pcons {QP : List (Key × MV) → Sto → Prop} {k : Str} {m : EM} {r : List (Str × EM)} (h : Ret (m e S) fun x S1 => Ret (pairsM r e S1) fun ps S2 => QP ((Sum.inr k, x) :: ps) S2) : Ret (pairsM ((k, m) :: r) e S) QP :=
  w_bind (h.imp fun x S1 h => w_bind (h.imp fun ps S2 h => h))
theorem w_disp {ps : List (Str × EM)} (h : Ret (pairsM ps e (S.add (.dK []))) fun kvs S2 => S2.g S.n = .dK [] ∧ kvs.length ≤ 15 ∧ Q (.ref S.n) (S2.put S.n (.dK (mergeM [] kvs)))) : Ret (dispM ps e S) Q := by
  obtain ⟨kvs, S2, q, h1, h2, h3⟩ := h.eq
  simp only [dispM, q, h1, if_pos h2]; exact h3
theorem w_zip2 {QI : Itm → Sto → Prop} (h : Ret (ml e S) fun xs S1 => ∃ itm, zipO2 S1 xs = some itm ∧ QI itm S1) : Ret (zipM2 ml e S) QI := w_bind (h.imp fun x S1 ⟨itm, h1, h2⟩ => w_itm h1 h2)
theorem it_zTL {xs ys : List MV} {k : Nat} (h : S.g k = .lst ys) : zipO2 S [.tup xs, .ref k] = some ⟨prZ xs ys, [(k, ys)]⟩ := by simp only [zipO2, h, seqO, Option.map_some]
theorem it_zTT {xs ys : List MV} : zipO2 S [.tup xs, .tup ys] = some ⟨prZ xs ys, []⟩ := rfl
end
end Mm
end

section
/-! ### the M-functions, printed by gen.py -/
namespace Law
open PySem L2 Mm

abbrev k_RestsError (cl : Nat → Addr) : CId := ⟨0, cl 0⟩
abbrev k_NoKeep (cl : Nat → Addr) : CId := ⟨1, cl 1⟩
abbrev tx_RestsError (cl : Nat → Addr) : List (CId × Bool) := [(k_NoKeep cl, true)]
abbrev tx_NoKeep (cl : Nat → Addr) : List (CId × Bool) := [(k_NoKeep cl, true)]
abbrev xs_path (cl : Nat → Addr) : List CId := [k_NoKeep cl]
noncomputable def b_parts_of (cl : Nat → Addr) : SM := (seqM (asgM (.nm 1) (op2 idxV (varM 0) (conM (.int 0))))
 (seqM (ifM (blM (op2 inVv (varM 1) (opL tupV (consM (conM (.str "number")) (consM (conM (.str "true")) (consM (conM (.str "false")) (consM (conM (.str "none")) (consM (conM (.str "name")) (consM (conM (.str "ask")) nilM)))))))))
 (retM (opL tupV nilM))
 nextM)
 (seqM (ifM (blM (op2 inVv (varM 1) (opL tupV (consM (conM (.str "fn")) (consM (conM (.str "set")) (consM (conM (.str "keep")) (consM (conM (.str "once")) (consM (conM (.str "take")) nilM))))))))
 (retM (opL tupV (consM (op2 idxV (varM 0) (conM (.int 2))) nilM)))
 nextM)
 (seqM (ifM (blM (op2 inVv (varM 1) (opL tupV (consM (conM (.str "let")) (consM (conM (.str "rec")) nilM)))))
 (retM (op2 addV (opL tupOf (consM (lcM (iterM (op2 idxV (varM 0) (conM (.int 1)))) (.tp [(.nm 2), (.nm 3)]) yesM (varM 3) [2, 3]) nilM)) (opL tupV (consM (op2 idxV (varM 0) (conM (.int 2))) nilM))))
 nextM)
 (seqM (ifM (blM (op2 eqV (varM 1) (conM (.str "do"))))
 (retM (op2 idxV (varM 0) (conM (.int 1))))
 nextM)
 (seqM (ifM (blM (op2 eqV (varM 1) (conM (.str "call"))))
 (retM (op2 addV (opL tupV (consM (op2 idxV (varM 0) (conM (.int 1))) nilM)) (op2 idxV (varM 0) (conM (.int 2)))))
 nextM)
 (seqM (ifM (blM (op2 eqV (varM 1) (conM (.str "op"))))
 (retM (op2 idxV (varM 0) (conM (.int 2))))
 nextM)
 (retM (slcM (varM 0) (some (conM (.int 1))) none)))))))))
noncomputable def m_parts_of (cl : Nat → Addr) : List MV → Sto → Res MV := defM 1 4 (b_parts_of cl)
noncomputable def b_with_parts (cl : Nat → Addr) : SM := (seqM (asgM (.nm 2) (opL tupOf (consM (varM 1) nilM)))
 (seqM (asgM (.nm 3) (op2 idxV (varM 0) (conM (.int 0))))
 (seqM (ifM (blM (op2 eqV (varM 2) (opL tupV nilM)))
 (retM (varM 0))
 nextM)
 (seqM (ifM (blM (op2 inVv (varM 3) (opL tupV (consM (conM (.str "fn")) (consM (conM (.str "set")) (consM (conM (.str "keep")) (consM (conM (.str "once")) (consM (conM (.str "take")) nilM))))))))
 (retM (opL tupV (consM (varM 3) (consM (op2 idxV (varM 0) (conM (.int 1))) (consM (op2 idxV (varM 2) (conM (.int 0))) nilM)))))
 nextM)
 (seqM (ifM (blM (op2 inVv (varM 3) (opL tupV (consM (conM (.str "let")) (consM (conM (.str "rec")) nilM)))))
 (seqM (asgM (.nm 4) (opL tupOf (consM (lcM (zipM2 (consM (op2 idxV (varM 0) (conM (.int 1))) (consM (varM 2) nilM))) (.tp [(.nm 5), (.nm 6)]) yesM (opL tupV (consM (op2 idxV (varM 5) (conM (.int 0))) (consM (varM 6) nilM))) [5, 6]) nilM)))
 (retM (opL tupV (consM (varM 3) (consM (varM 4) (consM (op2 idxV (varM 2) (op1 negV (conM (.int 1)))) nilM))))))
 nextM)
 (seqM (ifM (blM (op2 eqV (varM 3) (conM (.str "do"))))
 (retM (opL tupV (consM (conM (.str "do")) (consM (varM 2) nilM))))
 nextM)
 (seqM (ifM (blM (op2 eqV (varM 3) (conM (.str "call"))))
 (retM (opL tupV (consM (conM (.str "call")) (consM (op2 idxV (varM 2) (conM (.int 0))) (consM (slcM (varM 2) (some (conM (.int 1))) none) nilM)))))
 nextM)
 (seqM (ifM (blM (op2 eqV (varM 3) (conM (.str "op"))))
 (retM (opL tupV (consM (conM (.str "op")) (consM (op2 idxV (varM 0) (conM (.int 1))) (consM (varM 2) nilM)))))
 nextM)
 (retM (op2 addV (opL tupV (consM (varM 3) nilM)) (varM 2)))))))))))
noncomputable def m_with_parts (cl : Nat → Addr) : List MV → Sto → Res MV := defM 2 7 (b_with_parts cl)
noncomputable def b__law_parts (cl : Nat → Addr) : SM := (seqM (asgM (.nm 1) (op2 idxV (varM 0) (conM (.int 0))))
 (seqM (ifM (blM (op2 inVv (varM 1) (opL tupV (consM (conM (.str "number")) (consM (conM (.str "true")) (consM (conM (.str "false")) (consM (conM (.str "none")) (consM (conM (.str "name")) (consM (conM (.str "ask")) nilM)))))))))
 (retM (opL lstV nilM))
 nextM)
 (seqM (ifM (blM (op2 inVv (varM 1) (opL tupV (consM (conM (.str "fn")) (consM (conM (.str "set")) (consM (conM (.str "keep")) (consM (conM (.str "once")) (consM (conM (.str "take")) nilM))))))))
 (retM (opL lstV (consM (op2 idxV (varM 0) (conM (.int 2))) nilM)))
 nextM)
 (seqM (ifM (blM (op2 inVv (varM 1) (opL tupV (consM (conM (.str "let")) (consM (conM (.str "rec")) nilM)))))
 (retM (op2 addV (lcM (iterM (op2 idxV (varM 0) (conM (.int 1)))) (.nm 2) yesM (op2 idxV (varM 2) (conM (.int 1))) [2]) (opL lstV (consM (op2 idxV (varM 0) (conM (.int 2))) nilM))))
 nextM)
 (seqM (ifM (blM (op2 eqV (varM 1) (conM (.str "do"))))
 (retM (opL lstOf (consM (op2 idxV (varM 0) (conM (.int 1))) nilM)))
 nextM)
 (seqM (ifM (blM (op2 eqV (varM 1) (conM (.str "call"))))
 (retM (op2 addV (opL lstV (consM (op2 idxV (varM 0) (conM (.int 1))) nilM)) (opL lstOf (consM (op2 idxV (varM 0) (conM (.int 2))) nilM))))
 nextM)
 (seqM (ifM (blM (op2 eqV (varM 1) (conM (.str "op"))))
 (retM (opL lstOf (consM (op2 idxV (varM 0) (conM (.int 2))) nilM)))
 nextM)
 (retM (opL lstOf (consM (slcM (varM 0) (some (conM (.int 1))) none) nilM))))))))))
noncomputable def m__law_parts (cl : Nat → Addr) : List MV → Sto → Res MV := defM 1 3 (b__law_parts cl)
noncomputable def b__law_joined (cl : Nat → Addr) : SM := (seqM (asgM (.nm 2) (op2 idxV (varM 0) (conM (.int 0))))
 (seqM (ifM (blM (op2 inVv (varM 2) (opL tupV (consM (conM (.str "number")) (consM (conM (.str "true")) (consM (conM (.str "false")) (consM (conM (.str "none")) (consM (conM (.str "name")) (consM (conM (.str "ask")) nilM)))))))))
 (retM (varM 0))
 nextM)
 (seqM (ifM (blM (op2 inVv (varM 2) (opL tupV (consM (conM (.str "fn")) (consM (conM (.str "set")) (consM (conM (.str "keep")) (consM (conM (.str "once")) (consM (conM (.str "take")) nilM))))))))
 (retM (opL tupV (consM (varM 2) (consM (op2 idxV (varM 0) (conM (.int 1))) (consM (op2 idxV (varM 1) (conM (.int 0))) nilM)))))
 nextM)
 (seqM (ifM (blM (op2 inVv (varM 2) (opL tupV (consM (conM (.str "let")) (consM (conM (.str "rec")) nilM)))))
 (retM (opL tupV (consM (varM 2) (consM (opL tupOf (consM (lcM (zipM2 (consM (op2 idxV (varM 0) (conM (.int 1))) (consM (varM 1) nilM))) (.tp [(.nm 3), (.nm 4)]) yesM (opL tupV (consM (op2 idxV (varM 3) (conM (.int 0))) (consM (varM 4) nilM))) [3, 4]) nilM)) (consM (op2 idxV (varM 1) (op1 negV (conM (.int 1)))) nilM)))))
 nextM)
 (seqM (ifM (blM (op2 eqV (varM 2) (conM (.str "do"))))
 (retM (opL tupV (consM (varM 2) (consM (opL tupOf (consM (varM 1) nilM)) nilM))))
 nextM)
 (seqM (ifM (blM (op2 eqV (varM 2) (conM (.str "call"))))
 (retM (opL tupV (consM (varM 2) (consM (op2 idxV (varM 1) (conM (.int 0))) (consM (opL tupOf (consM (slcM (varM 1) (some (conM (.int 1))) none) nilM)) nilM)))))
 nextM)
 (seqM (ifM (blM (op2 eqV (varM 2) (conM (.str "op"))))
 (retM (opL tupV (consM (varM 2) (consM (op2 idxV (varM 0) (conM (.int 1))) (consM (opL tupOf (consM (varM 1) nilM)) nilM)))))
 nextM)
 (retM (op2 addV (opL tupV (consM (varM 2) nilM)) (opL tupOf (consM (varM 1) nilM)))))))))))
noncomputable def m__law_joined (cl : Nat → Addr) : List MV → Sto → Res MV := defM 2 5 (b__law_joined cl)
noncomputable def b_tree_at (cl : Nat → Addr) : SM := (seqM (asgM (.nm 2) (varM 0))
 (seqM (forM (iterM (varM 1)) (.nm 3)
 (seqM (asgM (.nm 4) (opL (m_parts_of cl) (consM (varM 2) nilM)))
 (seqM (ifM (notB (blM (chM leV ltV (conM (.int 0)) (varM 3) (opL lenV (consM (varM 4) nilM)))))
 (retM (conM .non))
 nextM)
 (asgM (.nm 2) (op2 idxV (varM 4) (varM 3))))))
 (retM (varM 2))))
noncomputable def m_tree_at (cl : Nat → Addr) : List MV → Sto → Res MV := defM 2 5 (b_tree_at cl)
noncomputable def b__law_any_names (cl : Nat → Addr) : SM := (seqM (asgM (.nm 3) (opL lstV nilM))
 (seqM (forM (iterM (varM 1)) (.nm 4)
 (ifM (blM (op2 notInV (varM 4) (varM 3)))
 (dropM' (bmM "list" appendV (varM 3) (consM (varM 4) nilM)))
 nextM))
 (seqM (asgM (.nm 5) (opL minVl (consM (opL m__law_draw (consM (varM 0) (consM (op2 addV (varM 2) (conM (.int 1))) nilM))) (consM (opL lenV (consM (varM 3) nilM)) nilM))))
 (retM (opL tupOf (consM (lcM (itmM rngO1 (consM (varM 5) nilM)) (.nm 6) yesM (bmM "list" popAtV (varM 3) (consM (opL m__law_draw (consM (varM 0) (consM (opL lenV (consM (varM 3) nilM)) nilM))) nilM)) [6]) nilM))))))
noncomputable def m__law_any_names (cl : Nat → Addr) : List MV → Sto → Res MV := defM 3 7 (b__law_any_names cl)
noncomputable def b__law_any_leaf (cl : Nat → Addr) : SM := (seqM (asgM (.nm 2) (opL m__law_draw (consM (varM 0) (consM (conM (.int 9)) nilM))))
 (seqM (ifM (blM (op2 ltV (varM 2) (conM (.int 3))))
 (retM (opL tupV (consM (conM (.str "name")) (consM (opL m__law_pick (consM (varM 0) (consM (varM 1) nilM))) nilM))))
 nextM)
 (seqM (ifM (blM (op2 ltV (varM 2) (conM (.int 6))))
 (seqM (asgM (.nm 3) (op2 idxV (opL tupV (consM (conM (.int 0)) (consM (op2 powV (conM (.int 10)) (conM (.int 9))) (consM (opL m__law_draw (consM (varM 0) (consM (conM (.int 10)) nilM))) (consM (opL m__law_draw (consM (varM 0) (consM (op2 addV (op2 powV (conM (.int 10)) (conM (.int 9))) (conM (.int 1))) nilM))) nilM))))) (opL m__law_draw (consM (varM 0) (consM (conM (.int 4)) nilM)))))
 (retM (opL tupV (consM (conM (.str "number")) (consM (ifV (blM (op2 eqV (opL m__law_draw (consM (varM 0) (consM (conM (.int 3)) nilM))) (conM (.int 0)))) (op1 negV (varM 3)) (varM 3)) nilM)))))
 nextM)
 (retM (op2 idxV (op2 idxV (opL tupV (consM (opL tupV (consM (opL tupV (consM (conM (.str "true")) nilM)) (consM (opL tupV (consM (conM (.str "false")) nilM)) (consM (opL tupV (consM (conM (.str "none")) nilM)) nilM)))) (consM (opL tupV (consM (opL tupV (consM (conM (.str "ask")) nilM)) (consM (opL tupV (consM (conM (.str "none")) nilM)) (consM (opL tupV (consM (conM (.str "true")) nilM)) nilM)))) nilM))) (opL m__law_draw (consM (varM 0) (consM (conM (.int 2)) nilM)))) (op2 subV (varM 2) (conM (.int 6))))))))
noncomputable def m__law_any_leaf (cl : Nat → Addr) : List MV → Sto → Res MV := defM 2 4 (b__law_any_leaf cl)
noncomputable def b__law_keeps (cl : Nat → Addr) (r__law_keeps : List MV → Sto → Res MV) : SM := (seqM (asgM (.nm 2) (ifV (blM (op2 eqV (op2 idxV (varM 0) (conM (.int 0))) (conM (.str "keep")))) (opL lstV (consM (varM 1) nilM)) (opL lstV nilM)))
 (seqM (forM (enmM2 (consM (opL (m__law_parts cl) (consM (varM 0) nilM)) nilM)) (.tp [(.nm 3), (.nm 4)])
 (asgM (.nm 2) (op2 addV (varM 2) (opL r__law_keeps (consM (varM 4) (consM (op2 addV (varM 1) (opL tupV (consM (varM 3) nilM))) nilM))))))
 (retM (varM 2))))
noncomputable def R__law_keeps (cl : Nat → Addr) : Nat → Nat → List MV → Sto → Res MV
  | 0, _ => fun _ _ => .bad
  | n + 1, 0 => defM 2 5 (b__law_keeps cl (R__law_keeps cl n 0))
  | _ + 1, _ + 1 => fun _ _ => .bad
noncomputable def m__law_keeps (cl : Nat → Addr) (n : Nat) : List MV → Sto → Res MV := R__law_keeps cl n 0
theorem m__law_keeps_s (cl : Nat → Addr) (n : Nat) : m__law_keeps cl (n + 1) = defM 2 5 (b__law_keeps cl (m__law_keeps cl n)) := rfl
noncomputable def b__law_paths (cl : Nat → Addr) (r__law_paths : List MV → Sto → Res MV) : SM := (seqM (asgM (.nm 2) (opL lstV (consM (varM 1) nilM)))
 (seqM (forM (enmM2 (consM (opL (m__law_parts cl) (consM (varM 0) nilM)) nilM)) (.tp [(.nm 3), (.nm 4)])
 (asgM (.nm 2) (op2 addV (varM 2) (opL r__law_paths (consM (varM 4) (consM (op2 addV (varM 1) (opL tupV (consM (varM 3) nilM))) nilM))))))
 (retM (varM 2))))
noncomputable def R__law_paths (cl : Nat → Addr) : Nat → Nat → List MV → Sto → Res MV
  | 0, _ => fun _ _ => .bad
  | n + 1, 0 => defM 2 5 (b__law_paths cl (R__law_paths cl n 0))
  | _ + 1, _ + 1 => fun _ _ => .bad
noncomputable def m__law_paths (cl : Nat → Addr) (n : Nat) : List MV → Sto → Res MV := R__law_paths cl n 0
theorem m__law_paths_s (cl : Nat → Addr) (n : Nat) : m__law_paths cl (n + 1) = defM 2 5 (b__law_paths cl (m__law_paths cl n)) := rfl
noncomputable def b__law_worded (cl : Nat → Addr) (r__law_worded : List MV → Sto → Res MV) : SM := (seqM (asgM (.nm 4) (ifV (andB (blM (op2 inDV (varM 1) (varM 2))) (blM (op2 eqV (op2 idxV (varM 0) (conM (.int 0))) (conM (.str "keep"))))) (varM 3) (op2 idxV (varM 0) (conM (.int 0)))))
 (seqM (asgM (.nm 5) (lcM (enmM2 (consM (opL (m__law_parts cl) (consM (varM 0) nilM)) nilM)) (.tp [(.nm 6), (.nm 7)]) yesM (opL r__law_worded (consM (varM 7) (consM (op2 addV (varM 1) (opL tupV (consM (varM 6) nilM))) (consM (varM 2) (consM (varM 3) nilM))))) [6, 7]))
 (retM (op2 addV (opL tupV (consM (varM 4) nilM)) (slcM (opL (m__law_joined cl) (consM (varM 0) (consM (varM 5) nilM))) (some (conM (.int 1))) none)))))
noncomputable def R__law_worded (cl : Nat → Addr) : Nat → Nat → List MV → Sto → Res MV
  | 0, _ => fun _ _ => .bad
  | n + 1, 0 => defM 4 8 (b__law_worded cl (R__law_worded cl n 0))
  | _ + 1, _ + 1 => fun _ _ => .bad
noncomputable def m__law_worded (cl : Nat → Addr) (n : Nat) : List MV → Sto → Res MV := R__law_worded cl n 0
theorem m__law_worded_s (cl : Nat → Addr) (n : Nat) : m__law_worded cl (n + 1) = defM 4 8 (b__law_worded cl (m__law_worded cl n)) := rfl
noncomputable def b_tree_paths (cl : Nat → Addr) (r_tree_paths : List MV → Sto → Res MV) : SM := (seqM (asgM (.nm 1) (opL lstV (consM (opL tupV nilM) nilM)))
 (seqM (forM (enmM2 (consM (opL (m_parts_of cl) (consM (varM 0) nilM)) nilM)) (.tp [(.nm 2), (.nm 3)])
 (dropM' (bmM "list" extendV (varM 1) (consM (lcM (iterM (opL r_tree_paths (consM (varM 3) nilM))) (.nm 4) yesM (op2 addV (opL tupV (consM (varM 2) nilM)) (varM 4)) [4]) nilM))))
 (retM (opL tupOf (consM (varM 1) nilM)))))
noncomputable def R_tree_paths (cl : Nat → Addr) : Nat → Nat → List MV → Sto → Res MV
  | 0, _ => fun _ _ => .bad
  | n + 1, 0 => defM 1 5 (b_tree_paths cl (R_tree_paths cl n 0))
  | _ + 1, _ + 1 => fun _ _ => .bad
noncomputable def m_tree_paths (cl : Nat → Addr) (n : Nat) : List MV → Sto → Res MV := R_tree_paths cl n 0
theorem m_tree_paths_s (cl : Nat → Addr) (n : Nat) : m_tree_paths cl (n + 1) = defM 1 5 (b_tree_paths cl (m_tree_paths cl n)) := rfl
noncomputable def b_tree_with (cl : Nat → Addr) (r_tree_with : List MV → Sto → Res MV) : SM := (seqM (ifM (blM (op2 eqV (opL lenV (consM (varM 1) nilM)) (conM (.int 0))))
 (retM (varM 2))
 nextM)
 (seqM (asgM (.nm 3) (opL lstOf (consM (opL (m_parts_of cl) (consM (varM 0) nilM)) nilM)))
 (seqM (setM setV (varM 3) (op2 idxV (varM 1) (conM (.int 0))) (opL r_tree_with (consM (op2 idxV (varM 3) (op2 idxV (varM 1) (conM (.int 0)))) (consM (slcM (varM 1) (some (conM (.int 1))) none) (consM (varM 2) nilM)))))
 (retM (opL (m_with_parts cl) (consM (varM 0) (consM (varM 3) nilM)))))))
noncomputable def R_tree_with (cl : Nat → Addr) : Nat → Nat → List MV → Sto → Res MV
  | 0, _ => fun _ _ => .bad
  | n + 1, 0 => defM 3 4 (b_tree_with cl (R_tree_with cl n 0))
  | _ + 1, _ + 1 => fun _ _ => .bad
noncomputable def m_tree_with (cl : Nat → Addr) (n : Nat) : List MV → Sto → Res MV := R_tree_with cl n 0
theorem m_tree_with_s (cl : Nat → Addr) (n : Nat) : m_tree_with cl (n + 1) = defM 3 4 (b_tree_with cl (m_tree_with cl n)) := rfl
noncomputable def b_keep_paths (cl : Nat → Addr) : SM := (retM (opL tupOf (consM (lcM (iterM (opL (m_tree_paths cl 24) (consM (varM 0) nilM))) (.nm 1) (blM (op2 eqV (op2 idxV (opL (m_tree_at cl) (consM (varM 0) (consM (varM 1) nilM))) (conM (.int 0))) (conM (.str "keep")))) (varM 1) [1]) nilM)))
noncomputable def m_keep_paths (cl : Nat → Addr) : List MV → Sto → Res MV := defM 1 2 (b_keep_paths cl)
noncomputable def b_with_once (cl : Nat → Addr) : SM := (seqM (asgM (.nm 2) (opL (m_keep_paths cl) (consM (varM 0) nilM)))
 (seqM (forM (iterM (varM 1)) (.nm 3)
 (ifM (blM (op2 notInDV (opL tupOf (consM (varM 3) nilM)) (varM 2)))
 (raiseM (k_NoKeep cl) ["path"] (consM (opL tupOf (consM (varM 3) nilM)) nilM))
 nextM))
 (seqM (asgM (.nm 4) (varM 0))
 (seqM (forM (iterM (varM 1)) (.nm 3)
 (asgM (.nm 4) (opL (m_tree_with cl 24) (consM (varM 4) (consM (opL tupOf (consM (varM 3) nilM)) (consM (op2 addV (opL tupV (consM (conM (.str "once")) nilM)) (slcM (opL (m_tree_at cl) (consM (varM 4) (consM (opL tupOf (consM (varM 3) nilM)) nilM))) (some (conM (.int 1))) none)) nilM))))))
 (retM (varM 4))))))
noncomputable def m_with_once (cl : Nat → Addr) : List MV → Sto → Res MV := defM 2 5 (b_with_once cl)
noncomputable def b__law_refused (cl : Nat → Addr) : SM := (seqM (asgM (.nm 2) (conM .non))
 (seqM (tryAs (tx_RestsError cl) 3 (dropM' (opL (m_with_once cl) (consM (varM 0) (consM (varM 1) nilM))))
 (asgM (.nm 2) (varM 3)))
 (seqM (ifM (blM (op2 isNV (varM 2) (conM .non)))
 (retM (conM .non))
 nextM)
 (retM (ifV (truM (opL (isXL (k_NoKeep cl) (tx_NoKeep cl)) (consM (varM 2) (consM (conM (.obj (cl 1))) nilM)))) (op1 (xfV (xs_path cl) "path") (varM 2)) (conM (.str "other")))))))
noncomputable def m__law_refused (cl : Nat → Addr) : List MV → Sto → Res MV := defM 2 4 (b__law_refused cl)
noncomputable def b__law_any_fun (cl : Nat → Addr) (r__law_any_fun r__law_any : List MV → Sto → Res MV) : SM := (seqM (asgM (.nm 5) (opL (m__law_any_names cl) (consM (varM 0) (consM (varM 2) (consM (varM 4) nilM)))))
 (retM (opL tupV (consM (conM (.str "fn")) (consM (varM 5) (consM (opL r__law_any (consM (varM 0) (consM (op2 subV (varM 1) (conM (.int 1))) (consM (varM 2) (consM (varM 3) nilM))))) nilM))))))
noncomputable def b__law_any (cl : Nat → Addr) (r__law_any_fun r__law_any : List MV → Sto → Res MV) : SM := (seqM (ifM (orB (blM (op2 leV (varM 1) (conM (.int 0)))) (blM (op2 leV (op2 idxV (varM 3) (conM (.int 0))) (conM (.int 0)))))
 (retM (opL (m__law_any_leaf cl) (consM (varM 0) (consM (varM 2) nilM))))
 nextM)
 (seqM (setM setV (varM 3) (conM (.int 0)) (op2 subV (op2 idxV (varM 3) (conM (.int 0))) (conM (.int 1))))
 (seqM (asgM (.nm 4) (opL m__law_pick (consM (varM 0) (consM (opL tupV (consM (conM (.str "fn")) (consM (conM (.str "let")) (consM (conM (.str "rec")) (consM (conM (.str "set")) (consM (conM (.str "if")) (consM (conM (.str "do")) (consM (conM (.str "call")) (consM (conM (.str "op")) (consM (conM (.str "op")) (consM (conM (.str "keep")) (consM (conM (.str "once")) (consM (conM (.str "take")) (consM (conM (.str "mark")) (consM (conM (.str "wind")) (consM (conM (.str "show")) (consM (conM (.str "call")) nilM))))))))))))))))) nilM))))
 (seqM (ifM (blM (op2 eqV (varM 4) (conM (.str "fn"))))
 (retM (opL r__law_any_fun (consM (varM 0) (consM (varM 1) (consM (varM 2) (consM (varM 3) (consM (conM (.int 8)) nilM)))))))
 nextM)
 (seqM (ifM (blM (op2 inVv (varM 4) (opL tupV (consM (conM (.str "let")) (consM (conM (.str "rec")) nilM)))))
 (seqM (asgM (.nm 5) (opL (m__law_any_names cl) (consM (varM 0) (consM (varM 2) (consM (conM (.int 3)) nilM)))))
 (seqM (ifM (blM (op2 eqV (varM 5) (opL tupV nilM)))
 (asgM (.nm 5) (slcM (varM 2) none (some (conM (.int 1)))))
 nextM)
 (seqM (ifM (blM (op2 eqV (varM 4) (conM (.str "let"))))
 (asgM (.nm 6) (lcM (iterM (varM 5)) (.nm 11) yesM (opL tupV (consM (varM 11) (consM (opL r__law_any (consM (varM 0) (consM (op2 subV (varM 1) (conM (.int 1))) (consM (varM 2) (consM (varM 3) nilM))))) nilM))) [11]))
 (asgM (.nm 6) (lcM (iterM (slcM (varM 5) none (some (conM (.int 2))))) (.nm 11) yesM (opL tupV (consM (varM 11) (consM (opL r__law_any_fun (consM (varM 0) (consM (varM 1) (consM (varM 2) (consM (varM 3) (consM (conM (.int 2)) nilM)))))) nilM))) [11])))
 (retM (opL tupV (consM (varM 4) (consM (opL tupOf (consM (varM 6) nilM)) (consM (opL r__law_any (consM (varM 0) (consM (op2 subV (varM 1) (conM (.int 1))) (consM (varM 2) (consM (varM 3) nilM))))) nilM))))))))
 nextM)
 (seqM (ifM (blM (op2 inVv (varM 4) (opL tupV (consM (conM (.str "set")) (consM (conM (.str "keep")) (consM (conM (.str "once")) (consM (conM (.str "take")) nilM)))))))
 (retM (opL tupV (consM (varM 4) (consM (opL m__law_pick (consM (varM 0) (consM (varM 2) nilM))) (consM (opL r__law_any (consM (varM 0) (consM (op2 subV (varM 1) (conM (.int 1))) (consM (varM 2) (consM (varM 3) nilM))))) nilM)))))
 nextM)
 (seqM (ifM (blM (op2 eqV (varM 4) (conM (.str "op"))))
 (seqM (asgM (.nm 7) (opL m__law_pick (consM (varM 0) (consM (opL tupV (consM (conM (.str "+")) (consM (conM (.str "-")) (consM (conM (.str "*")) (consM (conM (.str "quot")) (consM (conM (.str "rem")) (consM (conM (.str "<")) (consM (conM (.str "=")) (consM (conM (.str "same?")) (consM (conM (.str "pair")) (consM (conM (.str "left!")) (consM (conM (.str "right!")) (consM (conM (.str "left")) (consM (conM (.str "right")) (consM (conM (.str "pair?")) (consM (conM (.str "none?")) (consM (conM (.str "rest?")) (consM (conM (.str "fun?")) nilM)))))))))))))))))) nilM))))
 (seqM (asgM (.nm 8) (ifV (blM (op2 inVv (varM 7) (opL tupV (consM (conM (.str "left")) (consM (conM (.str "right")) (consM (conM (.str "pair?")) (consM (conM (.str "none?")) (consM (conM (.str "rest?")) (consM (conM (.str "fun?")) nilM))))))))) (conM (.int 1)) (conM (.int 2))))
 (retM (opL tupV (consM (conM (.str "op")) (consM (varM 7) (consM (opL tupOf (consM (lcM (itmM rngO1 (consM (varM 8) nilM)) (.nm 12) yesM (opL r__law_any (consM (varM 0) (consM (op2 subV (varM 1) (conM (.int 1))) (consM (varM 2) (consM (varM 3) nilM))))) [12]) nilM)) nilM)))))))
 nextM)
 (seqM (ifM (blM (op2 eqV (varM 4) (conM (.str "call"))))
 (seqM (asgM (.nm 9) (opL r__law_any (consM (varM 0) (consM (op2 subV (varM 1) (conM (.int 1))) (consM (varM 2) (consM (varM 3) nilM))))))
 (retM (opL tupV (consM (conM (.str "call")) (consM (varM 9) (consM (opL tupOf (consM (lcM (itmM rngO1 (consM (op2 idxV (opL tupV (consM (conM (.int 0)) (consM (conM (.int 1)) (consM (conM (.int 2)) (consM (conM (.int 10)) nilM))))) (opL m__law_draw (consM (varM 0) (consM (conM (.int 4)) nilM)))) nilM)) (.nm 12) yesM (opL r__law_any (consM (varM 0) (consM (op2 subV (varM 1) (conM (.int 1))) (consM (varM 2) (consM (varM 3) nilM))))) [12]) nilM)) nilM))))))
 nextM)
 (seqM (asgM (.nm 8) (op2 idxV (dispM [("if", (conM (.int 3))), ("do", (op2 idxV (opL tupV (consM (conM (.int 1)) (consM (conM (.int 2)) (consM (conM (.int 3)) (consM (conM (.int 10)) nilM))))) (opL m__law_draw (consM (varM 0) (consM (conM (.int 4)) nilM))))), ("mark", (conM (.int 1))), ("wind", (conM (.int 3))), ("show", (conM (.int 1)))]) (varM 4)))
 (seqM (asgM (.nm 10) (opL tupOf (consM (lcM (itmM rngO1 (consM (varM 8) nilM)) (.nm 12) yesM (opL r__law_any (consM (varM 0) (consM (op2 subV (varM 1) (conM (.int 1))) (consM (varM 2) (consM (varM 3) nilM))))) [12]) nilM)))
 (retM (ifV (blM (op2 eqV (varM 4) (conM (.str "do")))) (opL tupV (consM (conM (.str "do")) (consM (varM 10) nilM))) (op2 addV (opL tupV (consM (varM 4) nilM)) (varM 10))))))))))))))
noncomputable def R__law_any_fun (cl : Nat → Addr) : Nat → Nat → List MV → Sto → Res MV
  | 0, _ => fun _ _ => .bad
  | n + 1, 0 => defM 5 6 (b__law_any_fun cl (R__law_any_fun cl n 0) (R__law_any_fun cl n 1))
  | n + 1, 1 => defM 4 13 (b__law_any cl (R__law_any_fun cl n 0) (R__law_any_fun cl n 1))
  | _ + 1, _ + 2 => fun _ _ => .bad
noncomputable def m__law_any_fun (cl : Nat → Addr) (n : Nat) : List MV → Sto → Res MV := R__law_any_fun cl n 0
noncomputable def m__law_any (cl : Nat → Addr) (n : Nat) : List MV → Sto → Res MV := R__law_any_fun cl n 1
theorem m__law_any_fun_s (cl : Nat → Addr) (n : Nat) : m__law_any_fun cl (n + 1) = defM 5 6 (b__law_any_fun cl (m__law_any_fun cl n) (m__law_any cl n)) := rfl
theorem m__law_any_s (cl : Nat → Addr) (n : Nat) : m__law_any cl (n + 1) = defM 4 13 (b__law_any cl (m__law_any_fun cl n) (m__law_any cl n)) := rfl
noncomputable def b_law (cl : Nat → Addr) : SM := (seqM (asgM (.nm 1) (opL m__law_hand (consM (varM 0) nilM)))
 (seqM (asgM (.nm 2) (opL tupV (consM (conM (.str "a")) (consM (conM (.str "b")) (consM (conM (.str "kept")) (consM (conM (.str "v0")) nilM))))))
 (seqM (asgM (.nm 3) (opL (m__law_any cl 24) (consM (varM 1) (consM (conM (.int 3)) (consM (varM 2) (consM (opL lstV (consM (conM (.int 14)) nilM)) nilM))))))
 (seqM (asgM (.nm 4) (varM 3))
 (seqM (ifM (blM (op2 eqV (opL m__law_draw (consM (varM 1) (consM (conM (.int 2)) nilM))) (conM (.int 0))))
 (asgM (.nm 4) (opL tupV (consM (conM (.str "keep")) (consM (conM (.str "b")) (consM (opL tupV (consM (conM (.str "do")) (consM (opL tupV (consM (opL tupV (consM (conM (.str "number")) (consM (conM (.int 3)) nilM))) (consM (opL tupV (consM (conM (.str "keep")) (consM (conM (.str "a")) (consM (varM 3) nilM)))) (consM (varM 3) nilM)))) nilM))) nilM)))))
 nextM)
 (seqM (asgM (.nm 5) (opL (m__law_keeps cl 24) (consM (varM 4) (consM (opL tupV nilM) nilM))))
 (seqM (asgM (.nm 6) (opL (m_keep_paths cl) (consM (varM 4) nilM)))
 (seqM (ifM (orB (blM (op2 neV (varM 6) (opL tupOf (consM (varM 5) nilM)))) (notB (truM (opL isiV (consM (varM 6) (consM (conM (.ty "tuple")) nilM))))))
 (retM (conM (.bl false)))
 nextM)
 (seqM (asgM (.nm 7) (lcM (iterM (varM 5)) (.nm 16) (blM (op2 eqV (opL m__law_draw (consM (varM 1) (consM (conM (.int 2)) nilM))) (conM (.int 0)))) (varM 16) [16]))
 (seqM (ifM (andB (blM (op2 gtV (opL lenV (consM (varM 7) nilM)) (conM (.int 0)))) (blM (op2 eqV (opL m__law_draw (consM (varM 1) (consM (conM (.int 2)) nilM))) (conM (.int 0)))))
 (dropM' (bmM "list" appendV (varM 7) (consM (op2 idxV (varM 7) (conM (.int 0))) nilM)))
 nextM)
 (seqM (asgM (.nm 8) (opL (m__law_worded cl 24) (consM (varM 4) (consM (opL tupV nilM) (consM (varM 7) (consM (conM (.str "once")) nilM))))))
 (seqM (asgM (.nm 9) (lcM (iterM (varM 7)) (.nm 16) yesM (ifV (blM (op2 eqV (opL m__law_draw (consM (varM 1) (consM (conM (.int 2)) nilM))) (conM (.int 0)))) (opL lstOf (consM (varM 16) nilM)) (varM 16)) [16]))
 (seqM (ifM (orB (blM (op2 neV (opL (m_with_once cl) (consM (varM 4) (consM (varM 9) nilM))) (varM 8))) (orB (blM (op2 neV (lcM (iterM (varM 9)) (.nm 16) yesM (opL tupOf (consM (varM 16) nilM)) [16]) (varM 7))) (blM (op2 neV (opL (m_with_once cl) (consM (varM 4) (consM (opL tupOf (consM (varM 7) nilM)) nilM))) (varM 8)))))
 (retM (conM (.bl false)))
 nextM)
 (seqM (asgM (.nm 10) (opL (m_keep_paths cl) (consM (varM 8) nilM)))
 (seqM (ifM (orB (blM (op2 neV (varM 10) (opL tupOf (consM (lcM (iterM (varM 5)) (.nm 16) (blM (op2 notInDV (varM 16) (varM 7))) (varM 16) [16]) nilM)))) (blM (op2 neV (opL (m_with_once cl) (consM (varM 4) (consM (opL lstV nilM) nilM))) (varM 4))))
 (retM (conM (.bl false)))
 nextM)
 (seqM (asgM (.nm 11) (lcM (iterM (opL (m__law_paths cl 24) (consM (varM 4) (consM (opL tupV nilM) nilM)))) (.nm 16) (blM (op2 notInDV (varM 16) (varM 5))) (varM 16) [16]))
 (seqM (asgM (.nm 12) (ifV (blM (op2 gtV (opL lenV (consM (varM 11) nilM)) (conM (.int 0)))) (opL lstV (consM (op2 idxV (varM 11) (opL m__law_draw (consM (varM 1) (consM (opL lenV (consM (varM 11) nilM)) nilM)))) nilM)) (opL lstV nilM)))
 (seqM (asgM (.nm 12) (op2 addV (varM 12) (opL lstV (consM (op2 repTV (opL tupV (consM (conM (.int 0)) nilM)) (conM (.int 31))) (consM (opL tupV (consM (op1 negV (conM (.int 1))) nilM)) (consM (opL tupV (consM (conM (.int 11)) nilM)) (consM (ifV (blM (op2 gtV (opL lenV (consM (varM 5) nilM)) (conM (.int 0)))) (op2 addV (op2 idxV (varM 5) (conM (.int 0))) (opL tupV (consM (conM (.int 99)) nilM))) (opL tupV (consM (conM (.int 99)) nilM))) nilM)))))))
 (seqM (asgM (.nm 13) (op2 idxV (varM 12) (opL m__law_draw (consM (varM 1) (consM (opL lenV (consM (varM 12) nilM)) nilM)))))
 (seqM (asgM (.nm 14) (op2 idxV (varM 12) (opL m__law_draw (consM (varM 1) (consM (opL lenV (consM (varM 12) nilM)) nilM)))))
 (seqM (asgM (.nm 15) (opL m__law_draw (consM (varM 1) (consM (op2 addV (opL lenV (consM (varM 7) nilM)) (conM (.int 1))) nilM))))
 (seqM (ifM (blM (op2 neV (opL (m__law_refused cl) (consM (varM 4) (consM (op2 addV (op2 addV (op2 addV (slcM (varM 7) none (some (varM 15))) (opL lstV (consM (opL lstOf (consM (varM 13) nilM)) nilM))) (slcM (varM 7) (some (varM 15)) none)) (opL lstV (consM (varM 14) nilM))) nilM))) (varM 13)))
 (retM (conM (.bl false)))
 nextM)
 (retM (andV (op2 eqV (opL (m_with_once cl) (consM (varM 4) (consM (varM 7) nilM))) (varM 8)) (orV (op2 eqV (varM 7) (opL lstV nilM)) (op2 eqV (opL (m__law_refused cl) (consM (varM 8) (consM (varM 7) nilM))) (op2 idxV (varM 7) (conM (.int 0)))))))))))))))))))))))))))))
noncomputable def m_law (cl : Nat → Addr) : List MV → Sto → Res MV := defM 1 17 (b_law cl)
end Law
end

section
/-! ### the walk, printed by gen.py -/
namespace Law
open PySem L2 Mm

def top (i : Nat) : Stmt := PySem.Challenge.pw_goonagain_k26_once_in_the_place_of_keep.main.body.getD i (.Pass ⟨0, 0, 0, 0⟩)
abbrev s_parts_of : Stmt := top 4
abbrev s_with_parts : Stmt := top 5
abbrev s_tree_at : Stmt := top 6
abbrev s_tree_with : Stmt := top 7
abbrev s_tree_paths : Stmt := top 8
abbrev s_keep_paths : Stmt := top 10
abbrev s_with_once : Stmt := top 11
abbrev s__law_mix : Stmt := top 13
abbrev s__law_hand : Stmt := top 14
abbrev s__law_draw : Stmt := top 15
abbrev s__law_pick : Stmt := top 16
abbrev s__law_any_leaf : Stmt := top 17
abbrev s__law_any_names : Stmt := top 18
abbrev s__law_any_fun : Stmt := top 19
abbrev s__law_any : Stmt := top 20
abbrev s__law_parts : Stmt := top 21
abbrev s__law_keeps : Stmt := top 22
abbrev s__law_worded : Stmt := top 23
abbrev s__law_joined : Stmt := top 24
abbrev s__law_paths : Stmt := top 25
abbrev s__law_refused : Stmt := top 26
abbrev s_law : Stmt := top 27
theorem bt_tuple : bootBuiltins "tuple" = some (.type "tuple") := by decide +kernel
theorem bt_zip : bootBuiltins "zip" = some (.type "zip") := by decide +kernel
theorem bt_len : bootBuiltins "len" = some (.builtin "len") := by decide +kernel
theorem bt_list : bootBuiltins "list" = some (.type "list") := by decide +kernel
theorem bt_enumerate : bootBuiltins "enumerate" = some (.type "enumerate") := by decide +kernel
theorem bt_int : bootBuiltins "int" = some (.type "int") := by decide +kernel
theorem bt_abs : bootBuiltins "abs" = some (.builtin "abs") := by decide +kernel
theorem bt_min : bootBuiltins "min" = some (.builtin "min") := by decide +kernel
theorem bt_range : bootBuiltins "range" = some (.type "range") := by decide +kernel
theorem bt_isinstance : bootBuiltins "isinstance" = some (.builtin "isinstance") := by decide +kernel
structure Txt (K : PySem.W.Frag) (mg : Str → Option Value) (cl : Nat → Addr) : Type where
  kk_RestsError : mg "RestsError" = some (.ref (cl 0))
  kk_NoKeep : mg "NoKeep" = some (.ref (cl 1))
  t_RestsError : ∀ p ∈ tx_RestsError cl, PySem.W.exmOne K (.ref p.1.ad) (.ref (cl 0)) = some p.2
  ix_NoKeep : IsXOk K (k_NoKeep cl) (tx_NoKeep cl)
  x_path : ∀ C ∈ xs_path cl, XfOk K C "path"
  z_tuple : mg "tuple" = none
  z_zip : mg "zip" = none
  z_len : mg "len" = none
  z_list : mg "list" = none
  z_enumerate : mg "enumerate" = none
  z_int : mg "int" = none
  z_abs : mg "abs" = none
  z_min : mg "min" = none
  z_range : mg "range" = none
  z_isinstance : mg "isinstance" = none
abbrev s_NoKeep___init__ : Stmt := inClass (top 2) 0
theorem sc_NoKeep___init__ : FnScope ["self", "path"] ["self", "path"] (defScope s_NoKeep___init__) := ⟨rfl, rfl, rfl, by decide +kernel, rfl, by decide +kernel, by decide +kernel⟩
section
variable {P : Program} {w : World} {K : PySem.W.Frag} {mg : Str → Option Value} {base : Heap} {cl : Nat → Addr}
abbrev N_parts_of : List Str := ["tree", "word", "named", "right"]
theorem sc_parts_of : FnScope N_parts_of ["tree"] (defScope s_parts_of) := ⟨rfl, rfl, rfl, by decide +kernel, rfl, by decide +kernel, by decide +kernel⟩
theorem ok_parts_of (T : Txt K mg cl)  {f : Addr} {fd : FuncData} (F : DefAt K mg "parts_of" s_parts_of f fd ["tree"]) : FnG P w K mg base 1 f fd ["tree"] (spM K (m_parts_of cl)) :=
  okG F.fn sc_parts_of fun cdv A outer s H E hr gd tk hp => (ms_cons (ms_set sc_parts_of.nd (mp_idx (hu_of hr) (mp_var 0) mp_int))
 (ms_cons (ms_if (mt_cmp (op_inV (hu_of hr)) inV_ok (mp_var 1) (mp_tup (mp_cons mp_str (mp_cons mp_str (mp_cons mp_str (mp_cons mp_str (mp_cons mp_str (mp_cons mp_str mp_nil))))))))
 (ms_one (ms_ret (mp_tup mp_nil)))
 ms_nil)
 (ms_cons (ms_if (mt_cmp (op_inV (hu_of hr)) inV_ok (mp_var 1) (mp_tup (mp_cons mp_str (mp_cons mp_str (mp_cons mp_str (mp_cons mp_str (mp_cons mp_str mp_nil)))))))
 (ms_one (ms_ret (mp_tup (mp_cons (mp_idx (hu_of hr) (mp_var 0) mp_int) mp_nil))))
 ms_nil)
 (ms_cons (ms_if (mt_cmp (op_inV (hu_of hr)) inV_ok (mp_var 1) (mp_tup (mp_cons mp_str (mp_cons mp_str mp_nil))))
 (ms_one (ms_ret (mp_op op_addV addV_ok (mp_callTy call_tuple_of tupOf_ok rfl T.z_tuple bt_tuple (mp_cons (mp_lc (own := [("named", 2), ("right", 3)]) rfl sc_parts_of.nd (mi_seq (mp_idx (hu_of hr) (mp_var 0) mp_int)) (blkOk_by (N := N_parts_of) (sc := defScope s_parts_of) (by decide +kernel)) (by decide) (fun _ _ _ _ _ => (mg_tup rfl (mg_cons (mg_name sc_parts_of.nd) (mg_cons (mg_name sc_parts_of.nd) mg_nil)))) (fun _ _ _ _ _ => mts_nil) (fun _ _ _ _ _ => (mp_var 3))) mp_nil)) (mp_tup (mp_cons (mp_idx (hu_of hr) (mp_var 0) mp_int) mp_nil)))))
 ms_nil)
 (ms_cons (ms_if (mt_cmp (op_eqM hr.units) eqV_ok (mp_var 1) mp_str)
 (ms_one (ms_ret (mp_idx (hu_of hr) (mp_var 0) mp_int)))
 ms_nil)
 (ms_cons (ms_if (mt_cmp (op_eqM hr.units) eqV_ok (mp_var 1) mp_str)
 (ms_one (ms_ret (mp_op op_addV addV_ok (mp_tup (mp_cons (mp_idx (hu_of hr) (mp_var 0) mp_int) mp_nil)) (mp_idx (hu_of hr) (mp_var 0) mp_int))))
 ms_nil)
 (ms_cons (ms_if (mt_cmp (op_eqM hr.units) eqV_ok (mp_var 1) mp_str)
 (ms_one (ms_ret (mp_idx (hu_of hr) (mp_var 0) mp_int)))
 ms_nil)
 (ms_one (ms_ret (mp_slice (mp_var 0) (mp_psome mp_int) mp_pno))))))))))
abbrev N_with_parts : List Str := ["tree", "parts", "found", "word", "bindings", "pair", "right"]
theorem sc_with_parts : FnScope N_with_parts ["tree", "parts"] (defScope s_with_parts) := ⟨rfl, rfl, rfl, by decide +kernel, rfl, by decide +kernel, by decide +kernel⟩
theorem ok_with_parts (T : Txt K mg cl)  {f : Addr} {fd : FuncData} (F : DefAt K mg "with_parts" s_with_parts f fd ["tree", "parts"]) : FnG P w K mg base 1 f fd ["tree", "parts"] (spM K (m_with_parts cl)) :=
  okG F.fn sc_with_parts fun cdv A outer s H E hr gd tk hp => (ms_cons (ms_set sc_with_parts.nd (mp_callTy call_tuple_of tupOf_ok rfl T.z_tuple bt_tuple (mp_cons (mp_var 1) mp_nil)))
 (ms_cons (ms_set sc_with_parts.nd (mp_idx (hu_of hr) (mp_var 0) mp_int))
 (ms_cons (ms_if (mt_cmp (op_eqM hr.units) eqV_ok (mp_var 2) (mp_tup mp_nil))
 (ms_one (ms_ret (mp_var 0)))
 ms_nil)
 (ms_cons (ms_if (mt_cmp (op_inV (hu_of hr)) inV_ok (mp_var 3) (mp_tup (mp_cons mp_str (mp_cons mp_str (mp_cons mp_str (mp_cons mp_str (mp_cons mp_str mp_nil)))))))
 (ms_one (ms_ret (mp_tup (mp_cons (mp_var 3) (mp_cons (mp_idx (hu_of hr) (mp_var 0) mp_int) (mp_cons (mp_idx (hu_of hr) (mp_var 2) mp_int) mp_nil))))))
 ms_nil)
 (ms_cons (ms_if (mt_cmp (op_inV (hu_of hr)) inV_ok (mp_var 3) (mp_tup (mp_cons mp_str (mp_cons mp_str mp_nil))))
 (ms_cons (ms_set sc_with_parts.nd (mp_callTy call_tuple_of tupOf_ok rfl T.z_tuple bt_tuple (mp_cons (mp_lc (own := [("pair", 5), ("right", 6)]) rfl sc_with_parts.nd (mi_zip2 rfl T.z_zip (mp_cons (mp_idx (hu_of hr) (mp_var 0) mp_int) (mp_cons (mp_var 2) mp_nil))) (blkOk_by (N := N_with_parts) (sc := defScope s_with_parts) (by decide +kernel)) (by decide) (fun _ _ _ _ _ => (mg_tup rfl (mg_cons (mg_name sc_with_parts.nd) (mg_cons (mg_name sc_with_parts.nd) mg_nil)))) (fun _ _ _ _ _ => mts_nil) (fun _ _ _ _ _ => (mp_tup (mp_cons (mp_idx (hu_of hr) (mp_var 5) mp_int) (mp_cons (mp_var 6) mp_nil))))) mp_nil)))
 (ms_one (ms_ret (mp_tup (mp_cons (mp_var 3) (mp_cons (mp_var 4) (mp_cons (mp_idx (hu_of hr) (mp_var 2) (mp_un un_neg negV_ok mp_int)) mp_nil)))))))
 ms_nil)
 (ms_cons (ms_if (mt_cmp (op_eqM hr.units) eqV_ok (mp_var 3) mp_str)
 (ms_one (ms_ret (mp_tup (mp_cons mp_str (mp_cons (mp_var 2) mp_nil)))))
 ms_nil)
 (ms_cons (ms_if (mt_cmp (op_eqM hr.units) eqV_ok (mp_var 3) mp_str)
 (ms_one (ms_ret (mp_tup (mp_cons mp_str (mp_cons (mp_idx (hu_of hr) (mp_var 2) mp_int) (mp_cons (mp_slice (mp_var 2) (mp_psome mp_int) mp_pno) mp_nil))))))
 ms_nil)
 (ms_cons (ms_if (mt_cmp (op_eqM hr.units) eqV_ok (mp_var 3) mp_str)
 (ms_one (ms_ret (mp_tup (mp_cons mp_str (mp_cons (mp_idx (hu_of hr) (mp_var 0) mp_int) (mp_cons (mp_var 2) mp_nil))))))
 ms_nil)
 (ms_one (ms_ret (mp_op op_addV addV_ok (mp_tup (mp_cons (mp_var 3) mp_nil)) (mp_var 2))))))))))))
abbrev N__law_mix : List Str := ["number", "turn", "once", "twice"]
theorem sc__law_mix : FnScope N__law_mix ["number", "turn"] (defScope s__law_mix) := ⟨rfl, rfl, rfl, by decide +kernel, rfl, by decide +kernel, by decide +kernel⟩
theorem ok__law_mix (T : Txt K mg cl)  {f : Addr} {fd : FuncData} (F : DefAt K mg "_law_mix" s__law_mix f fd ["number", "turn"]) : FnG P w K mg base 1 f fd ["number", "turn"] (spM K m__law_mix) :=
  okG F.fn sc__law_mix fun cdv A outer s H E hr gd tk hp => (ms_cons (ms_set sc__law_mix.nd (mp_op op_mod modV_ok (mp_callTy call_intV intV_ok rfl T.z_int bt_int (mp_cons (mp_op op_addV addV_ok (mp_op op_addV addV_ok (mp_op op_mulV mulV_ok (mp_var 0) mp_int) (mp_op op_mulV mulV_ok (mp_var 1) mp_int)) mp_int) mp_nil)) mp_int))
 (ms_cons (ms_set sc__law_mix.nd (mp_op op_mod modV_ok (mp_callTy call_intV intV_ok rfl T.z_int bt_int (mp_cons (mp_op op_addV addV_ok (mp_op op_addV addV_ok (mp_op op_mulV mulV_ok (mp_var 2) (mp_var 2)) (mp_op op_mulV mulV_ok (mp_op op_fdivW divV_ok (mp_var 2) mp_int) mp_int)) (mp_op op_mulV mulV_ok (mp_var 1) mp_int)) mp_nil)) mp_int))
 (ms_one (ms_ret (mp_op op_fdivW divV_ok (mp_op op_mod modV_ok (mp_callTy call_intV intV_ok rfl T.z_int bt_int (mp_cons (mp_op op_addV addV_ok (mp_op op_fdivW divV_ok (mp_op op_mulV mulV_ok (mp_var 3) (mp_var 3)) mp_int) (mp_var 2)) mp_nil)) mp_int) mp_int)))))
abbrev N__law_hand : List Str := ["script", "total", "k", "cell"]
theorem sc__law_hand : FnScope N__law_hand ["script"] (defScope s__law_hand) := ⟨rfl, rfl, rfl, by decide +kernel, rfl, by decide +kernel, by decide +kernel⟩
theorem ok__law_hand (T : Txt K mg cl)  {f : Addr} {fd : FuncData} (F : DefAt K mg "_law_hand" s__law_hand f fd ["script"]) : FnG P w K mg base 1 f fd ["script"] (spM K m__law_hand) :=
  okG F.fn sc__law_hand fun cdv A outer s H E hr gd tk hp => (ms_cons (ms_set sc__law_hand.nd mp_int)
 (ms_cons (ms_for hp rfl (mi_enum2 rfl T.z_enumerate (mp_cons (mp_var 0) mp_nil)) (mg_tup rfl (mg_cons (mg_name sc__law_hand.nd) (mg_cons (mg_name sc__law_hand.nd) mg_nil)))
 (ms_one (ms_set sc__law_hand.nd (mp_op op_mod modV_ok (mp_callTy call_intV intV_ok rfl T.z_int bt_int (mp_cons (mp_op op_addV addV_ok (mp_op op_mulV mulV_ok (mp_var 1) mp_int) (mp_op op_mulV mulV_ok (mp_callTy call_intV intV_ok rfl T.z_int bt_int (mp_cons (mp_var 3) mp_nil)) (mp_op op_addV addV_ok (mp_var 2) mp_int))) mp_nil)) mp_int))))
 (ms_one (ms_ret (mp_lst (mp_cons (mp_lc (own := [("cell", 3)]) rfl sc__law_hand.nd (mi_seq (mp_var 0)) (blkOk_by (N := N__law_hand) (sc := defScope s__law_hand) (by decide +kernel)) (by decide) (fun _ _ _ _ _ => (mg_name sc__law_hand.nd)) (fun _ _ _ _ _ => mts_nil) (fun _ _ _ _ _ => (mp_callB call_abs absV_ok rfl T.z_abs bt_abs (mp_cons (mp_callTy call_intV intV_ok rfl T.z_int bt_int (mp_cons (mp_var 3) mp_nil)) mp_nil)))) (mp_cons mp_int (mp_cons mp_int (mp_cons (mp_var 1) mp_nil)))))))))
abbrev N__law_parts : List Str := ["tree", "word", "pair"]
theorem sc__law_parts : FnScope N__law_parts ["tree"] (defScope s__law_parts) := ⟨rfl, rfl, rfl, by decide +kernel, rfl, by decide +kernel, by decide +kernel⟩
theorem ok__law_parts (T : Txt K mg cl)  {f : Addr} {fd : FuncData} (F : DefAt K mg "_law_parts" s__law_parts f fd ["tree"]) : FnG P w K mg base 1 f fd ["tree"] (spM K (m__law_parts cl)) :=
  okG F.fn sc__law_parts fun cdv A outer s H E hr gd tk hp => (ms_cons (ms_set sc__law_parts.nd (mp_idx (hu_of hr) (mp_var 0) mp_int))
 (ms_cons (ms_if (mt_cmp (op_inV (hu_of hr)) inV_ok (mp_var 1) (mp_tup (mp_cons mp_str (mp_cons mp_str (mp_cons mp_str (mp_cons mp_str (mp_cons mp_str (mp_cons mp_str mp_nil))))))))
 (ms_one (ms_ret (mp_lst mp_nil)))
 ms_nil)
 (ms_cons (ms_if (mt_cmp (op_inV (hu_of hr)) inV_ok (mp_var 1) (mp_tup (mp_cons mp_str (mp_cons mp_str (mp_cons mp_str (mp_cons mp_str (mp_cons mp_str mp_nil)))))))
 (ms_one (ms_ret (mp_lst (mp_cons (mp_idx (hu_of hr) (mp_var 0) mp_int) mp_nil))))
 ms_nil)
 (ms_cons (ms_if (mt_cmp (op_inV (hu_of hr)) inV_ok (mp_var 1) (mp_tup (mp_cons mp_str (mp_cons mp_str mp_nil))))
 (ms_one (ms_ret (mp_op op_addV addV_ok (mp_lc (own := [("pair", 2)]) rfl sc__law_parts.nd (mi_seq (mp_idx (hu_of hr) (mp_var 0) mp_int)) (blkOk_by (N := N__law_parts) (sc := defScope s__law_parts) (by decide +kernel)) (by decide) (fun _ _ _ _ _ => (mg_name sc__law_parts.nd)) (fun _ _ _ _ _ => mts_nil) (fun _ _ _ _ _ => (mp_idx (hu_of hr) (mp_var 2) mp_int))) (mp_lst (mp_cons (mp_idx (hu_of hr) (mp_var 0) mp_int) mp_nil)))))
 ms_nil)
 (ms_cons (ms_if (mt_cmp (op_eqM hr.units) eqV_ok (mp_var 1) mp_str)
 (ms_one (ms_ret (mp_callTy call_list_of lstOf_ok rfl T.z_list bt_list (mp_cons (mp_idx (hu_of hr) (mp_var 0) mp_int) mp_nil))))
 ms_nil)
 (ms_cons (ms_if (mt_cmp (op_eqM hr.units) eqV_ok (mp_var 1) mp_str)
 (ms_one (ms_ret (mp_op op_addV addV_ok (mp_lst (mp_cons (mp_idx (hu_of hr) (mp_var 0) mp_int) mp_nil)) (mp_callTy call_list_of lstOf_ok rfl T.z_list bt_list (mp_cons (mp_idx (hu_of hr) (mp_var 0) mp_int) mp_nil)))))
 ms_nil)
 (ms_cons (ms_if (mt_cmp (op_eqM hr.units) eqV_ok (mp_var 1) mp_str)
 (ms_one (ms_ret (mp_callTy call_list_of lstOf_ok rfl T.z_list bt_list (mp_cons (mp_idx (hu_of hr) (mp_var 0) mp_int) mp_nil))))
 ms_nil)
 (ms_one (ms_ret (mp_callTy call_list_of lstOf_ok rfl T.z_list bt_list (mp_cons (mp_slice (mp_var 0) (mp_psome mp_int) mp_pno) mp_nil)))))))))))
abbrev N__law_joined : List Str := ["tree", "inner", "word", "pair", "right"]
theorem sc__law_joined : FnScope N__law_joined ["tree", "inner"] (defScope s__law_joined) := ⟨rfl, rfl, rfl, by decide +kernel, rfl, by decide +kernel, by decide +kernel⟩
theorem ok__law_joined (T : Txt K mg cl)  {f : Addr} {fd : FuncData} (F : DefAt K mg "_law_joined" s__law_joined f fd ["tree", "inner"]) : FnG P w K mg base 1 f fd ["tree", "inner"] (spM K (m__law_joined cl)) :=
  okG F.fn sc__law_joined fun cdv A outer s H E hr gd tk hp => (ms_cons (ms_set sc__law_joined.nd (mp_idx (hu_of hr) (mp_var 0) mp_int))
 (ms_cons (ms_if (mt_cmp (op_inV (hu_of hr)) inV_ok (mp_var 2) (mp_tup (mp_cons mp_str (mp_cons mp_str (mp_cons mp_str (mp_cons mp_str (mp_cons mp_str (mp_cons mp_str mp_nil))))))))
 (ms_one (ms_ret (mp_var 0)))
 ms_nil)
 (ms_cons (ms_if (mt_cmp (op_inV (hu_of hr)) inV_ok (mp_var 2) (mp_tup (mp_cons mp_str (mp_cons mp_str (mp_cons mp_str (mp_cons mp_str (mp_cons mp_str mp_nil)))))))
 (ms_one (ms_ret (mp_tup (mp_cons (mp_var 2) (mp_cons (mp_idx (hu_of hr) (mp_var 0) mp_int) (mp_cons (mp_idx (hu_of hr) (mp_var 1) mp_int) mp_nil))))))
 ms_nil)
 (ms_cons (ms_if (mt_cmp (op_inV (hu_of hr)) inV_ok (mp_var 2) (mp_tup (mp_cons mp_str (mp_cons mp_str mp_nil))))
 (ms_one (ms_ret (mp_tup (mp_cons (mp_var 2) (mp_cons (mp_callTy call_tuple_of tupOf_ok rfl T.z_tuple bt_tuple (mp_cons (mp_lc (own := [("pair", 3), ("right", 4)]) rfl sc__law_joined.nd (mi_zip2 rfl T.z_zip (mp_cons (mp_idx (hu_of hr) (mp_var 0) mp_int) (mp_cons (mp_var 1) mp_nil))) (blkOk_by (N := N__law_joined) (sc := defScope s__law_joined) (by decide +kernel)) (by decide) (fun _ _ _ _ _ => (mg_tup rfl (mg_cons (mg_name sc__law_joined.nd) (mg_cons (mg_name sc__law_joined.nd) mg_nil)))) (fun _ _ _ _ _ => mts_nil) (fun _ _ _ _ _ => (mp_tup (mp_cons (mp_idx (hu_of hr) (mp_var 3) mp_int) (mp_cons (mp_var 4) mp_nil))))) mp_nil)) (mp_cons (mp_idx (hu_of hr) (mp_var 1) (mp_un un_neg negV_ok mp_int)) mp_nil))))))
 ms_nil)
 (ms_cons (ms_if (mt_cmp (op_eqM hr.units) eqV_ok (mp_var 2) mp_str)
 (ms_one (ms_ret (mp_tup (mp_cons (mp_var 2) (mp_cons (mp_callTy call_tuple_of tupOf_ok rfl T.z_tuple bt_tuple (mp_cons (mp_var 1) mp_nil)) mp_nil)))))
 ms_nil)
 (ms_cons (ms_if (mt_cmp (op_eqM hr.units) eqV_ok (mp_var 2) mp_str)
 (ms_one (ms_ret (mp_tup (mp_cons (mp_var 2) (mp_cons (mp_idx (hu_of hr) (mp_var 1) mp_int) (mp_cons (mp_callTy call_tuple_of tupOf_ok rfl T.z_tuple bt_tuple (mp_cons (mp_slice (mp_var 1) (mp_psome mp_int) mp_pno) mp_nil)) mp_nil))))))
 ms_nil)
 (ms_cons (ms_if (mt_cmp (op_eqM hr.units) eqV_ok (mp_var 2) mp_str)
 (ms_one (ms_ret (mp_tup (mp_cons (mp_var 2) (mp_cons (mp_idx (hu_of hr) (mp_var 0) mp_int) (mp_cons (mp_callTy call_tuple_of tupOf_ok rfl T.z_tuple bt_tuple (mp_cons (mp_var 1) mp_nil)) mp_nil))))))
 ms_nil)
 (ms_one (ms_ret (mp_op op_addV addV_ok (mp_tup (mp_cons (mp_var 2) mp_nil)) (mp_callTy call_tuple_of tupOf_ok rfl T.z_tuple bt_tuple (mp_cons (mp_var 1) mp_nil))))))))))))
abbrev N_tree_at : List Str := ["tree", "path", "found", "at", "inner"]
theorem sc_tree_at : FnScope N_tree_at ["tree", "path"] (defScope s_tree_at) := ⟨rfl, rfl, rfl, by decide +kernel, rfl, by decide +kernel, by decide +kernel⟩
theorem ok_tree_at (T : Txt K mg cl) (C_parts_of : CalG P w K mg base 1 "parts_of" (m_parts_of cl)) {f : Addr} {fd : FuncData} (F : DefAt K mg "tree_at" s_tree_at f fd ["tree", "path"]) : FnG P w K mg base 2 f fd ["tree", "path"] (spM K (m_tree_at cl)) :=
  okG F.fn sc_tree_at fun cdv A outer s H E hr gd tk hp => (ms_cons (ms_set sc_tree_at.nd (mp_var 0))
 (ms_cons (ms_for hp rfl (mi_seq (mp_var 1)) (mg_name sc_tree_at.nd)
 (ms_cons (ms_set sc_tree_at.nd (mcG C_parts_of tk gd hr (mp_cons (mp_var 2) mp_nil)))
 (ms_cons (ms_if (mt_not (mt_chain op_le leV_ok op_ltV ltV_ok mp_int (mp_var 3) (mp_callB call_lenV lenV_ok rfl T.z_len bt_len (mp_cons (mp_var 4) mp_nil)) leV_nx))
 (ms_one (ms_ret mp_non))
 ms_nil)
 (ms_one (ms_set sc_tree_at.nd (mp_idx (hu_of hr) (mp_var 4) (mp_var 3)))))))
 (ms_one (ms_ret (mp_var 2)))))
abbrev N__law_draw : List Str := ["hand", "many", "cell", "rest"]
theorem sc__law_draw : FnScope N__law_draw ["hand", "many"] (defScope s__law_draw) := ⟨rfl, rfl, rfl, by decide +kernel, rfl, by decide +kernel, by decide +kernel⟩
theorem ok__law_draw (T : Txt K mg cl) (C__law_mix : CalG P w K mg base 1 "_law_mix" m__law_mix) {f : Addr} {fd : FuncData} (F : DefAt K mg "_law_draw" s__law_draw f fd ["hand", "many"]) : FnG P w K mg base 2 f fd ["hand", "many"] (spM K m__law_draw) :=
  okG F.fn sc__law_draw fun cdv A outer s H E hr gd tk hp => (ms_cons (ms_if (mt_pw (mw_and (mt_cmp (op_eqM hr.units) eqV_ok (mp_idx (hu_of hr) (mp_var 0) mp_int) mp_int) (mw_and1 (mt_cmp op_ltV ltV_ok (mp_idx (hu_of hr) (mp_var 0) mp_int) (mp_callB call_lenV lenV_ok rfl T.z_len bt_len (mp_cons (mp_idx (hu_of hr) (mp_var 0) mp_int) mp_nil))))))
 (ms_cons (ms_set sc__law_draw.nd (mp_idx (hu_of hr) (mp_idx (hu_of hr) (mp_var 0) mp_int) (mp_idx (hu_of hr) (mp_var 0) mp_int)))
 (ms_cons (ms_put (hu_of hr) (mp_var 0) mp_int (mp_op op_addV addV_ok (mp_idx (hu_of hr) (mp_var 0) mp_int) mp_int))
 (ms_cons (ms_if (mt_cmp op_ltV ltV_ok (mp_var 2) (mp_op op_pow powV_ok mp_int mp_int))
 (ms_one (ms_ret (mp_op op_mod modV_ok (mp_callTy call_intV intV_ok rfl T.z_int bt_int (mp_cons (mcG C__law_mix tk gd hr (mp_cons (mp_op op_mod modV_ok (mp_callTy call_intV intV_ok rfl T.z_int bt_int (mp_cons (mp_var 2) mp_nil)) mp_int) (mp_cons (mp_idx (hu_of hr) (mp_var 0) mp_int) mp_nil))) mp_nil)) (mp_var 1))))
 ms_nil)
 (ms_one (ms_put (hu_of hr) (mp_var 0) mp_int (mp_var 2))))))
 ms_nil)
 (ms_cons (ms_if (mt_cmp op_gt gtV_ok (mp_idx (hu_of hr) (mp_var 0) mp_int) mp_int)
 (ms_cons (ms_set sc__law_draw.nd (mp_idx (hu_of hr) (mp_var 0) mp_int))
 (ms_cons (ms_put (hu_of hr) (mp_var 0) mp_int (mp_op op_fdivW divV_ok (mp_var 3) (mp_var 1)))
 (ms_one (ms_ret (mp_op op_mod modV_ok (mp_callTy call_intV intV_ok rfl T.z_int bt_int (mp_cons (mp_var 3) mp_nil)) (mp_var 1))))))
 ms_nil)
 (ms_cons (ms_put (hu_of hr) (mp_var 0) mp_int (mp_op op_mod modV_ok (mp_callTy call_intV intV_ok rfl T.z_int bt_int (mp_cons (mp_op op_addV addV_ok (mp_idx (hu_of hr) (mp_var 0) mp_int) mp_int) mp_nil)) mp_int))
 (ms_one (ms_ret (mp_op op_mod modV_ok (mp_callTy call_intV intV_ok rfl T.z_int bt_int (mp_cons (mcG C__law_mix tk gd hr (mp_cons (mp_idx (hu_of hr) (mp_var 0) mp_int) (mp_cons (mp_idx (hu_of hr) (mp_var 0) mp_int) mp_nil))) mp_nil)) (mp_var 1)))))))
abbrev N__law_pick : List Str := ["hand", "things"]
theorem sc__law_pick : FnScope N__law_pick ["hand", "things"] (defScope s__law_pick) := ⟨rfl, rfl, rfl, by decide +kernel, rfl, by decide +kernel, by decide +kernel⟩
theorem ok__law_pick (T : Txt K mg cl) (C__law_draw : CalG P w K mg base 2 "_law_draw" m__law_draw) {f : Addr} {fd : FuncData} (F : DefAt K mg "_law_pick" s__law_pick f fd ["hand", "things"]) : FnG P w K mg base 3 f fd ["hand", "things"] (spM K m__law_pick) :=
  okG F.fn sc__law_pick fun cdv A outer s H E hr gd tk hp => (ms_one (ms_ret (mp_idx (hu_of hr) (mp_var 1) (mcG C__law_draw tk gd hr (mp_cons (mp_var 0) (mp_cons (mp_callB call_lenV lenV_ok rfl T.z_len bt_len (mp_cons (mp_var 1) mp_nil)) mp_nil))))))
abbrev N__law_any_names : List Str := ["hand", "names", "most", "left", "name", "many", "k"]
theorem sc__law_any_names : FnScope N__law_any_names ["hand", "names", "most"] (defScope s__law_any_names) := ⟨rfl, rfl, rfl, by decide +kernel, rfl, by decide +kernel, by decide +kernel⟩
theorem ok__law_any_names (T : Txt K mg cl) (C__law_draw : CalG P w K mg base 2 "_law_draw" m__law_draw) {f : Addr} {fd : FuncData} (F : DefAt K mg "_law_any_names" s__law_any_names f fd ["hand", "names", "most"]) : FnG P w K mg base 3 f fd ["hand", "names", "most"] (spM K (m__law_any_names cl)) :=
  okG F.fn sc__law_any_names fun cdv A outer s H E hr gd tk hp => (ms_cons (ms_set sc__law_any_names.nd (mp_lst mp_nil))
 (ms_cons (ms_for hp rfl (mi_seq (mp_var 1)) (mg_name sc__law_any_names.nd)
 (ms_one (ms_if (mt_cmp (op_notInV (hu_of hr)) notInV_ok (mp_var 4) (mp_var 3))
 (ms_one (ms_expr (mp_bm PySem.F.plainAttrs_list PySem.F.slot_list_append PySem.F.type_list_append mt_append appendV_ok (mp_var 3) (mp_cons (mp_var 4) mp_nil))))
 ms_nil)))
 (ms_cons (ms_set sc__law_any_names.nd (mp_callB (call_min2 rfl) minV_ok rfl T.z_min bt_min (mp_cons (mcG C__law_draw tk gd hr (mp_cons (mp_var 0) (mp_cons (mp_op op_addV addV_ok (mp_var 2) mp_int) mp_nil))) (mp_cons (mp_callB call_lenV lenV_ok rfl T.z_len bt_len (mp_cons (mp_var 3) mp_nil)) mp_nil))))
 (ms_one (ms_ret (mp_callTy call_tuple_of tupOf_ok rfl T.z_tuple bt_tuple (mp_cons (mp_lc (own := [("k", 6)]) rfl sc__law_any_names.nd (mi_range1 rfl T.z_range (mp_cons (mp_var 5) mp_nil)) (blkOk_by (N := N__law_any_names) (sc := defScope s__law_any_names) (by decide +kernel)) (by decide) (fun _ _ _ _ _ => (mg_name sc__law_any_names.nd)) (fun _ _ _ _ _ => mts_nil) (fun _ _ _ _ _ => (mp_bm PySem.F.plainAttrs_list PySem.F.slot_list_pop PySem.F.type_list_pop mt_popAt popAtV_ok (mp_var 3) (mp_cons (mcG C__law_draw takes0 gd hr (mp_cons (mp_var 0) (mp_cons (mp_callB call_lenV lenV_ok rfl T.z_len bt_len (mp_cons (mp_var 3) mp_nil)) mp_nil))) mp_nil)))) mp_nil)))))))
abbrev N__law_any_leaf : List Str := ["hand", "names", "pick", "number"]
theorem sc__law_any_leaf : FnScope N__law_any_leaf ["hand", "names"] (defScope s__law_any_leaf) := ⟨rfl, rfl, rfl, by decide +kernel, rfl, by decide +kernel, by decide +kernel⟩
theorem ok__law_any_leaf (T : Txt K mg cl) (C__law_draw : CalG P w K mg base 2 "_law_draw" m__law_draw) (C__law_pick : CalG P w K mg base 3 "_law_pick" m__law_pick) {f : Addr} {fd : FuncData} (F : DefAt K mg "_law_any_leaf" s__law_any_leaf f fd ["hand", "names"]) : FnG P w K mg base 4 f fd ["hand", "names"] (spM K (m__law_any_leaf cl)) :=
  okG F.fn sc__law_any_leaf fun cdv A outer s H E hr gd tk hp => (ms_cons (ms_set sc__law_any_leaf.nd (mcG C__law_draw tk gd hr (mp_cons (mp_var 0) (mp_cons mp_int mp_nil))))
 (ms_cons (ms_if (mt_cmp op_ltV ltV_ok (mp_var 2) mp_int)
 (ms_one (ms_ret (mp_tup (mp_cons mp_str (mp_cons (mcG C__law_pick tk gd hr (mp_cons (mp_var 0) (mp_cons (mp_var 1) mp_nil))) mp_nil)))))
 ms_nil)
 (ms_cons (ms_if (mt_cmp op_ltV ltV_ok (mp_var 2) mp_int)
 (ms_cons (ms_set sc__law_any_leaf.nd (mp_idx (hu_of hr) (mp_tup (mp_cons mp_int (mp_cons (mp_op op_pow powV_ok mp_int mp_int) (mp_cons (mcG C__law_draw tk gd hr (mp_cons (mp_var 0) (mp_cons mp_int mp_nil))) (mp_cons (mcG C__law_draw tk gd hr (mp_cons (mp_var 0) (mp_cons (mp_op op_addV addV_ok (mp_op op_pow powV_ok mp_int mp_int) mp_int) mp_nil))) mp_nil))))) (mcG C__law_draw tk gd hr (mp_cons (mp_var 0) (mp_cons mp_int mp_nil)))))
 (ms_one (ms_ret (mp_tup (mp_cons mp_str (mp_cons (mp_if (mt_cmp (op_eqM hr.units) eqV_ok (mcG C__law_draw tk gd hr (mp_cons (mp_var 0) (mp_cons mp_int mp_nil))) mp_int) (mp_un un_neg negV_ok (mp_var 3)) (mp_var 3)) mp_nil))))))
 ms_nil)
 (ms_one (ms_ret (mp_idx (hu_of hr) (mp_idx (hu_of hr) (mp_tup (mp_cons (mp_tup (mp_cons (mp_tup (mp_cons mp_str mp_nil)) (mp_cons (mp_tup (mp_cons mp_str mp_nil)) (mp_cons (mp_tup (mp_cons mp_str mp_nil)) mp_nil)))) (mp_cons (mp_tup (mp_cons (mp_tup (mp_cons mp_str mp_nil)) (mp_cons (mp_tup (mp_cons mp_str mp_nil)) (mp_cons (mp_tup (mp_cons mp_str mp_nil)) mp_nil)))) mp_nil))) (mcG C__law_draw tk gd hr (mp_cons (mp_var 0) (mp_cons mp_int mp_nil)))) (mp_op op_sub subV_ok (mp_var 2) mp_int)))))))
abbrev N__law_keeps : List Str := ["tree", "path", "found", "at", "inner"]
theorem sc__law_keeps : FnScope N__law_keeps ["tree", "path"] (defScope s__law_keeps) := ⟨rfl, rfl, rfl, by decide +kernel, rfl, by decide +kernel, by decide +kernel⟩
theorem ok__law_keeps (T : Txt K mg cl) {n : Nat} (C__law_parts : CalG P w K mg base 1 "_law_parts" (m__law_parts cl)) (C__law_keeps : CalG P w K mg base (1 + n) "_law_keeps" (m__law_keeps cl n)) {f : Addr} {fd : FuncData} (F : DefAt K mg "_law_keeps" s__law_keeps f fd ["tree", "path"]) : FnG P w K mg base (1 + n + 1) f fd ["tree", "path"] (spM K (m__law_keeps cl (n + 1))) :=
  okG F.fn sc__law_keeps fun cdv A outer s H E hr gd tk hp => (ms_cons (ms_set sc__law_keeps.nd (mp_if (mt_cmp (op_eqM hr.units) eqV_ok (mp_idx (hu_of hr) (mp_var 0) mp_int) mp_str) (mp_lst (mp_cons (mp_var 1) mp_nil)) (mp_lst mp_nil)))
 (ms_cons (ms_for hp rfl (mi_enum2 rfl T.z_enumerate (mp_cons (mcG C__law_parts tk gd hr (mp_cons (mp_var 0) mp_nil) (hkj := by omega)) mp_nil)) (mg_tup rfl (mg_cons (mg_name sc__law_keeps.nd) (mg_cons (mg_name sc__law_keeps.nd) mg_nil)))
 (ms_one (ms_set sc__law_keeps.nd (mp_op op_addV addV_ok (mp_var 2) (mcG C__law_keeps tk gd hr (mp_cons (mp_var 4) (mp_cons (mp_op op_addV addV_ok (mp_var 1) (mp_tup (mp_cons (mp_var 3) mp_nil))) mp_nil)) (hkj := by omega))))))
 (ms_one (ms_ret (mp_var 2)))))
theorem ok_R__law_keeps (T : Txt K mg cl) (C__law_parts : CalG P w K mg base 1 "_law_parts" (m__law_parts cl)) {f__law_keeps : Addr} {d__law_keeps : FuncData} (F__law_keeps : DefAt K mg "_law_keeps" s__law_keeps f__law_keeps d__law_keeps ["tree", "path"]) : ∀ n : Nat, FnG P w K mg base (1 + n) f__law_keeps d__law_keeps ["tree", "path"] (spM K (m__law_keeps cl n))
  | 0 => fnG_bad
  | n + 1 => by
    have hh := ok_R__law_keeps T C__law_parts F__law_keeps n
    have h__law_keeps := hh
    have C__law_keeps := F__law_keeps.calG h__law_keeps
    exact ok__law_keeps T C__law_parts C__law_keeps F__law_keeps
abbrev N__law_paths : List Str := ["tree", "path", "found", "at", "inner"]
theorem sc__law_paths : FnScope N__law_paths ["tree", "path"] (defScope s__law_paths) := ⟨rfl, rfl, rfl, by decide +kernel, rfl, by decide +kernel, by decide +kernel⟩
theorem ok__law_paths (T : Txt K mg cl) {n : Nat} (C__law_parts : CalG P w K mg base 1 "_law_parts" (m__law_parts cl)) (C__law_paths : CalG P w K mg base (1 + n) "_law_paths" (m__law_paths cl n)) {f : Addr} {fd : FuncData} (F : DefAt K mg "_law_paths" s__law_paths f fd ["tree", "path"]) : FnG P w K mg base (1 + n + 1) f fd ["tree", "path"] (spM K (m__law_paths cl (n + 1))) :=
  okG F.fn sc__law_paths fun cdv A outer s H E hr gd tk hp => (ms_cons (ms_set sc__law_paths.nd (mp_lst (mp_cons (mp_var 1) mp_nil)))
 (ms_cons (ms_for hp rfl (mi_enum2 rfl T.z_enumerate (mp_cons (mcG C__law_parts tk gd hr (mp_cons (mp_var 0) mp_nil) (hkj := by omega)) mp_nil)) (mg_tup rfl (mg_cons (mg_name sc__law_paths.nd) (mg_cons (mg_name sc__law_paths.nd) mg_nil)))
 (ms_one (ms_set sc__law_paths.nd (mp_op op_addV addV_ok (mp_var 2) (mcG C__law_paths tk gd hr (mp_cons (mp_var 4) (mp_cons (mp_op op_addV addV_ok (mp_var 1) (mp_tup (mp_cons (mp_var 3) mp_nil))) mp_nil)) (hkj := by omega))))))
 (ms_one (ms_ret (mp_var 2)))))
theorem ok_R__law_paths (T : Txt K mg cl) (C__law_parts : CalG P w K mg base 1 "_law_parts" (m__law_parts cl)) {f__law_paths : Addr} {d__law_paths : FuncData} (F__law_paths : DefAt K mg "_law_paths" s__law_paths f__law_paths d__law_paths ["tree", "path"]) : ∀ n : Nat, FnG P w K mg base (1 + n) f__law_paths d__law_paths ["tree", "path"] (spM K (m__law_paths cl n))
  | 0 => fnG_bad
  | n + 1 => by
    have hh := ok_R__law_paths T C__law_parts F__law_paths n
    have h__law_paths := hh
    have C__law_paths := F__law_paths.calG h__law_paths
    exact ok__law_paths T C__law_parts C__law_paths F__law_paths
abbrev N__law_worded : List Str := ["tree", "path", "paths", "word", "word_here", "inner", "at", "part"]
theorem sc__law_worded : FnScope N__law_worded ["tree", "path", "paths", "word"] (defScope s__law_worded) := ⟨rfl, rfl, rfl, by decide +kernel, rfl, by decide +kernel, by decide +kernel⟩
theorem ok__law_worded (T : Txt K mg cl) {n : Nat} (C__law_parts : CalG P w K mg base 1 "_law_parts" (m__law_parts cl)) (C__law_joined : CalG P w K mg base 1 "_law_joined" (m__law_joined cl)) (C__law_worded : CalG P w K mg base (1 + n) "_law_worded" (m__law_worded cl n)) {f : Addr} {fd : FuncData} (F : DefAt K mg "_law_worded" s__law_worded f fd ["tree", "path", "paths", "word"]) : FnG P w K mg base (1 + n + 1) f fd ["tree", "path", "paths", "word"] (spM K (m__law_worded cl (n + 1))) :=
  okG F.fn sc__law_worded fun cdv A outer s H E hr gd tk hp => (ms_cons (ms_set sc__law_worded.nd (mp_if (mt_pw (mw_and (mt_cmp (op_inDV (u65 hr)) inDV_ok (mp_var 1) (mp_var 2)) (mw_and1 (mt_cmp (op_eqM hr.units) eqV_ok (mp_idx (hu_of hr) (mp_var 0) mp_int) mp_str)))) (mp_var 3) (mp_idx (hu_of hr) (mp_var 0) mp_int)))
 (ms_cons (ms_setLc (own := [("at", 6), ("part", 7)]) rfl sc__law_worded.nd (mi_enum2 rfl T.z_enumerate (mp_cons (mcG C__law_parts tk gd hr (mp_cons (mp_var 0) mp_nil) (hkj := by omega)) mp_nil)) (blkOk_by (N := N__law_worded) (sc := defScope s__law_worded) (by decide +kernel)) (by decide) (fun _ _ _ _ _ => (mg_tup rfl (mg_cons (mg_name sc__law_worded.nd) (mg_cons (mg_name sc__law_worded.nd) mg_nil)))) (fun _ _ _ _ _ => mts_nil) (fun _ _ _ _ _ => (mcG C__law_worded takes0 gd hr (mp_cons (mp_var 7) (mp_cons (mp_op op_addV addV_ok (mp_var 1) (mp_tup (mp_cons (mp_var 6) mp_nil))) (mp_cons (mp_var 2) (mp_cons (mp_var 3) mp_nil)))) (hkj := by omega))) (sw_true rfl rfl rfl (by decide +kernel)))
 (ms_one (ms_ret (mp_op op_addV addV_ok (mp_tup (mp_cons (mp_var 4) mp_nil)) (mp_slice (mcG C__law_joined tk gd hr (mp_cons (mp_var 0) (mp_cons (mp_var 5) mp_nil)) (hkj := by omega)) (mp_psome mp_int) mp_pno))))))
theorem ok_R__law_worded (T : Txt K mg cl) (C__law_parts : CalG P w K mg base 1 "_law_parts" (m__law_parts cl)) (C__law_joined : CalG P w K mg base 1 "_law_joined" (m__law_joined cl)) {f__law_worded : Addr} {d__law_worded : FuncData} (F__law_worded : DefAt K mg "_law_worded" s__law_worded f__law_worded d__law_worded ["tree", "path", "paths", "word"]) : ∀ n : Nat, FnG P w K mg base (1 + n) f__law_worded d__law_worded ["tree", "path", "paths", "word"] (spM K (m__law_worded cl n))
  | 0 => fnG_bad
  | n + 1 => by
    have hh := ok_R__law_worded T C__law_parts C__law_joined F__law_worded n
    have h__law_worded := hh
    have C__law_worded := F__law_worded.calG h__law_worded
    exact ok__law_worded T C__law_parts C__law_joined C__law_worded F__law_worded
abbrev N_tree_paths : List Str := ["tree", "found", "at", "inner", "path"]
theorem sc_tree_paths : FnScope N_tree_paths ["tree"] (defScope s_tree_paths) := ⟨rfl, rfl, rfl, by decide +kernel, rfl, by decide +kernel, by decide +kernel⟩
theorem ok_tree_paths (T : Txt K mg cl) {n : Nat} (C_parts_of : CalG P w K mg base 1 "parts_of" (m_parts_of cl)) (C_tree_paths : CalG P w K mg base (1 + n) "tree_paths" (m_tree_paths cl n)) {f : Addr} {fd : FuncData} (F : DefAt K mg "tree_paths" s_tree_paths f fd ["tree"]) : FnG P w K mg base (1 + n + 1) f fd ["tree"] (spM K (m_tree_paths cl (n + 1))) :=
  okG F.fn sc_tree_paths fun cdv A outer s H E hr gd tk hp => (ms_cons (ms_set sc_tree_paths.nd (mp_lst (mp_cons (mp_tup mp_nil) mp_nil)))
 (ms_cons (ms_for hp rfl (mi_enum2 rfl T.z_enumerate (mp_cons (mcG C_parts_of tk gd hr (mp_cons (mp_var 0) mp_nil) (hkj := by omega)) mp_nil)) (mg_tup rfl (mg_cons (mg_name sc_tree_paths.nd) (mg_cons (mg_name sc_tree_paths.nd) mg_nil)))
 (ms_one (ms_expr (mp_bm PySem.F.plainAttrs_list PySem.F.slot_list_extend PySem.F.type_list_extend mt_extend extendV_ok (mp_var 1) (mp_cons (mp_lc (own := [("path", 4)]) rfl sc_tree_paths.nd (mi_seq (mcG C_tree_paths tk gd hr (mp_cons (mp_var 3) mp_nil) (hkj := by omega))) (blkOk_by (N := N_tree_paths) (sc := defScope s_tree_paths) (by decide +kernel)) (by decide) (fun _ _ _ _ _ => (mg_name sc_tree_paths.nd)) (fun _ _ _ _ _ => mts_nil) (fun _ _ _ _ _ => (mp_op op_addV addV_ok (mp_tup (mp_cons (mp_var 2) mp_nil)) (mp_var 4)))) mp_nil)))))
 (ms_one (ms_ret (mp_callTy call_tuple_of tupOf_ok rfl T.z_tuple bt_tuple (mp_cons (mp_var 1) mp_nil))))))
theorem ok_R_tree_paths (T : Txt K mg cl) (C_parts_of : CalG P w K mg base 1 "parts_of" (m_parts_of cl)) {f_tree_paths : Addr} {d_tree_paths : FuncData} (F_tree_paths : DefAt K mg "tree_paths" s_tree_paths f_tree_paths d_tree_paths ["tree"]) : ∀ n : Nat, FnG P w K mg base (1 + n) f_tree_paths d_tree_paths ["tree"] (spM K (m_tree_paths cl n))
  | 0 => fnG_bad
  | n + 1 => by
    have hh := ok_R_tree_paths T C_parts_of F_tree_paths n
    have h_tree_paths := hh
    have C_tree_paths := F_tree_paths.calG h_tree_paths
    exact ok_tree_paths T C_parts_of C_tree_paths F_tree_paths
abbrev N_tree_with : List Str := ["tree", "path", "other", "inner"]
theorem sc_tree_with : FnScope N_tree_with ["tree", "path", "other"] (defScope s_tree_with) := ⟨rfl, rfl, rfl, by decide +kernel, rfl, by decide +kernel, by decide +kernel⟩
theorem ok_tree_with (T : Txt K mg cl) {n : Nat} (C_parts_of : CalG P w K mg base 1 "parts_of" (m_parts_of cl)) (C_with_parts : CalG P w K mg base 1 "with_parts" (m_with_parts cl)) (C_tree_with : CalG P w K mg base (1 + n) "tree_with" (m_tree_with cl n)) {f : Addr} {fd : FuncData} (F : DefAt K mg "tree_with" s_tree_with f fd ["tree", "path", "other"]) : FnG P w K mg base (1 + n + 1) f fd ["tree", "path", "other"] (spM K (m_tree_with cl (n + 1))) :=
  okG F.fn sc_tree_with fun cdv A outer s H E hr gd tk hp => (ms_cons (ms_if (mt_cmp (op_eqM hr.units) eqV_ok (mp_callB call_lenV lenV_ok rfl T.z_len bt_len (mp_cons (mp_var 1) mp_nil)) mp_int)
 (ms_one (ms_ret (mp_var 2)))
 ms_nil)
 (ms_cons (ms_set sc_tree_with.nd (mp_callTy call_list_of lstOf_ok rfl T.z_list bt_list (mp_cons (mcG C_parts_of tk gd hr (mp_cons (mp_var 0) mp_nil) (hkj := by omega)) mp_nil)))
 (ms_cons (ms_put (hu_of hr) (mp_var 3) (mp_idx (hu_of hr) (mp_var 1) mp_int) (mcG C_tree_with tk gd hr (mp_cons (mp_idx (hu_of hr) (mp_var 3) (mp_idx (hu_of hr) (mp_var 1) mp_int)) (mp_cons (mp_slice (mp_var 1) (mp_psome mp_int) mp_pno) (mp_cons (mp_var 2) mp_nil))) (hkj := by omega)))
 (ms_one (ms_ret (mcG C_with_parts tk gd hr (mp_cons (mp_var 0) (mp_cons (mp_var 3) mp_nil)) (hkj := by omega)))))))
theorem ok_R_tree_with (T : Txt K mg cl) (C_parts_of : CalG P w K mg base 1 "parts_of" (m_parts_of cl)) (C_with_parts : CalG P w K mg base 1 "with_parts" (m_with_parts cl)) {f_tree_with : Addr} {d_tree_with : FuncData} (F_tree_with : DefAt K mg "tree_with" s_tree_with f_tree_with d_tree_with ["tree", "path", "other"]) : ∀ n : Nat, FnG P w K mg base (1 + n) f_tree_with d_tree_with ["tree", "path", "other"] (spM K (m_tree_with cl n))
  | 0 => fnG_bad
  | n + 1 => by
    have hh := ok_R_tree_with T C_parts_of C_with_parts F_tree_with n
    have h_tree_with := hh
    have C_tree_with := F_tree_with.calG h_tree_with
    exact ok_tree_with T C_parts_of C_with_parts C_tree_with F_tree_with
abbrev N_keep_paths : List Str := ["tree", "path"]
theorem sc_keep_paths : FnScope N_keep_paths ["tree"] (defScope s_keep_paths) := ⟨rfl, rfl, rfl, by decide +kernel, rfl, by decide +kernel, by decide +kernel⟩
theorem ok_keep_paths (T : Txt K mg cl) (C_tree_paths : CalG P w K mg base 25 "tree_paths" (m_tree_paths cl 24)) (C_tree_at : CalG P w K mg base 2 "tree_at" (m_tree_at cl)) {f : Addr} {fd : FuncData} (F : DefAt K mg "keep_paths" s_keep_paths f fd ["tree"]) : FnG P w K mg base 26 f fd ["tree"] (spM K (m_keep_paths cl)) :=
  okG F.fn sc_keep_paths fun cdv A outer s H E hr gd tk hp => (ms_one (ms_ret (mp_callTy call_tuple_of tupOf_ok rfl T.z_tuple bt_tuple (mp_cons (mp_lc (own := [("path", 1)]) rfl sc_keep_paths.nd (mi_seq (mcG C_tree_paths tk gd hr (mp_cons (mp_var 0) mp_nil))) (blkOk_by (N := N_keep_paths) (sc := defScope s_keep_paths) (by decide +kernel)) (by decide) (fun _ _ _ _ _ => (mg_name sc_keep_paths.nd)) (fun _ _ _ _ _ => (mts_one (mt_cmp (op_eqM hr.units) eqV_ok (mp_idx (hu_of hr) (mcG C_tree_at takes0 gd hr (mp_cons (mp_var 0) (mp_cons (mp_var 1) mp_nil))) mp_int) mp_str))) (fun _ _ _ _ _ => (mp_var 1))) mp_nil))))
abbrev N_with_once : List Str := ["tree", "paths", "known", "path", "changed"]
theorem sc_with_once : FnScope N_with_once ["tree", "paths"] (defScope s_with_once) := ⟨rfl, rfl, rfl, by decide +kernel, rfl, by decide +kernel, by decide +kernel⟩
theorem ok_with_once (T : Txt K mg cl) (C_keep_paths : CalG P w K mg base 26 "keep_paths" (m_keep_paths cl)) (R_NoKeep : RaG P w K mg base 1 "NoKeep" (k_NoKeep cl) ["path"]) (C_tree_with : CalG P w K mg base 25 "tree_with" (m_tree_with cl 24)) (C_tree_at : CalG P w K mg base 2 "tree_at" (m_tree_at cl)) {f : Addr} {fd : FuncData} (F : DefAt K mg "with_once" s_with_once f fd ["tree", "paths"]) : FnG P w K mg base 27 f fd ["tree", "paths"] (spM K (m_with_once cl)) :=
  okG F.fn sc_with_once fun cdv A outer s H E hr gd tk hp => (ms_cons (ms_set sc_with_once.nd (mcG C_keep_paths tk gd hr (mp_cons (mp_var 0) mp_nil)))
 (ms_cons (ms_for hp rfl (mi_seq (mp_var 1)) (mg_name sc_with_once.nd)
 (ms_one (ms_if (mt_cmp (op_ninDV (u65 hr)) notInDV_ok (mp_callTy call_tuple_of tupOf_ok rfl T.z_tuple bt_tuple (mp_cons (mp_var 3) mp_nil)) (mp_var 2))
 (ms_one (ms_raise R_NoKeep tk hr (mp_cons (mp_callTy call_tuple_of tupOf_ok rfl T.z_tuple bt_tuple (mp_cons (mp_var 3) mp_nil)) mp_nil)))
 ms_nil)))
 (ms_cons (ms_set sc_with_once.nd (mp_var 0))
 (ms_cons (ms_for hp rfl (mi_seq (mp_var 1)) (mg_name sc_with_once.nd)
 (ms_one (ms_set sc_with_once.nd (mcG C_tree_with tk gd hr (mp_cons (mp_var 4) (mp_cons (mp_callTy call_tuple_of tupOf_ok rfl T.z_tuple bt_tuple (mp_cons (mp_var 3) mp_nil)) (mp_cons (mp_op op_addV addV_ok (mp_tup (mp_cons mp_str mp_nil)) (mp_slice (mcG C_tree_at tk gd hr (mp_cons (mp_var 4) (mp_cons (mp_callTy call_tuple_of tupOf_ok rfl T.z_tuple bt_tuple (mp_cons (mp_var 3) mp_nil)) mp_nil))) (mp_psome mp_int) mp_pno)) mp_nil)))))))
 (ms_one (ms_ret (mp_var 4)))))))
abbrev N__law_refused : List Str := ["tree", "paths", "told", "e"]
theorem sc__law_refused : FnScope N__law_refused ["tree", "paths"] (defScope s__law_refused) := ⟨rfl, rfl, rfl, by decide +kernel, rfl, by decide +kernel, by decide +kernel⟩
theorem ok__law_refused (T : Txt K mg cl) (C_with_once : CalG P w K mg base 27 "with_once" (m_with_once cl)) {f : Addr} {fd : FuncData} (F : DefAt K mg "_law_refused" s__law_refused f fd ["tree", "paths"]) : FnG P w K mg base 28 f fd ["tree", "paths"] (spM K (m__law_refused cl)) :=
  okG F.fn sc__law_refused fun cdv A outer s H E hr gd tk hp => (ms_cons (ms_set sc__law_refused.nd mp_non)
 (ms_cons (ms_tryAs sc__law_refused.nd tk ⟨rfl, by decide, .inl T.kk_RestsError⟩ T.t_RestsError (fun W pn xe tk hp => (ms_one (ms_expr (mcG C_with_once tk gd hr (mp_cons (mp_var 0) (mp_cons (mp_var 1) mp_nil))))))
 (fun a pn => (ms_one (ms_set sc__law_refused.nd (mp_var 3)))))
 (ms_cons (ms_if (mt_cmp op_isN isNV_ok (mp_var 2) mp_non)
 (ms_one (ms_ret mp_non))
 ms_nil)
 (ms_one (ms_ret (mp_if (mt_truth (mp_callB call_isX (isXL_ok T.ix_NoKeep) rfl T.z_isinstance bt_isinstance (mp_cons (mp_var 2) (mp_cons (mp_glob (v := .ref (cl 1)) (z := .obj (cl 1)) rfl T.kk_NoKeep rfl (fun _ _ _ => rfl)) mp_nil)))) (mp_xf T.x_path (mp_var 2)) mp_str))))))
abbrev N__law_any_fun : List Str := ["hand", "deep", "names", "room", "most", "handed"]
theorem sc__law_any_fun : FnScope N__law_any_fun ["hand", "deep", "names", "room", "most"] (defScope s__law_any_fun) := ⟨rfl, rfl, rfl, by decide +kernel, rfl, by decide +kernel, by decide +kernel⟩
theorem ok__law_any_fun (T : Txt K mg cl) {n : Nat} (C__law_any_names : CalG P w K mg base 3 "_law_any_names" (m__law_any_names cl)) (C__law_any : CalG P w K mg base (4 + n) "_law_any" (m__law_any cl n)) {f : Addr} {fd : FuncData} (F : DefAt K mg "_law_any_fun" s__law_any_fun f fd ["hand", "deep", "names", "room", "most"]) : FnG P w K mg base (4 + n + 1) f fd ["hand", "deep", "names", "room", "most"] (spM K (m__law_any_fun cl (n + 1))) :=
  okG F.fn sc__law_any_fun fun cdv A outer s H E hr gd tk hp => (ms_cons (ms_set sc__law_any_fun.nd (mcG C__law_any_names tk gd hr (mp_cons (mp_var 0) (mp_cons (mp_var 2) (mp_cons (mp_var 4) mp_nil))) (hkj := by omega)))
 (ms_one (ms_ret (mp_tup (mp_cons mp_str (mp_cons (mp_var 5) (mp_cons (mcG C__law_any tk gd hr (mp_cons (mp_var 0) (mp_cons (mp_op op_sub subV_ok (mp_var 1) mp_int) (mp_cons (mp_var 2) (mp_cons (mp_var 3) mp_nil)))) (hkj := by omega)) mp_nil)))))))
abbrev N__law_any : List Str := ["hand", "deep", "names", "room", "word", "bound", "rows", "op", "many", "called", "inner", "name", "k"]
theorem sc__law_any : FnScope N__law_any ["hand", "deep", "names", "room"] (defScope s__law_any) := ⟨rfl, rfl, rfl, by decide +kernel, rfl, by decide +kernel, by decide +kernel⟩
theorem ok__law_any (T : Txt K mg cl) {n : Nat} (C__law_any_leaf : CalG P w K mg base 4 "_law_any_leaf" (m__law_any_leaf cl)) (C__law_pick : CalG P w K mg base 3 "_law_pick" m__law_pick) (C__law_any_names : CalG P w K mg base 3 "_law_any_names" (m__law_any_names cl)) (C__law_draw : CalG P w K mg base 2 "_law_draw" m__law_draw) (C__law_any_fun : CalG P w K mg base (4 + n) "_law_any_fun" (m__law_any_fun cl n)) (C__law_any : CalG P w K mg base (4 + n) "_law_any" (m__law_any cl n)) {f : Addr} {fd : FuncData} (F : DefAt K mg "_law_any" s__law_any f fd ["hand", "deep", "names", "room"]) : FnG P w K mg base (4 + n + 1) f fd ["hand", "deep", "names", "room"] (spM K (m__law_any cl (n + 1))) :=
  okG F.fn sc__law_any fun cdv A outer s H E hr gd tk hp => (ms_cons (ms_if (mt_pw (mw_or (mt_cmp op_le leV_ok (mp_var 1) mp_int) (mw_or1 (mt_cmp op_le leV_ok (mp_idx (hu_of hr) (mp_var 3) mp_int) mp_int))))
 (ms_one (ms_ret (mcG C__law_any_leaf tk gd hr (mp_cons (mp_var 0) (mp_cons (mp_var 2) mp_nil)) (hkj := by omega))))
 ms_nil)
 (ms_cons (ms_put (hu_of hr) (mp_var 3) mp_int (mp_op op_sub subV_ok (mp_idx (hu_of hr) (mp_var 3) mp_int) mp_int))
 (ms_cons (ms_set sc__law_any.nd (mcG C__law_pick tk gd hr (mp_cons (mp_var 0) (mp_cons (mp_tup (mp_cons mp_str (mp_cons mp_str (mp_cons mp_str (mp_cons mp_str (mp_cons mp_str (mp_cons mp_str (mp_cons mp_str (mp_cons mp_str (mp_cons mp_str (mp_cons mp_str (mp_cons mp_str (mp_cons mp_str (mp_cons mp_str (mp_cons mp_str (mp_cons mp_str (mp_cons mp_str mp_nil))))))))))))))))) mp_nil)) (hkj := by omega)))
 (ms_cons (ms_if (mt_cmp (op_eqM hr.units) eqV_ok (mp_var 4) mp_str)
 (ms_one (ms_ret (mcG C__law_any_fun tk gd hr (mp_cons (mp_var 0) (mp_cons (mp_var 1) (mp_cons (mp_var 2) (mp_cons (mp_var 3) (mp_cons mp_int mp_nil))))) (hkj := by omega))))
 ms_nil)
 (ms_cons (ms_if (mt_cmp (op_inV (hu_of hr)) inV_ok (mp_var 4) (mp_tup (mp_cons mp_str (mp_cons mp_str mp_nil))))
 (ms_cons (ms_set sc__law_any.nd (mcG C__law_any_names tk gd hr (mp_cons (mp_var 0) (mp_cons (mp_var 2) (mp_cons mp_int mp_nil))) (hkj := by omega)))
 (ms_cons (ms_if (mt_cmp (op_eqM hr.units) eqV_ok (mp_var 5) (mp_tup mp_nil))
 (ms_one (ms_set sc__law_any.nd (mp_slice (mp_var 2) mp_pno (mp_psome mp_int))))
 ms_nil)
 (ms_cons (ms_if (mt_cmp (op_eqM hr.units) eqV_ok (mp_var 4) mp_str)
 (ms_one (ms_setLc (own := [("name", 11)]) rfl sc__law_any.nd (mi_seq (mp_var 5)) (blkOk_by (N := N__law_any) (sc := defScope s__law_any) (by decide +kernel)) (by decide) (fun _ _ _ _ _ => (mg_name sc__law_any.nd)) (fun _ _ _ _ _ => mts_nil) (fun _ _ _ _ _ => (mp_tup (mp_cons (mp_var 11) (mp_cons (mcG C__law_any takes0 gd hr (mp_cons (mp_var 0) (mp_cons (mp_op op_sub subV_ok (mp_var 1) mp_int) (mp_cons (mp_var 2) (mp_cons (mp_var 3) mp_nil)))) (hkj := by omega)) mp_nil)))) (sw_true rfl rfl rfl (by decide +kernel))))
 (ms_one (ms_setLc (own := [("name", 11)]) rfl sc__law_any.nd (mi_seq (mp_slice (mp_var 5) mp_pno (mp_psome mp_int))) (blkOk_by (N := N__law_any) (sc := defScope s__law_any) (by decide +kernel)) (by decide) (fun _ _ _ _ _ => (mg_name sc__law_any.nd)) (fun _ _ _ _ _ => mts_nil) (fun _ _ _ _ _ => (mp_tup (mp_cons (mp_var 11) (mp_cons (mcG C__law_any_fun takes0 gd hr (mp_cons (mp_var 0) (mp_cons (mp_var 1) (mp_cons (mp_var 2) (mp_cons (mp_var 3) (mp_cons mp_int mp_nil))))) (hkj := by omega)) mp_nil)))) (sw_true rfl rfl rfl (by decide +kernel)))))
 (ms_one (ms_ret (mp_tup (mp_cons (mp_var 4) (mp_cons (mp_callTy call_tuple_of tupOf_ok rfl T.z_tuple bt_tuple (mp_cons (mp_var 6) mp_nil)) (mp_cons (mcG C__law_any tk gd hr (mp_cons (mp_var 0) (mp_cons (mp_op op_sub subV_ok (mp_var 1) mp_int) (mp_cons (mp_var 2) (mp_cons (mp_var 3) mp_nil)))) (hkj := by omega)) mp_nil)))))))))
 ms_nil)
 (ms_cons (ms_if (mt_cmp (op_inV (hu_of hr)) inV_ok (mp_var 4) (mp_tup (mp_cons mp_str (mp_cons mp_str (mp_cons mp_str (mp_cons mp_str mp_nil))))))
 (ms_one (ms_ret (mp_tup (mp_cons (mp_var 4) (mp_cons (mcG C__law_pick tk gd hr (mp_cons (mp_var 0) (mp_cons (mp_var 2) mp_nil)) (hkj := by omega)) (mp_cons (mcG C__law_any tk gd hr (mp_cons (mp_var 0) (mp_cons (mp_op op_sub subV_ok (mp_var 1) mp_int) (mp_cons (mp_var 2) (mp_cons (mp_var 3) mp_nil)))) (hkj := by omega)) mp_nil))))))
 ms_nil)
 (ms_cons (ms_if (mt_cmp (op_eqM hr.units) eqV_ok (mp_var 4) mp_str)
 (ms_cons (ms_set sc__law_any.nd (mcG C__law_pick tk gd hr (mp_cons (mp_var 0) (mp_cons (mp_tup (mp_cons mp_str (mp_cons mp_str (mp_cons mp_str (mp_cons mp_str (mp_cons mp_str (mp_cons mp_str (mp_cons mp_str (mp_cons mp_str (mp_cons mp_str (mp_cons mp_str (mp_cons mp_str (mp_cons mp_str (mp_cons mp_str (mp_cons mp_str (mp_cons mp_str (mp_cons mp_str (mp_cons mp_str mp_nil)))))))))))))))))) mp_nil)) (hkj := by omega)))
 (ms_cons (ms_set sc__law_any.nd (mp_if (mt_cmp (op_inV (hu_of hr)) inV_ok (mp_var 7) (mp_tup (mp_cons mp_str (mp_cons mp_str (mp_cons mp_str (mp_cons mp_str (mp_cons mp_str (mp_cons mp_str mp_nil)))))))) mp_int mp_int))
 (ms_one (ms_ret (mp_tup (mp_cons mp_str (mp_cons (mp_var 7) (mp_cons (mp_callTy call_tuple_of tupOf_ok rfl T.z_tuple bt_tuple (mp_cons (mp_lc (own := [("k", 12)]) rfl sc__law_any.nd (mi_range1 rfl T.z_range (mp_cons (mp_var 8) mp_nil)) (blkOk_by (N := N__law_any) (sc := defScope s__law_any) (by decide +kernel)) (by decide) (fun _ _ _ _ _ => (mg_name sc__law_any.nd)) (fun _ _ _ _ _ => mts_nil) (fun _ _ _ _ _ => (mcG C__law_any takes0 gd hr (mp_cons (mp_var 0) (mp_cons (mp_op op_sub subV_ok (mp_var 1) mp_int) (mp_cons (mp_var 2) (mp_cons (mp_var 3) mp_nil)))) (hkj := by omega)))) mp_nil)) mp_nil))))))))
 ms_nil)
 (ms_cons (ms_if (mt_cmp (op_eqM hr.units) eqV_ok (mp_var 4) mp_str)
 (ms_cons (ms_set sc__law_any.nd (mcG C__law_any tk gd hr (mp_cons (mp_var 0) (mp_cons (mp_op op_sub subV_ok (mp_var 1) mp_int) (mp_cons (mp_var 2) (mp_cons (mp_var 3) mp_nil)))) (hkj := by omega)))
 (ms_one (ms_ret (mp_tup (mp_cons mp_str (mp_cons (mp_var 9) (mp_cons (mp_callTy call_tuple_of tupOf_ok rfl T.z_tuple bt_tuple (mp_cons (mp_lc (own := [("k", 12)]) rfl sc__law_any.nd (mi_range1 rfl T.z_range (mp_cons (mp_idx (hu_of hr) (mp_tup (mp_cons mp_int (mp_cons mp_int (mp_cons mp_int (mp_cons mp_int mp_nil))))) (mcG C__law_draw tk gd hr (mp_cons (mp_var 0) (mp_cons mp_int mp_nil)) (hkj := by omega))) mp_nil)) (blkOk_by (N := N__law_any) (sc := defScope s__law_any) (by decide +kernel)) (by decide) (fun _ _ _ _ _ => (mg_name sc__law_any.nd)) (fun _ _ _ _ _ => mts_nil) (fun _ _ _ _ _ => (mcG C__law_any takes0 gd hr (mp_cons (mp_var 0) (mp_cons (mp_op op_sub subV_ok (mp_var 1) mp_int) (mp_cons (mp_var 2) (mp_cons (mp_var 3) mp_nil)))) (hkj := by omega)))) mp_nil)) mp_nil)))))))
 ms_nil)
 (ms_cons (ms_set sc__law_any.nd (mp_idx (hu_of hr) (mp_disp (PDM.cons mp_int (PDM.cons (mp_idx (hu_of hr) (mp_tup (mp_cons mp_int (mp_cons mp_int (mp_cons mp_int (mp_cons mp_int mp_nil))))) (mcG C__law_draw tk gd hr (mp_cons (mp_var 0) (mp_cons mp_int mp_nil)) (hkj := by omega))) (PDM.cons mp_int (PDM.cons mp_int (PDM.cons mp_int PDM.nil)))))) (mp_var 4)))
 (ms_cons (ms_set sc__law_any.nd (mp_callTy call_tuple_of tupOf_ok rfl T.z_tuple bt_tuple (mp_cons (mp_lc (own := [("k", 12)]) rfl sc__law_any.nd (mi_range1 rfl T.z_range (mp_cons (mp_var 8) mp_nil)) (blkOk_by (N := N__law_any) (sc := defScope s__law_any) (by decide +kernel)) (by decide) (fun _ _ _ _ _ => (mg_name sc__law_any.nd)) (fun _ _ _ _ _ => mts_nil) (fun _ _ _ _ _ => (mcG C__law_any takes0 gd hr (mp_cons (mp_var 0) (mp_cons (mp_op op_sub subV_ok (mp_var 1) mp_int) (mp_cons (mp_var 2) (mp_cons (mp_var 3) mp_nil)))) (hkj := by omega)))) mp_nil)))
 (ms_one (ms_ret (mp_if (mt_cmp (op_eqM hr.units) eqV_ok (mp_var 4) mp_str) (mp_tup (mp_cons mp_str (mp_cons (mp_var 10) mp_nil))) (mp_op op_addV addV_ok (mp_tup (mp_cons (mp_var 4) mp_nil)) (mp_var 10)))))))))))))))
theorem ok_R__law_any_fun (T : Txt K mg cl) (C__law_any_names : CalG P w K mg base 3 "_law_any_names" (m__law_any_names cl)) (C__law_any_leaf : CalG P w K mg base 4 "_law_any_leaf" (m__law_any_leaf cl)) (C__law_pick : CalG P w K mg base 3 "_law_pick" m__law_pick) (C__law_draw : CalG P w K mg base 2 "_law_draw" m__law_draw) {f__law_any_fun : Addr} {d__law_any_fun : FuncData} (F__law_any_fun : DefAt K mg "_law_any_fun" s__law_any_fun f__law_any_fun d__law_any_fun ["hand", "deep", "names", "room", "most"]) {f__law_any : Addr} {d__law_any : FuncData} (F__law_any : DefAt K mg "_law_any" s__law_any f__law_any d__law_any ["hand", "deep", "names", "room"]) : ∀ n : Nat, FnG P w K mg base (4 + n) f__law_any_fun d__law_any_fun ["hand", "deep", "names", "room", "most"] (spM K (m__law_any_fun cl n)) ∧ FnG P w K mg base (4 + n) f__law_any d__law_any ["hand", "deep", "names", "room"] (spM K (m__law_any cl n))
  | 0 => ⟨fnG_bad, fnG_bad⟩
  | n + 1 => by
    have hh := ok_R__law_any_fun T C__law_any_names C__law_any_leaf C__law_pick C__law_draw F__law_any_fun F__law_any n
    obtain ⟨h__law_any_fun, h__law_any⟩ := hh
    have C__law_any_fun := F__law_any_fun.calG h__law_any_fun
    have C__law_any := F__law_any.calG h__law_any
    exact ⟨ok__law_any_fun T C__law_any_names C__law_any F__law_any_fun, ok__law_any T C__law_any_leaf C__law_pick C__law_any_names C__law_draw C__law_any_fun C__law_any F__law_any⟩
abbrev N_law : List Str := ["script", "hand", "names", "inner", "tree", "keeps", "told", "paths", "due", "given", "left", "others", "wrong", "bad", "again", "at", "path"]
theorem sc_law : FnScope N_law ["script"] (defScope s_law) := ⟨rfl, rfl, rfl, by decide +kernel, rfl, by decide +kernel, by decide +kernel⟩
theorem ok_law (T : Txt K mg cl) (C__law_hand : CalG P w K mg base 1 "_law_hand" m__law_hand) (C__law_any : CalG P w K mg base 28 "_law_any" (m__law_any cl 24)) (C__law_draw : CalG P w K mg base 2 "_law_draw" m__law_draw) (C__law_keeps : CalG P w K mg base 25 "_law_keeps" (m__law_keeps cl 24)) (C_keep_paths : CalG P w K mg base 26 "keep_paths" (m_keep_paths cl)) (C__law_worded : CalG P w K mg base 25 "_law_worded" (m__law_worded cl 24)) (C_with_once : CalG P w K mg base 27 "with_once" (m_with_once cl)) (C__law_paths : CalG P w K mg base 25 "_law_paths" (m__law_paths cl 24)) (C__law_refused : CalG P w K mg base 28 "_law_refused" (m__law_refused cl)) {f : Addr} {fd : FuncData} (F : DefAt K mg "law" s_law f fd ["script"]) : FnG P w K mg base 29 f fd ["script"] (spM K (m_law cl)) :=
  okG F.fn sc_law fun cdv A outer s H E hr gd tk hp => (ms_cons (ms_set sc_law.nd (mcG C__law_hand tk gd hr (mp_cons (mp_var 0) mp_nil)))
 (ms_cons (ms_set sc_law.nd (mp_tup (mp_cons mp_str (mp_cons mp_str (mp_cons mp_str (mp_cons mp_str mp_nil))))))
 (ms_cons (ms_set sc_law.nd (mcG C__law_any tk gd hr (mp_cons (mp_var 1) (mp_cons mp_int (mp_cons (mp_var 2) (mp_cons (mp_lst (mp_cons mp_int mp_nil)) mp_nil))))))
 (ms_cons (ms_set sc_law.nd (mp_var 3))
 (ms_cons (ms_if (mt_cmp (op_eqM hr.units) eqV_ok (mcG C__law_draw tk gd hr (mp_cons (mp_var 1) (mp_cons mp_int mp_nil))) mp_int)
 (ms_one (ms_set sc_law.nd (mp_tup (mp_cons mp_str (mp_cons mp_str (mp_cons (mp_tup (mp_cons mp_str (mp_cons (mp_tup (mp_cons (mp_tup (mp_cons mp_str (mp_cons mp_int mp_nil))) (mp_cons (mp_tup (mp_cons mp_str (mp_cons mp_str (mp_cons (mp_var 3) mp_nil)))) (mp_cons (mp_var 3) mp_nil)))) mp_nil))) mp_nil))))))
 ms_nil)
 (ms_cons (ms_set sc_law.nd (mcG C__law_keeps tk gd hr (mp_cons (mp_var 4) (mp_cons (mp_tup mp_nil) mp_nil))))
 (ms_cons (ms_set sc_law.nd (mcG C_keep_paths tk gd hr (mp_cons (mp_var 4) mp_nil)))
 (ms_cons (ms_if (mt_pw (mw_or (mt_cmp (op_neM hr.units) neV_ok (mp_var 6) (mp_callTy call_tuple_of tupOf_ok rfl T.z_tuple bt_tuple (mp_cons (mp_var 5) mp_nil))) (mw_or1 (mt_not (mt_truth (mp_callB call_isi isiV_ok rfl T.z_isinstance bt_isinstance (mp_cons (mp_var 6) (mp_cons (mp_ty rfl T.z_tuple bt_tuple) mp_nil))))))))
 (ms_one (ms_ret mp_bl))
 ms_nil)
 (ms_cons (ms_set sc_law.nd (mp_lc (own := [("path", 16)]) rfl sc_law.nd (mi_seq (mp_var 5)) (blkOk_by (N := N_law) (sc := defScope s_law) (by decide +kernel)) (by decide) (fun _ _ _ _ _ => (mg_name sc_law.nd)) (fun _ _ _ _ _ => (mts_one (mt_cmp (op_eqM hr.units) eqV_ok (mcG C__law_draw takes0 gd hr (mp_cons (mp_var 1) (mp_cons mp_int mp_nil))) mp_int))) (fun _ _ _ _ _ => (mp_var 16))))
 (ms_cons (ms_if (mt_pw (mw_and (mt_cmp op_gt gtV_ok (mp_callB call_lenV lenV_ok rfl T.z_len bt_len (mp_cons (mp_var 7) mp_nil)) mp_int) (mw_and1 (mt_cmp (op_eqM hr.units) eqV_ok (mcG C__law_draw tk gd hr (mp_cons (mp_var 1) (mp_cons mp_int mp_nil))) mp_int))))
 (ms_one (ms_expr (mp_bm PySem.F.plainAttrs_list PySem.F.slot_list_append PySem.F.type_list_append mt_append appendV_ok (mp_var 7) (mp_cons (mp_idx (hu_of hr) (mp_var 7) mp_int) mp_nil))))
 ms_nil)
 (ms_cons (ms_set sc_law.nd (mcG C__law_worded tk gd hr (mp_cons (mp_var 4) (mp_cons (mp_tup mp_nil) (mp_cons (mp_var 7) (mp_cons mp_str mp_nil))))))
 (ms_cons (ms_setLc (own := [("path", 16)]) rfl sc_law.nd (mi_seq (mp_var 7)) (blkOk_by (N := N_law) (sc := defScope s_law) (by decide +kernel)) (by decide) (fun _ _ _ _ _ => (mg_name sc_law.nd)) (fun _ _ _ _ _ => mts_nil) (fun _ _ _ _ _ => (mp_if (mt_cmp (op_eqM hr.units) eqV_ok (mcG C__law_draw takes0 gd hr (mp_cons (mp_var 1) (mp_cons mp_int mp_nil))) mp_int) (mp_callTy call_list_of lstOf_ok rfl T.z_list bt_list (mp_cons (mp_var 16) mp_nil)) (mp_var 16))) (sw_true rfl rfl rfl (by decide +kernel)))
 (ms_cons (ms_if (mt_pw (mw_or (mt_cmp (op_neM hr.units) neV_ok (mcG C_with_once tk gd hr (mp_cons (mp_var 4) (mp_cons (mp_var 9) mp_nil))) (mp_var 8)) (mw_or (mt_cmp (op_neM hr.units) neV_ok (mp_lc (own := [("path", 16)]) rfl sc_law.nd (mi_seq (mp_var 9)) (blkOk_by (N := N_law) (sc := defScope s_law) (by decide +kernel)) (by decide) (fun _ _ _ _ _ => (mg_name sc_law.nd)) (fun _ _ _ _ _ => mts_nil) (fun _ _ _ _ _ => (mp_callTy call_tuple_of tupOf_ok rfl T.z_tuple bt_tuple (mp_cons (mp_var 16) mp_nil)))) (mp_var 7)) (mw_or1 (mt_cmp (op_neM hr.units) neV_ok (mcG C_with_once tk gd hr (mp_cons (mp_var 4) (mp_cons (mp_callTy call_tuple_of tupOf_ok rfl T.z_tuple bt_tuple (mp_cons (mp_var 7) mp_nil)) mp_nil))) (mp_var 8))))))
 (ms_one (ms_ret mp_bl))
 ms_nil)
 (ms_cons (ms_set sc_law.nd (mcG C_keep_paths tk gd hr (mp_cons (mp_var 8) mp_nil)))
 (ms_cons (ms_if (mt_pw (mw_or (mt_cmp (op_neM hr.units) neV_ok (mp_var 10) (mp_callTy call_tuple_of tupOf_ok rfl T.z_tuple bt_tuple (mp_cons (mp_lc (own := [("path", 16)]) rfl sc_law.nd (mi_seq (mp_var 5)) (blkOk_by (N := N_law) (sc := defScope s_law) (by decide +kernel)) (by decide) (fun _ _ _ _ _ => (mg_name sc_law.nd)) (fun _ _ _ _ _ => (mts_one (mt_cmp (op_ninDV (u65 hr)) notInDV_ok (mp_var 16) (mp_var 7)))) (fun _ _ _ _ _ => (mp_var 16))) mp_nil))) (mw_or1 (mt_cmp (op_neM hr.units) neV_ok (mcG C_with_once tk gd hr (mp_cons (mp_var 4) (mp_cons (mp_lst mp_nil) mp_nil))) (mp_var 4)))))
 (ms_one (ms_ret mp_bl))
 ms_nil)
 (ms_cons (ms_setLc (own := [("path", 16)]) rfl sc_law.nd (mi_seq (mcG C__law_paths tk gd hr (mp_cons (mp_var 4) (mp_cons (mp_tup mp_nil) mp_nil)))) (blkOk_by (N := N_law) (sc := defScope s_law) (by decide +kernel)) (by decide) (fun _ _ _ _ _ => (mg_name sc_law.nd)) (fun _ _ _ _ _ => (mts_one (mt_cmp (op_ninDV (u65 hr)) notInDV_ok (mp_var 16) (mp_var 5)))) (fun _ _ _ _ _ => (mp_var 16)) (sw_true rfl rfl rfl (by decide +kernel)))
 (ms_cons (ms_set sc_law.nd (mp_if (mt_cmp op_gt gtV_ok (mp_callB call_lenV lenV_ok rfl T.z_len bt_len (mp_cons (mp_var 11) mp_nil)) mp_int) (mp_lst (mp_cons (mp_idx (hu_of hr) (mp_var 11) (mcG C__law_draw tk gd hr (mp_cons (mp_var 1) (mp_cons (mp_callB call_lenV lenV_ok rfl T.z_len bt_len (mp_cons (mp_var 11) mp_nil)) mp_nil)))) mp_nil)) (mp_lst mp_nil)))
 (ms_cons (ms_set sc_law.nd (mp_op op_addV addV_ok (mp_var 12) (mp_lst (mp_cons (mp_op op_repT repTV_ok (mp_tup (mp_cons mp_int mp_nil)) mp_int) (mp_cons (mp_tup (mp_cons (mp_un un_neg negV_ok mp_int) mp_nil)) (mp_cons (mp_tup (mp_cons mp_int mp_nil)) (mp_cons (mp_if (mt_cmp op_gt gtV_ok (mp_callB call_lenV lenV_ok rfl T.z_len bt_len (mp_cons (mp_var 5) mp_nil)) mp_int) (mp_op op_addV addV_ok (mp_idx (hu_of hr) (mp_var 5) mp_int) (mp_tup (mp_cons mp_int mp_nil))) (mp_tup (mp_cons mp_int mp_nil))) mp_nil)))))))
 (ms_cons (ms_set sc_law.nd (mp_idx (hu_of hr) (mp_var 12) (mcG C__law_draw tk gd hr (mp_cons (mp_var 1) (mp_cons (mp_callB call_lenV lenV_ok rfl T.z_len bt_len (mp_cons (mp_var 12) mp_nil)) mp_nil)))))
 (ms_cons (ms_set sc_law.nd (mp_idx (hu_of hr) (mp_var 12) (mcG C__law_draw tk gd hr (mp_cons (mp_var 1) (mp_cons (mp_callB call_lenV lenV_ok rfl T.z_len bt_len (mp_cons (mp_var 12) mp_nil)) mp_nil)))))
 (ms_cons (ms_set sc_law.nd (mcG C__law_draw tk gd hr (mp_cons (mp_var 1) (mp_cons (mp_op op_addV addV_ok (mp_callB call_lenV lenV_ok rfl T.z_len bt_len (mp_cons (mp_var 7) mp_nil)) mp_int) mp_nil))))
 (ms_cons (ms_if (mt_cmp (op_neM hr.units) neV_ok (mcG C__law_refused tk gd hr (mp_cons (mp_var 4) (mp_cons (mp_op op_addV addV_ok (mp_op op_addV addV_ok (mp_op op_addV addV_ok (mp_slice (mp_var 7) mp_pno (mp_psome (mp_var 15))) (mp_lst (mp_cons (mp_callTy call_list_of lstOf_ok rfl T.z_list bt_list (mp_cons (mp_var 13) mp_nil)) mp_nil))) (mp_slice (mp_var 7) (mp_psome (mp_var 15)) mp_pno)) (mp_lst (mp_cons (mp_var 14) mp_nil))) mp_nil))) (mp_var 13))
 (ms_one (ms_ret mp_bl))
 ms_nil)
 (ms_one (ms_ret (mp_and (mp_cmp (op_eqM hr.units) eqV_ok (mcG C_with_once tk gd hr (mp_cons (mp_var 4) (mp_cons (mp_var 7) mp_nil))) (mp_var 8)) (mp_one (mp_or (mp_cmp (op_eqM hr.units) eqV_ok (mp_var 7) (mp_lst mp_nil)) (mp_one (mp_cmp (op_eqM hr.units) eqV_ok (mcG C__law_refused tk gd hr (mp_cons (mp_var 8) (mp_cons (mp_var 7) mp_nil))) (mp_idx (hu_of hr) (mp_var 7) mp_int))))))))))))))))))))))))))))))
end
theorem all_mk {l : PySem.W.OpenLaw} {w : World} {K : PySem.W.Frag} {h : Heap} {mg : Str → Option Value} {fa f0 f1 f2 f3 f4 f5 f6 f7 f8 f9 f10 f11 f12 f13 f14 f15 f16 f17 f18 f19 f20 f21 fs0 kc0 kc1 : Addr} (X : K.In h) (G : h.Ns mainGlobals mg) (hfa : mg "law" = some (.ref fa))
    {od0 an0 od1 an1 od2 an2 od3 an3 od4 an4 od5 an5 od6 an6 od7 an7 od8 an8 od9 an9 od10 an10 od11 an11 od12 an12 od13 an13 od14 an14 od15 an15 od16 an16 od17 an17 od18 an18 od19 an19 od20 an20 od21 an21 : Option Addr} {sl0 sl1 sl2 sl3 sl4 sl5 sl6 sl7 sl8 sl9 sl10 sl11 sl12 sl13 sl14 sl15 sl16 sl17 sl18 sl19 sl20 sl21 : Array (Option Value)} {oc0 kV0 dc0 pm0 cd0 ct0 oc1 kV1 dc1 pm1 cd1 ct1 oc2 kV2 dc2 pm2 cd2 ct2 oc3 kV3 dc3 pm3 cd3 ct3 oc4 kV4 dc4 pm4 cd4 ct4 oc5 kV5 dc5 pm5 cd5 ct5 oc6 kV6 dc6 pm6 cd6 ct6 oc7 kV7 dc7 pm7 cd7 ct7 oc8 kV8 dc8 pm8 cd8 ct8 oc9 kV9 dc9 pm9 cd9 ct9 oc10 kV10 dc10 pm10 cd10 ct10 oc11 kV11 dc11 pm11 cd11 ct11 oc12 kV12 dc12 pm12 cd12 ct12 oc13 kV13 dc13 pm13 cd13 ct13 oc14 kV14 dc14 pm14 cd14 ct14 oc15 kV15 dc15 pm15 cd15 ct15 oc16 kV16 dc16 pm16 cd16 ct16 oc17 kV17 dc17 pm17 cd17 ct17 oc18 kV18 dc18 pm18 cd18 ct18 oc19 kV19 dc19 pm19 cd19 ct19 oc20 kV20 dc20 pm20 cd20 ct20 oc21 kV21 dc21 pm21 cd21 ct21 : Value}
    (L : ∀ cl : Nat → Addr, LawOk (m_law cl))
    (ka0 : PySem.W.nsIn K mainGlobals "RestsError" = some (some (.ref kc0)))
    (ka1 : PySem.W.nsIn K mainGlobals "NoKeep" = some (some (.ref kc1)))
    (xe0 : PySem.W.subIn K (.ref kc0) (.type "BaseException") = some true)
    (xt0 : PySem.W.typeIn K (.ref kc0) = some (.type "type"))
    (xd0 : PySem.W.hasDictIn K kc0 = true)
    (xs_1_0 : PySem.W.subIn K (.ref kc1) (.ref kc0) = some true)
    (xe1 : PySem.W.subIn K (.ref kc1) (.type "BaseException") = some true)
    (xt1 : PySem.W.typeIn K (.ref kc1) = some (.type "type"))
    (xd1 : PySem.W.hasDictIn K kc1 = true)
    (xp1 : (PySem.W.clsIn K kc1).isSome = true)
    (xs_1_1 : PySem.W.subIn K (.ref kc1) (.ref kc1) = some true)
    {nm1 : _} {q1 : _} {N1 : _} {bs1 : _} {bm1 : _} {sn1 : _} {sub1 : _} {ab1 : _} {col1 : _} {dd1 : _} {m01 : _} {m11 : _} {m21 : _} {m31 : _} {m51 : _} (xl1 : K.lookup kc1 = some (excClassObj nm1 q1 kc1 N1 bs1 bm1 true sn1 sub1 ab1 col1 dd1 m01 m11 m21 m31 m51 "ValueError.__new__"))
    (xb1 : PySem.HandSPX.refsVE bm1 = true)
    (xa1 : PySem.W.findIn K (.ref kc1) "__setattr__" = some (some (.builtin "object.__setattr__")))
    (xk1 : PySem.W.keepIn K (.ref kc1) = true)
    (xf_path_1 : PySem.W.findIn K (.ref kc1) "path" = some none)
    (xg1 : PySem.W.findIn K (.ref kc1) "__getattribute__" = some (some (.builtin "BaseException.__getattribute__")))
    (xh1 : PySem.W.findIn K (.ref kc1) "__getattr__" = some none)
    (xv1 : PySem.W.findIn K (.ref kc1) "__class__" = some (some (.builtin "object.__class__")))
    (xw1 : PySem.W.mroIn K kc1 (.type "object") = some true)
    (iy : PySem.W.specialIn K (.builtin "object.__class__") "__get__" = some (some (.builtin "getset_descriptor.__get__")))
    (iz : PySem.W.takesIn K (.builtin "object.__class__") = some true)
    (xr0 : PySem.W.readsIn K kc0 (.type "type") = true)
    (xq0 : PySem.W.specialIn K (.ref kc0) "__getattribute__" = some (some (.builtin "type.__getattribute__")))
    (xo0 : PySem.W.findCls K (.ref kc0) (.type "type") "__init__" = some (.val (.builtin "ValueError.__init__")))
    (xi1 : PySem.W.findIn K (.ref kc1) "__init__" = some (some (.ref fs0)))
    {ods0 ans0 : Option Addr} {sls0 : Array (Option Value)} {ocs0 kVs0 dcs0 pms0 cds0 cts0 : Value} (ls0 : K.lookup fs0 = some ⟨ocs0, ods0, .func (PySem.W.fnOf "__init__" "NoKeep.__init__" (defArgs s_NoKeep___init__) (defBody s_NoKeep___init__) (defScope s_NoKeep___init__) .none kVs0 dcs0 pms0 ans0 cds0 cts0), sls0⟩) (cs0 : PySem.W.codeIn K cds0 "NoKeep.__init__" = true) (ks0 : PySem.W.keepIn K (.ref fs0) = true)
    (tys0 : PySem.W.typeIn K (.ref fs0) = some (.type "function"))
    (a0 : PySem.W.nsIn K mainGlobals "parts_of" = some (some (.ref f0)))
    (l0 : K.lookup f0 = some ⟨oc0, od0, .func (PySem.W.fnOf "parts_of" "parts_of" (defArgs s_parts_of) (defBody s_parts_of) (defScope s_parts_of) .none kV0 dc0 pm0 an0 cd0 ct0), sl0⟩) (c0 : PySem.W.codeIn K cd0 "parts_of" = true) (k0 : PySem.W.keepIn K (.ref f0) = true)
    (a1 : PySem.W.nsIn K mainGlobals "with_parts" = some (some (.ref f1)))
    (l1 : K.lookup f1 = some ⟨oc1, od1, .func (PySem.W.fnOf "with_parts" "with_parts" (defArgs s_with_parts) (defBody s_with_parts) (defScope s_with_parts) .none kV1 dc1 pm1 an1 cd1 ct1), sl1⟩) (c1 : PySem.W.codeIn K cd1 "with_parts" = true) (k1 : PySem.W.keepIn K (.ref f1) = true)
    (a2 : PySem.W.nsIn K mainGlobals "tree_at" = some (some (.ref f2)))
    (l2 : K.lookup f2 = some ⟨oc2, od2, .func (PySem.W.fnOf "tree_at" "tree_at" (defArgs s_tree_at) (defBody s_tree_at) (defScope s_tree_at) .none kV2 dc2 pm2 an2 cd2 ct2), sl2⟩) (c2 : PySem.W.codeIn K cd2 "tree_at" = true) (k2 : PySem.W.keepIn K (.ref f2) = true)
    (a3 : PySem.W.nsIn K mainGlobals "tree_with" = some (some (.ref f3)))
    (l3 : K.lookup f3 = some ⟨oc3, od3, .func (PySem.W.fnOf "tree_with" "tree_with" (defArgs s_tree_with) (defBody s_tree_with) (defScope s_tree_with) .none kV3 dc3 pm3 an3 cd3 ct3), sl3⟩) (c3 : PySem.W.codeIn K cd3 "tree_with" = true) (k3 : PySem.W.keepIn K (.ref f3) = true)
    (a4 : PySem.W.nsIn K mainGlobals "tree_paths" = some (some (.ref f4)))
    (l4 : K.lookup f4 = some ⟨oc4, od4, .func (PySem.W.fnOf "tree_paths" "tree_paths" (defArgs s_tree_paths) (defBody s_tree_paths) (defScope s_tree_paths) .none kV4 dc4 pm4 an4 cd4 ct4), sl4⟩) (c4 : PySem.W.codeIn K cd4 "tree_paths" = true) (k4 : PySem.W.keepIn K (.ref f4) = true)
    (a5 : PySem.W.nsIn K mainGlobals "keep_paths" = some (some (.ref f5)))
    (l5 : K.lookup f5 = some ⟨oc5, od5, .func (PySem.W.fnOf "keep_paths" "keep_paths" (defArgs s_keep_paths) (defBody s_keep_paths) (defScope s_keep_paths) .none kV5 dc5 pm5 an5 cd5 ct5), sl5⟩) (c5 : PySem.W.codeIn K cd5 "keep_paths" = true) (k5 : PySem.W.keepIn K (.ref f5) = true)
    (a6 : PySem.W.nsIn K mainGlobals "with_once" = some (some (.ref f6)))
    (l6 : K.lookup f6 = some ⟨oc6, od6, .func (PySem.W.fnOf "with_once" "with_once" (defArgs s_with_once) (defBody s_with_once) (defScope s_with_once) .none kV6 dc6 pm6 an6 cd6 ct6), sl6⟩) (c6 : PySem.W.codeIn K cd6 "with_once" = true) (k6 : PySem.W.keepIn K (.ref f6) = true)
    (a7 : PySem.W.nsIn K mainGlobals "_law_mix" = some (some (.ref f7)))
    (l7 : K.lookup f7 = some ⟨oc7, od7, .func (PySem.W.fnOf "_law_mix" "_law_mix" (defArgs s__law_mix) (defBody s__law_mix) (defScope s__law_mix) .none kV7 dc7 pm7 an7 cd7 ct7), sl7⟩) (c7 : PySem.W.codeIn K cd7 "_law_mix" = true) (k7 : PySem.W.keepIn K (.ref f7) = true)
    (a8 : PySem.W.nsIn K mainGlobals "_law_hand" = some (some (.ref f8)))
    (l8 : K.lookup f8 = some ⟨oc8, od8, .func (PySem.W.fnOf "_law_hand" "_law_hand" (defArgs s__law_hand) (defBody s__law_hand) (defScope s__law_hand) .none kV8 dc8 pm8 an8 cd8 ct8), sl8⟩) (c8 : PySem.W.codeIn K cd8 "_law_hand" = true) (k8 : PySem.W.keepIn K (.ref f8) = true)
    (a9 : PySem.W.nsIn K mainGlobals "_law_draw" = some (some (.ref f9)))
    (l9 : K.lookup f9 = some ⟨oc9, od9, .func (PySem.W.fnOf "_law_draw" "_law_draw" (defArgs s__law_draw) (defBody s__law_draw) (defScope s__law_draw) .none kV9 dc9 pm9 an9 cd9 ct9), sl9⟩) (c9 : PySem.W.codeIn K cd9 "_law_draw" = true) (k9 : PySem.W.keepIn K (.ref f9) = true)
    (a10 : PySem.W.nsIn K mainGlobals "_law_pick" = some (some (.ref f10)))
    (l10 : K.lookup f10 = some ⟨oc10, od10, .func (PySem.W.fnOf "_law_pick" "_law_pick" (defArgs s__law_pick) (defBody s__law_pick) (defScope s__law_pick) .none kV10 dc10 pm10 an10 cd10 ct10), sl10⟩) (c10 : PySem.W.codeIn K cd10 "_law_pick" = true) (k10 : PySem.W.keepIn K (.ref f10) = true)
    (a11 : PySem.W.nsIn K mainGlobals "_law_any_leaf" = some (some (.ref f11)))
    (l11 : K.lookup f11 = some ⟨oc11, od11, .func (PySem.W.fnOf "_law_any_leaf" "_law_any_leaf" (defArgs s__law_any_leaf) (defBody s__law_any_leaf) (defScope s__law_any_leaf) .none kV11 dc11 pm11 an11 cd11 ct11), sl11⟩) (c11 : PySem.W.codeIn K cd11 "_law_any_leaf" = true) (k11 : PySem.W.keepIn K (.ref f11) = true)
    (a12 : PySem.W.nsIn K mainGlobals "_law_any_names" = some (some (.ref f12)))
    (l12 : K.lookup f12 = some ⟨oc12, od12, .func (PySem.W.fnOf "_law_any_names" "_law_any_names" (defArgs s__law_any_names) (defBody s__law_any_names) (defScope s__law_any_names) .none kV12 dc12 pm12 an12 cd12 ct12), sl12⟩) (c12 : PySem.W.codeIn K cd12 "_law_any_names" = true) (k12 : PySem.W.keepIn K (.ref f12) = true)
    (a13 : PySem.W.nsIn K mainGlobals "_law_any_fun" = some (some (.ref f13)))
    (l13 : K.lookup f13 = some ⟨oc13, od13, .func (PySem.W.fnOf "_law_any_fun" "_law_any_fun" (defArgs s__law_any_fun) (defBody s__law_any_fun) (defScope s__law_any_fun) .none kV13 dc13 pm13 an13 cd13 ct13), sl13⟩) (c13 : PySem.W.codeIn K cd13 "_law_any_fun" = true) (k13 : PySem.W.keepIn K (.ref f13) = true)
    (a14 : PySem.W.nsIn K mainGlobals "_law_any" = some (some (.ref f14)))
    (l14 : K.lookup f14 = some ⟨oc14, od14, .func (PySem.W.fnOf "_law_any" "_law_any" (defArgs s__law_any) (defBody s__law_any) (defScope s__law_any) .none kV14 dc14 pm14 an14 cd14 ct14), sl14⟩) (c14 : PySem.W.codeIn K cd14 "_law_any" = true) (k14 : PySem.W.keepIn K (.ref f14) = true)
    (a15 : PySem.W.nsIn K mainGlobals "_law_parts" = some (some (.ref f15)))
    (l15 : K.lookup f15 = some ⟨oc15, od15, .func (PySem.W.fnOf "_law_parts" "_law_parts" (defArgs s__law_parts) (defBody s__law_parts) (defScope s__law_parts) .none kV15 dc15 pm15 an15 cd15 ct15), sl15⟩) (c15 : PySem.W.codeIn K cd15 "_law_parts" = true) (k15 : PySem.W.keepIn K (.ref f15) = true)
    (a16 : PySem.W.nsIn K mainGlobals "_law_keeps" = some (some (.ref f16)))
    (l16 : K.lookup f16 = some ⟨oc16, od16, .func (PySem.W.fnOf "_law_keeps" "_law_keeps" (defArgs s__law_keeps) (defBody s__law_keeps) (defScope s__law_keeps) .none kV16 dc16 pm16 an16 cd16 ct16), sl16⟩) (c16 : PySem.W.codeIn K cd16 "_law_keeps" = true) (k16 : PySem.W.keepIn K (.ref f16) = true)
    (a17 : PySem.W.nsIn K mainGlobals "_law_worded" = some (some (.ref f17)))
    (l17 : K.lookup f17 = some ⟨oc17, od17, .func (PySem.W.fnOf "_law_worded" "_law_worded" (defArgs s__law_worded) (defBody s__law_worded) (defScope s__law_worded) .none kV17 dc17 pm17 an17 cd17 ct17), sl17⟩) (c17 : PySem.W.codeIn K cd17 "_law_worded" = true) (k17 : PySem.W.keepIn K (.ref f17) = true)
    (a18 : PySem.W.nsIn K mainGlobals "_law_joined" = some (some (.ref f18)))
    (l18 : K.lookup f18 = some ⟨oc18, od18, .func (PySem.W.fnOf "_law_joined" "_law_joined" (defArgs s__law_joined) (defBody s__law_joined) (defScope s__law_joined) .none kV18 dc18 pm18 an18 cd18 ct18), sl18⟩) (c18 : PySem.W.codeIn K cd18 "_law_joined" = true) (k18 : PySem.W.keepIn K (.ref f18) = true)
    (a19 : PySem.W.nsIn K mainGlobals "_law_paths" = some (some (.ref f19)))
    (l19 : K.lookup f19 = some ⟨oc19, od19, .func (PySem.W.fnOf "_law_paths" "_law_paths" (defArgs s__law_paths) (defBody s__law_paths) (defScope s__law_paths) .none kV19 dc19 pm19 an19 cd19 ct19), sl19⟩) (c19 : PySem.W.codeIn K cd19 "_law_paths" = true) (k19 : PySem.W.keepIn K (.ref f19) = true)
    (a20 : PySem.W.nsIn K mainGlobals "_law_refused" = some (some (.ref f20)))
    (l20 : K.lookup f20 = some ⟨oc20, od20, .func (PySem.W.fnOf "_law_refused" "_law_refused" (defArgs s__law_refused) (defBody s__law_refused) (defScope s__law_refused) .none kV20 dc20 pm20 an20 cd20 ct20), sl20⟩) (c20 : PySem.W.codeIn K cd20 "_law_refused" = true) (k20 : PySem.W.keepIn K (.ref f20) = true)
    (a21 : PySem.W.nsIn K mainGlobals "law" = some (some (.ref f21)))
    (l21 : K.lookup f21 = some ⟨oc21, od21, .func (PySem.W.fnOf "law" "law" (defArgs s_law) (defBody s_law) (defScope s_law) .none kV21 dc21 pm21 an21 cd21 ct21), sl21⟩) (c21 : PySem.W.codeIn K cd21 "law" = true) (k21 : PySem.W.keepIn K (.ref f21) = true)
    (z_tuple : PySem.W.nsIn K mainGlobals "tuple" = some none)
    (z_zip : PySem.W.nsIn K mainGlobals "zip" = some none)
    (z_len : PySem.W.nsIn K mainGlobals "len" = some none)
    (z_list : PySem.W.nsIn K mainGlobals "list" = some none)
    (z_enumerate : PySem.W.nsIn K mainGlobals "enumerate" = some none)
    (z_int : PySem.W.nsIn K mainGlobals "int" = some none)
    (z_abs : PySem.W.nsIn K mainGlobals "abs" = some none)
    (z_min : PySem.W.nsIn K mainGlobals "min" = some none)
    (z_range : PySem.W.nsIn K mainGlobals "range" = some none)
    (z_isinstance : PySem.W.nsIn K mainGlobals "isinstance" = some none)
    : ∃ (m : MF) (fd : FuncData), LawOk m ∧ (∀ (s : Shared) (v : Value), BindsTo s fd ⟨[v], []⟩ [("script", v)]) ∧ ∀ base : Heap, K.In base → base.Ns mainGlobals mg → FnG l.prog w K mg base 29 fa fd ["script"] (spM K m) := by
  have e := hfa.symm.trans (PySem.W.mg_of X G a21)
  cases e
  let cl : Nat → Addr := fun i => match i with | 0 => kc0 | 1 => kc1 | _ => 0
  have X1 : OexC K (cl 1) := ⟨⟨_, _, _, _, _, _, _, _, _, _, _, _, _, _, _, xl1, xb1⟩, xa1, xe1, xt1, xk1⟩
  have T : Txt K mg cl := ⟨PySem.W.mg_of X G ka0, PySem.W.mg_of X G ka1, all_cons (PySem.W.exm_ref xe0 xd0 xt0 xs_1_0) (all_nil), ⟨all_cons ⟨⟨xg1, xh1, xe1, xd1, xv1, iy, iz, xw1⟩, kit_same⟩ (all_nil)⟩, all_cons ⟨⟨xg1, xh1, xe1, xd1⟩, xf_path_1⟩ (all_nil), PySem.W.mg_none_of X G z_tuple, PySem.W.mg_none_of X G z_zip, PySem.W.mg_none_of X G z_len, PySem.W.mg_none_of X G z_list, PySem.W.mg_none_of X G z_enumerate, PySem.W.mg_none_of X G z_int, PySem.W.mg_none_of X G z_abs, PySem.W.mg_none_of X G z_min, PySem.W.mg_none_of X G z_range, PySem.W.mg_none_of X G z_isinstance⟩
  have F0 := fun_mk (st := s_parts_of) l0 c0 k0
  have B0 := F0.binds (ps := ["tree"]) fun _ _ _ _ _ _ us hl => match us, hl with | [_], _ => rfl
  have D0 : DefAt K mg "parts_of" s_parts_of f0 _ ["tree"] := ⟨F0, PySem.W.mg_of X G a0, k0, B0⟩
  have F1 := fun_mk (st := s_with_parts) l1 c1 k1
  have B1 := F1.binds (ps := ["tree", "parts"]) fun _ _ _ _ _ _ us hl => match us, hl with | [_, _], _ => rfl
  have D1 : DefAt K mg "with_parts" s_with_parts f1 _ ["tree", "parts"] := ⟨F1, PySem.W.mg_of X G a1, k1, B1⟩
  have F2 := fun_mk (st := s_tree_at) l2 c2 k2
  have B2 := F2.binds (ps := ["tree", "path"]) fun _ _ _ _ _ _ us hl => match us, hl with | [_, _], _ => rfl
  have D2 : DefAt K mg "tree_at" s_tree_at f2 _ ["tree", "path"] := ⟨F2, PySem.W.mg_of X G a2, k2, B2⟩
  have F3 := fun_mk (st := s_tree_with) l3 c3 k3
  have B3 := F3.binds (ps := ["tree", "path", "other"]) fun _ _ _ _ _ _ us hl => match us, hl with | [_, _, _], _ => rfl
  have D3 : DefAt K mg "tree_with" s_tree_with f3 _ ["tree", "path", "other"] := ⟨F3, PySem.W.mg_of X G a3, k3, B3⟩
  have F4 := fun_mk (st := s_tree_paths) l4 c4 k4
  have B4 := F4.binds (ps := ["tree"]) fun _ _ _ _ _ _ us hl => match us, hl with | [_], _ => rfl
  have D4 : DefAt K mg "tree_paths" s_tree_paths f4 _ ["tree"] := ⟨F4, PySem.W.mg_of X G a4, k4, B4⟩
  have F5 := fun_mk (st := s_keep_paths) l5 c5 k5
  have B5 := F5.binds (ps := ["tree"]) fun _ _ _ _ _ _ us hl => match us, hl with | [_], _ => rfl
  have D5 : DefAt K mg "keep_paths" s_keep_paths f5 _ ["tree"] := ⟨F5, PySem.W.mg_of X G a5, k5, B5⟩
  have F6 := fun_mk (st := s_with_once) l6 c6 k6
  have B6 := F6.binds (ps := ["tree", "paths"]) fun _ _ _ _ _ _ us hl => match us, hl with | [_, _], _ => rfl
  have D6 : DefAt K mg "with_once" s_with_once f6 _ ["tree", "paths"] := ⟨F6, PySem.W.mg_of X G a6, k6, B6⟩
  have F7 := fun_mk (st := s__law_mix) l7 c7 k7
  have B7 := F7.binds (ps := ["number", "turn"]) fun _ _ _ _ _ _ us hl => match us, hl with | [_, _], _ => rfl
  have D7 : DefAt K mg "_law_mix" s__law_mix f7 _ ["number", "turn"] := ⟨F7, PySem.W.mg_of X G a7, k7, B7⟩
  have F8 := fun_mk (st := s__law_hand) l8 c8 k8
  have B8 := F8.binds (ps := ["script"]) fun _ _ _ _ _ _ us hl => match us, hl with | [_], _ => rfl
  have D8 : DefAt K mg "_law_hand" s__law_hand f8 _ ["script"] := ⟨F8, PySem.W.mg_of X G a8, k8, B8⟩
  have F9 := fun_mk (st := s__law_draw) l9 c9 k9
  have B9 := F9.binds (ps := ["hand", "many"]) fun _ _ _ _ _ _ us hl => match us, hl with | [_, _], _ => rfl
  have D9 : DefAt K mg "_law_draw" s__law_draw f9 _ ["hand", "many"] := ⟨F9, PySem.W.mg_of X G a9, k9, B9⟩
  have F10 := fun_mk (st := s__law_pick) l10 c10 k10
  have B10 := F10.binds (ps := ["hand", "things"]) fun _ _ _ _ _ _ us hl => match us, hl with | [_, _], _ => rfl
  have D10 : DefAt K mg "_law_pick" s__law_pick f10 _ ["hand", "things"] := ⟨F10, PySem.W.mg_of X G a10, k10, B10⟩
  have F11 := fun_mk (st := s__law_any_leaf) l11 c11 k11
  have B11 := F11.binds (ps := ["hand", "names"]) fun _ _ _ _ _ _ us hl => match us, hl with | [_, _], _ => rfl
  have D11 : DefAt K mg "_law_any_leaf" s__law_any_leaf f11 _ ["hand", "names"] := ⟨F11, PySem.W.mg_of X G a11, k11, B11⟩
  have F12 := fun_mk (st := s__law_any_names) l12 c12 k12
  have B12 := F12.binds (ps := ["hand", "names", "most"]) fun _ _ _ _ _ _ us hl => match us, hl with | [_, _, _], _ => rfl
  have D12 : DefAt K mg "_law_any_names" s__law_any_names f12 _ ["hand", "names", "most"] := ⟨F12, PySem.W.mg_of X G a12, k12, B12⟩
  have F13 := fun_mk (st := s__law_any_fun) l13 c13 k13
  have B13 := F13.binds (ps := ["hand", "deep", "names", "room", "most"]) fun _ _ _ _ _ _ us hl => match us, hl with | [_, _, _, _, _], _ => rfl
  have D13 : DefAt K mg "_law_any_fun" s__law_any_fun f13 _ ["hand", "deep", "names", "room", "most"] := ⟨F13, PySem.W.mg_of X G a13, k13, B13⟩
  have F14 := fun_mk (st := s__law_any) l14 c14 k14
  have B14 := F14.binds (ps := ["hand", "deep", "names", "room"]) fun _ _ _ _ _ _ us hl => match us, hl with | [_, _, _, _], _ => rfl
  have D14 : DefAt K mg "_law_any" s__law_any f14 _ ["hand", "deep", "names", "room"] := ⟨F14, PySem.W.mg_of X G a14, k14, B14⟩
  have F15 := fun_mk (st := s__law_parts) l15 c15 k15
  have B15 := F15.binds (ps := ["tree"]) fun _ _ _ _ _ _ us hl => match us, hl with | [_], _ => rfl
  have D15 : DefAt K mg "_law_parts" s__law_parts f15 _ ["tree"] := ⟨F15, PySem.W.mg_of X G a15, k15, B15⟩
  have F16 := fun_mk (st := s__law_keeps) l16 c16 k16
  have B16 := F16.binds (ps := ["tree", "path"]) fun _ _ _ _ _ _ us hl => match us, hl with | [_, _], _ => rfl
  have D16 : DefAt K mg "_law_keeps" s__law_keeps f16 _ ["tree", "path"] := ⟨F16, PySem.W.mg_of X G a16, k16, B16⟩
  have F17 := fun_mk (st := s__law_worded) l17 c17 k17
  have B17 := F17.binds (ps := ["tree", "path", "paths", "word"]) fun _ _ _ _ _ _ us hl => match us, hl with | [_, _, _, _], _ => rfl
  have D17 : DefAt K mg "_law_worded" s__law_worded f17 _ ["tree", "path", "paths", "word"] := ⟨F17, PySem.W.mg_of X G a17, k17, B17⟩
  have F18 := fun_mk (st := s__law_joined) l18 c18 k18
  have B18 := F18.binds (ps := ["tree", "inner"]) fun _ _ _ _ _ _ us hl => match us, hl with | [_, _], _ => rfl
  have D18 : DefAt K mg "_law_joined" s__law_joined f18 _ ["tree", "inner"] := ⟨F18, PySem.W.mg_of X G a18, k18, B18⟩
  have F19 := fun_mk (st := s__law_paths) l19 c19 k19
  have B19 := F19.binds (ps := ["tree", "path"]) fun _ _ _ _ _ _ us hl => match us, hl with | [_, _], _ => rfl
  have D19 : DefAt K mg "_law_paths" s__law_paths f19 _ ["tree", "path"] := ⟨F19, PySem.W.mg_of X G a19, k19, B19⟩
  have F20 := fun_mk (st := s__law_refused) l20 c20 k20
  have B20 := F20.binds (ps := ["tree", "paths"]) fun _ _ _ _ _ _ us hl => match us, hl with | [_, _], _ => rfl
  have D20 : DefAt K mg "_law_refused" s__law_refused f20 _ ["tree", "paths"] := ⟨F20, PySem.W.mg_of X G a20, k20, B20⟩
  have F21 := fun_mk (st := s_law) l21 c21 k21
  have B21 := F21.binds (ps := ["script"]) fun _ _ _ _ _ _ us hl => match us, hl with | [_], _ => rfl
  have D21 : DefAt K mg "law" s_law _ _ ["script"] := ⟨F21, PySem.W.mg_of X G a21, k21, B21⟩
  refine ⟨m_law cl, PySem.W.fnOf "law" "law" (defArgs s_law) (defBody s_law) (defScope s_law) .none kV21 dc21 pm21 an21 cd21 ct21, L cl, fun s v => .of_eq rfl, fun base _ _ => ?_⟩
  have Fs0 := fun_mk (st := s_NoKeep___init__) ls0 cs0 ks0
  have Bs0 := Fs0.binds (ps := ["self", "path"]) fun _ _ _ _ _ _ us hl => match us, hl with | [_, _], _ => rfl
  have C_parts_of : CalG l.prog w K mg base 1 "parts_of" (m_parts_of cl) := D0.calG (ok_parts_of T  D0)
  have C_with_parts : CalG l.prog w K mg base 1 "with_parts" (m_with_parts cl) := D1.calG (ok_with_parts T  D1)
  have C__law_mix : CalG l.prog w K mg base 1 "_law_mix" m__law_mix := D7.calG (ok__law_mix T  D7)
  have C__law_hand : CalG l.prog w K mg base 1 "_law_hand" m__law_hand := D8.calG (ok__law_hand T  D8)
  have C__law_parts : CalG l.prog w K mg base 1 "_law_parts" (m__law_parts cl) := D15.calG (ok__law_parts T  D15)
  have C__law_joined : CalG l.prog w K mg base 1 "_law_joined" (m__law_joined cl) := D18.calG (ok__law_joined T  D18)
  have C_tree_at : CalG l.prog w K mg base 2 "tree_at" (m_tree_at cl) := D2.calG (ok_tree_at T C_parts_of D2)
  have C__law_draw : CalG l.prog w K mg base 2 "_law_draw" m__law_draw := D9.calG (ok__law_draw T C__law_mix D9)
  have C__law_pick : CalG l.prog w K mg base 3 "_law_pick" m__law_pick := D10.calG (ok__law_pick T C__law_draw D10)
  have C__law_any_names : CalG l.prog w K mg base 3 "_law_any_names" (m__law_any_names cl) := D12.calG (ok__law_any_names T C__law_draw D12)
  have C__law_any_leaf : CalG l.prog w K mg base 4 "_law_any_leaf" (m__law_any_leaf cl) := D11.calG (ok__law_any_leaf T C__law_draw C__law_pick D11)
  have S__law_keeps := ok_R__law_keeps (P := l.prog) (w := w) (base := base) T C__law_parts D16 24
  have C__law_keeps : CalG l.prog w K mg base 25 "_law_keeps" (m__law_keeps cl 24) := D16.calG S__law_keeps
  have S__law_paths := ok_R__law_paths (P := l.prog) (w := w) (base := base) T C__law_parts D19 24
  have C__law_paths : CalG l.prog w K mg base 25 "_law_paths" (m__law_paths cl 24) := D19.calG S__law_paths
  have S__law_worded := ok_R__law_worded (P := l.prog) (w := w) (base := base) T C__law_parts C__law_joined D17 24
  have C__law_worded : CalG l.prog w K mg base 25 "_law_worded" (m__law_worded cl 24) := D17.calG S__law_worded
  have S_tree_paths := ok_R_tree_paths (P := l.prog) (w := w) (base := base) T C_parts_of D4 24
  have C_tree_paths : CalG l.prog w K mg base 25 "tree_paths" (m_tree_paths cl 24) := D4.calG S_tree_paths
  have S_tree_with := ok_R_tree_with (P := l.prog) (w := w) (base := base) T C_parts_of C_with_parts D3 24
  have C_tree_with : CalG l.prog w K mg base 25 "tree_with" (m_tree_with cl 24) := D3.calG S_tree_with
  have C_keep_paths : CalG l.prog w K mg base 26 "keep_paths" (m_keep_paths cl) := D5.calG (ok_keep_paths T C_tree_paths C_tree_at D5)
  have R_NoKeep : RaG l.prog w K mg base 1 "NoKeep" (k_NoKeep cl) ["path"] := ⟨fs0, _, _, X1, xi1, tys0, init1b X1 xf_path_1 Fs0 sc_NoKeep___init__ (fun _ _ _ _ _ _ => (pss_cons (ps_ost (pv 0) (pv 1)) (pss_one (ps_expr (pe_basei rfl (PySem.W.mg_of X G ka0) ⟨xr0, xq0, xo0⟩ (pa_cons (pv 0) (pa_cons pe_str pa_nil))))))), Bs0, PySem.W.mg_of X G ka1⟩
  have C_with_once : CalG l.prog w K mg base 27 "with_once" (m_with_once cl) := D6.calG (ok_with_once T C_keep_paths R_NoKeep C_tree_with C_tree_at D6)
  have C__law_refused : CalG l.prog w K mg base 28 "_law_refused" (m__law_refused cl) := D20.calG (ok__law_refused T C_with_once D20)
  have S__law_any_fun := ok_R__law_any_fun (P := l.prog) (w := w) (base := base) T C__law_any_names C__law_any_leaf C__law_pick C__law_draw D13 D14 24
  have C__law_any_fun : CalG l.prog w K mg base 28 "_law_any_fun" (m__law_any_fun cl 24) := D13.calG S__law_any_fun.1
  have C__law_any : CalG l.prog w K mg base 28 "_law_any" (m__law_any cl 24) := D14.calG S__law_any_fun.2
  exact ok_law T C__law_hand C__law_any C__law_draw C__law_keeps C_keep_paths C__law_worded C_with_once C__law_paths C__law_refused D21
end Law
end

section
namespace Law
open PySem L2 Mm
/-! the step of the pure proofs -/
local macro_rules
  | `(tactic| walk_at "wp side") => `(tactic| first | assumption | omega | decide)
local macro_rules
  | `(tactic| walk_at "wp1") => `(tactic| with_reducible first
    | refine Mm.v_seq ?_ | refine Mm.v_nx ?_ | refine Mm.v_asg ?_ | refine Mm.v_asgP ?_ | refine Mm.v_ret ?_ | refine Mm.v_retN ?_ | refine Mm.v_drop ?_ | refine Mm.v_set ?_ | refine Mm.v_aug ?_ | refine Mm.v_for ?_ | refine Mm.v_brk ?_ | refine Mm.v_ct ?_
    | refine Mm.w_con ?_ | refine Mm.w_op2 ?_ | refine Mm.w_op1 ?_ | refine Mm.w_opL ?_ | refine Mm.w_cons ?_ | refine Mm.w_nil ?_
    | refine Mm.w_add ?_ | refine Mm.w_sub ?_ | refine Mm.w_neg ?_ | refine Mm.w_lt ?_ | refine Mm.w_le ?_ | refine Mm.w_gt ?_ | refine Mm.w_ge ?_ | refine Mm.w_eqi ?_ | refine Mm.w_nei ?_ | refine Mm.w_eqs ?_ | refine Mm.w_nes ?_ | refine Mm.w_int ?_ | refine Mm.w_abs ?_ | refine Mm.w_isN ?_ | refine Mm.w_notN ?_ | refine Mm.w_min ?_ | refine Mm.w_max ?_
    | refine Mm.w_tru ?_ | refine Mm.w_blM ?_ | refine Mm.w_andB ?_ | refine Mm.w_orB ?_ | refine Mm.w_notB ?_ | refine Mm.w_ifV ?_ | refine Mm.w_andV ?_ | refine Mm.w_orV ?_ | refine Mm.w_notV ?_ | refine Mm.w_truB ?_ | refine Mm.w_truI ?_ | refine Mm.w_truN ?_ | refine Mm.w_truT ?_
    | refine Mm.w_dNewK ?_ | refine Mm.w_dNewT ?_ | refine Mm.w_iter ?_ | refine Mm.w_strS ?_ | refine Mm.w_inT ?_ | refine Mm.w_idxTM ?_ | refine Mm.v_setTM ?_ | refine Mm.v_par ?_ | refine Mm.w_met ?_ | refine Mm.w_itmM ?_ | refine Mm.w_enm ?_ | refine Mm.w_enm2 ?_ | refine Mm.w_zip ?_ | refine Mm.w_rev ?_ | refine Mm.w_bm ?_ | refine Mm.w_lc ?_ | refine Mm.w_yes ?_ | refine Mm.br_t ?_ | refine Mm.br_f ?_ | refine Mm.w_slc ?_ | refine Mm.w_pno ?_ | refine Mm.w_pso ?_ | refine Mm.w_lenT ?_ | refine Mm.w_tupT ?_ | refine Mm.w_lstT ?_ | refine Mm.w_cutT ?_)
local macro_rules
  | `(tactic| walk_at "sto") => `(tactic| first
    | with_reducible assumption
    | with_reducible exact Mm.put_same
    | with_reducible exact Mm.add_same
    | (with_reducible refine (Mm.put_ne (by first | assumption | exact Ne.symm (by assumption) | ((try dsimp only [Mm.Sto.add, Mm.Sto.put]); omega))).trans ?_; walk_at "sto")
    | (with_reducible refine (Mm.add_ne (by first | assumption | exact Ne.symm (by assumption) | ((try dsimp only [Mm.Sto.add, Mm.Sto.put]); omega))).trans ?_; walk_at "sto")
    | fail)
local macro_rules
  | `(tactic| walk_at "lk") => `(tactic| first | with_reducible exact Mm.lk_here | with_reducible exact Mm.lk_nil | with_reducible assumption | (with_reducible apply Mm.lk_next; (· decide +kernel); (· walk_at "lk")) | fail)
local macro_rules
  | `(tactic| walk_at "pf") => `(tactic| first | with_reducible exact Mm.pf_nil | with_reducible exact Mm.pf_here | (with_reducible apply Mm.pf_next; (· decide +kernel); (· walk_at "pf")) | fail)
local macro_rules
  | `(tactic| walk_at "vf") => `(tactic| (refine' Mm.v_fldv ?a1 ?a2 ?a3 ?a4 ?a5 ?a6 ?a7; (case a1 => rfl); (case a2 => rfl); (case a3 => exact Mm.add_same); (case a4 => simp); (case a5 => simp only [List.length_cons, List.length_nil]; decide); (case a6 => walk_at "pf"); rw [Mm.add_put]))
local macro_rules
  | `(tactic| walk_at "tb") => `(tactic| first | with_reducible exact Mm.tb_here | (with_reducible apply Mm.tb_next; (· simp); (· walk_at "tb")) | fail)
local macro_rules
  | `(tactic| walk_at "wp2") => `(tactic| first
    | ((with_reducible apply Mm.w_var); · rfl)
    | ((with_reducible apply Mm.ex_mk); · with_reducible refine Mm.rng1 (by (try simp only [List.length_map]); omega))
    | ((with_reducible apply Mm.ex_mk); · with_reducible refine Mm.rng2 (by (try simp only [List.length_map]); omega))
    | ((with_reducible apply Mm.ex_mk); · rfl)
    | ((with_reducible refine Mm.br_true ?_ ?_); · rfl)
    | ((with_reducible refine Mm.br_false ?_ ?_); · rfl)
    | ((with_reducible refine Mm.w_mod ?_ ?_); · walk_at "wp side")
    | ((with_reducible refine Mm.w_div ?_ ?_ ?_); (· walk_at "wp side"); (· (first | decide | assumption)))
    | ((with_reducible refine Mm.w_mul ?_ ?_); · exact .inl (.inr (by decide)))
    | ((with_reducible refine Mm.w_mul ?_ ?_); · exact .inl (.inl (by decide)))
    | ((with_reducible refine Mm.w_mul ?_ ?_); · exact .inl (.inl (by omega)))
    | ((with_reducible refine Mm.w_mul ?_ ?_); · exact .inl (.inr (by omega)))
    | ((with_reducible refine Mm.w_pow ?_ ?_); · decide)
    | ((with_reducible refine Mm.w_lstV ?_ ?_); · (simp only [List.length_cons, List.length_nil]; decide))
    | ((with_reducible refine Mm.w_tupV ?_ ?_); · (simp only [List.length_cons, List.length_nil]; decide))
    | ((with_reducible apply Mm.w_idxL); (· walk_at "sto"); (· first | exact Mm.atI0 | exact Mm.atI1 | exact Mm.atI2 | exact Mm.atIl | rfl))
    | ((with_reducible apply Mm.w_fld); (· walk_at "sto"); (· simp); (· walk_at "lk"))
    | ((with_reducible apply Mm.w_isI); (· walk_at "sto"); (· walk_at "tb"))
    | ((with_reducible apply Mm.w_idxC); (· walk_at "sto"); (· rfl))
    | ((with_reducible apply Mm.w_idxT); · first | exact Mm.atI0 | exact Mm.atI1 | exact Mm.atI2 | rfl)
    | ((with_reducible apply Mm.w_lenL); · walk_at "sto")
    | ((with_reducible apply Mm.w_lenC); · walk_at "sto")
    | ((with_reducible apply Mm.w_lenK); · walk_at "sto")
    | ((with_reducible apply Mm.w_tupL); · walk_at "sto")
    | ((with_reducible apply Mm.w_lstL); · walk_at "sto")
    | ((with_reducible apply Mm.w_cutL); · walk_at "sto")
    | ((with_reducible apply Mm.w_revL); · walk_at "sto")
    | ((with_reducible apply Mm.w_truL); · walk_at "sto")
    | ((with_reducible apply Mm.ex_mk); · exact Mm.it_lst (by walk_at "sto"))
    | ((with_reducible apply Mm.ex_mk); · exact Mm.it_con (by walk_at "sto"))
    | ((with_reducible apply Mm.ex_mk); · exact Mm.it_en2L (by walk_at "sto"))
    | ((with_reducible apply Mm.ex_mk); · exact Mm.it_en2C (by walk_at "sto"))
    | ((with_reducible apply Mm.ex_mk); · exact Mm.set_lst (by walk_at "sto") rfl)
    | ((with_reducible refine And.intro ?_ ?_); · exact Mm.ty_lst (by walk_at "sto"))
    | fail)
local macro_rules
  | `(tactic| walk_at "wq") => `(tactic| repeat' (first | (walk_at "wp1"; try dsimp only [List.set_cons_zero, List.set_cons_succ, Bool.not_true, Bool.not_false]) | (walk_at "wp2"; try dsimp only [Bool.not_true, Bool.not_false]) | fail))
local macro_rules
  | `(tactic| walk_at "wp") => `(tactic| repeat' (first | (with_reducible refine Mm.v_if ?_) | (walk_at "wp1"; try dsimp only [List.set_cons_zero, List.set_cons_succ, Bool.not_true, Bool.not_false]) | (walk_at "wp2"; try dsimp only [Bool.not_true, Bool.not_false]) | fail))
local macro_rules
  | `(tactic| walk_at "def") => `(tactic| (refine Mm.w_def rfl ?_; simp only [List.map_cons, List.map_nil, List.cons_append, List.nil_append, List.replicate, Nat.reduceSub, List.replicate_succ, List.replicate_zero]))
/-! the steps of the makers of inputs -/
local macro_rules
  | `(tactic| walk_at "gx") => `(tactic| first | with_reducible assumption | (with_reducible refine Law.GX.add ?_; walk_at "gx") | (with_reducible refine' Law.GX.putA ?a1 ?a2; (case a1 => walk_at "gx"); (case a2 => walk_at "gx")) | fail)
local macro_rules
  | `(tactic| walk_at "pk") => `(tactic| exact trivial)
local macro_rules
  | `(tactic| walk_at "tl") => `(tactic| with_unfolding_all exact of_decide_eq_true (p := _ ≤ 1000) rfl)
local macro_rules
  | `(tactic| walk_at "tm") => `(tactic| repeat' (with_reducible first
    | assumption
    | exact Law.TMs.nil | apply Law.TMs.cons
    | exact Law.AllM.nil | apply Law.AllM.cons
    | exact Law.StL.nil | apply Law.StL.cons | exact Law.InL.nil | apply Law.InL.cons
    | exact Law.RowL.nil | apply Law.RowL.cons
    | apply Law.TM.num | apply Law.TM.nam | apply Law.TM.tt | apply Law.TM.ff | apply Law.TM.no | apply Law.TM.ask
    | apply Law.TM.fn | apply Law.TM.dos | apply Law.TM.call | apply Law.TM.op | apply Law.TM.cond | apply Law.TM.wind | apply Law.TM.mark | apply Law.TM.shw
    | apply Law.TM.bnd (.inl rfl) | apply Law.TM.bnd (.inr rfl)
    | apply Law.TM.oneL (by assumption) (by decide +kernel) | apply Law.TMs.cutL (by assumption) (by decide +kernel)
    | apply Law.TM.one (.inl rfl) | apply Law.TM.one (.inr (.inl rfl)) | apply Law.TM.one (.inr (.inr (.inl rfl))) | apply Law.TM.one (.inr (.inr (.inr rfl)))
    | walk_at "pk"
    | walk_at "tl"
    | fail))
local macro_rules
  | `(tactic| walk_at "mx") => `(tactic| first | (simp only [Nat.max_le, Nat.add_zero, Nat.zero_add, Nat.add_le_add_iff_right]; done) | ((simp only [Nat.max_le, Nat.add_zero, Nat.zero_add, Nat.add_le_add_iff_right]); (repeat' apply And.intro) <;> omega) | omega)
local macro_rules
  | `(tactic| walk_at "ge") => `(tactic| (refine' ⟨Law.TM.mono ?h1 ?h2 ?h3, ?h4⟩; (case h1 => walk_at "tm"); (case h2 => walk_at "mx"); (case h3 => walk_at "mx"); (case h4 => walk_at "gx")))
local macro_rules
  | `(tactic| walk_at "call") => `(tactic| (with_reducible refine' Law.GX.drawQ ?a1 ?a2 ?a3 ?az; (case a1 => walk_at "gx"); (case a2 => first | decide | omega); (case a3 => first | decide | omega); (intro r S' r0 r1 g)))
local macro_rules
  | `(tactic| walk_at "call") => `(tactic| (with_reducible refine' Law.GX.pickSQ ?a1 ?a2 ?a3 ?a4 ?az; (case a1 => walk_at "gx"); (case a2 => walk_at "tm"; done); (case a3 => first | decide | (simp only [List.length_cons, List.length_nil]; omega)); (case a4 => first | decide | (simp only [List.length_cons, List.length_nil]; omega)); (intro s S' hs g)))
local macro_rules
  | `(tactic| walk_at "call") => `(tactic| (with_reducible refine' Law.GX.pickIQ ?a1 ?a2 ?a3 ?a4 ?az; (case a1 => walk_at "gx"); (case a2 => walk_at "tm"; done); (case a3 => first | decide | (simp only [List.length_cons, List.length_nil]; omega)); (case a4 => first | decide | (simp only [List.length_cons, List.length_nil]; omega)); (intro s S' hs g)))
local macro_rules
  | `(tactic| walk_at "call") => `(tactic| ((with_reducible refine' Law.w_inSt ?a1 ?az); (case a1 => walk_at "tm"; done)))
local macro_rules
  | `(tactic| walk_at "call") => `(tactic| ((with_reducible refine' Mm.w_addt ?a1 ?az); (case a1 => (simp only [List.length_cons, List.length_nil]; decide)); dsimp only [List.cons_append, List.nil_append]))
local macro_rules
  | `(tactic| walk_at "call") => `(tactic| ((with_reducible refine' Mm.w_addl ?a1 ?a2 ?a3 ?az); (case a1 => walk_at "sto"); (case a2 => walk_at "sto"); (case a3 => (simp only [List.length_cons, List.length_nil]; decide)); dsimp only [List.cons_append, List.nil_append]))
local macro_rules
  | `(tactic| walk_at "call") => `(tactic| ((with_reducible refine' Mm.w_append ?a1 ?a2 ?az); (case a1 => walk_at "sto"); (case a2 => (simp only [List.length_cons, List.length_nil]; decide)); dsimp only [List.cons_append, List.nil_append]))
local macro_rules
  | `(tactic| walk_at "gn") => `(tactic| repeat' (first
    | (with_reducible refine Mm.v_if ?_)
    | (walk_at "wp1"; try dsimp only [List.set_cons_zero, List.set_cons_succ, Bool.not_true, Bool.not_false])
    | (walk_at "wp2"; try dsimp only [Bool.not_true, Bool.not_false])
    | (with_reducible refine Mm.br_dec (fun e => ?_) (fun e => ?_))
    | walk_at "call"
    | walk_at "ge"
    | fail))
/-! the step of the tree proofs: words are known -/
local macro_rules
  | `(tactic| walk_at "in") => `(tactic| first | (refine Mm.w_inFl (b := true) (by decide +kernel) ?_) | (refine Mm.w_inFl (b := false) (by decide +kernel) ?_))
local macro_rules
  | `(tactic| walk_at "tr") => `(tactic| ((try walk_at "wp"); repeat' (first | (walk_at "in"; try walk_at "wp") | fail)))
theorem rights_ok {S : Sto} {ns : List Str} {qs : List MV} {e : Sl} {i j : Nat} (hl : qs.length = ns.length) (hz : qs.length ≤ 1000000) (hj : j < e.length) (hij : i ≠ j) : Ret (lcLoop [] (.tp [.nm i, .nm j]) yesM (varM j) e ((ns.zip qs).map prM) [] S) fun acc S' => S' = S ∧ acc = qs := by
  have sz : (1000001 : Nat) ≤ sizeLine := by decide
  refine w_lc0 (fun n acc S' => S' = S ∧ acc = qs.take n) ⟨rfl, rfl⟩ ?_ ?_
  · rintro n x acc S' hx ⟨rfl, rfl⟩
    obtain ⟨p, hp, rfl, _⟩ := get_map hx
    have hn : n < qs.length := by
      have := (List.getElem?_eq_some_iff.1 hp).1
      rw [List.length_zip] at this; omega
    have hp2 : qs[n]? = some p.2 := by
      have := List.getElem?_zip_eq_some.1 hp
      exact this.2
    refine ⟨ck_n, _, rfl, w_yes (br_t (w_var (x := p.2) ?_ ⟨by rw [List.length_take]; omega, rfl, (take_snoc hp2).symm⟩))⟩
    exact List.getElem?_set_self (by rw [List.length_set]; exact hj)
  · rintro acc S' ⟨rfl, rfl⟩
    rw [List.length_map, List.length_zip, hl, Nat.min_self, ← hl, List.take_length]
    exact ⟨ck_n, rfl, rfl⟩
theorem lefts_ok {S : Sto} {ns : List Str} {qs : List MV} {e : Sl} {i j : Nat} (hl : qs.length = ns.length) (hz : qs.length ≤ 1000000) (hi : i < e.length) (hij : i ≠ j) : Ret (lcLoop [] (.tp [.nm i, .nm j]) yesM (varM i) e ((ns.zip qs).map prM) [] S) fun acc S' => S' = S ∧ acc = ns.map .str := by
  have sz : (1000001 : Nat) ≤ sizeLine := by decide
  refine w_lc0 (fun n acc S' => S' = S ∧ acc = (ns.take n).map .str) ⟨rfl, rfl⟩ ?_ ?_
  · rintro n x acc S' hx ⟨rfl, rfl⟩
    obtain ⟨p, hp, rfl, _⟩ := get_map hx
    have hn : n < qs.length := by
      have := (List.getElem?_eq_some_iff.1 hp).1
      rw [List.length_zip] at this; omega
    have hp2 : ns[n]? = some p.1 := (List.getElem?_zip_eq_some.1 hp).1
    refine ⟨ck_n, _, rfl, w_yes (br_t (w_var (x := .str p.1) ?_ ⟨by rw [List.length_map, List.length_take]; omega, rfl, by rw [take_snoc hp2, List.map_append]; rfl⟩))⟩
    rw [List.getElem?_set_ne (Ne.symm hij)]
    exact List.getElem?_set_self hi
  · rintro acc S' ⟨rfl, rfl⟩
    rw [List.length_map, List.length_zip, hl, Nat.min_self, List.take_length]
    exact ⟨ck_n, rfl, rfl⟩
theorem parts_ok {cl : Nat → Addr} {S : Sto} {k : Kd} {ps : List T} (h : (T.node k ps).Ok) (hz : T.sizes ps ≤ 1000000) : Ret (m_parts_of cl [(T.node k ps).mv] S) fun y S' => y = .tup (T.mvs ps) ∧ Ext S S' := by
  have hk := h.k
  have hlen := T.len_sizes ps
  have hml : (T.mvs ps).length = ps.length := by rw [T.mvs_map, List.length_map]
  have sz : (1000001 : Nat) ≤ sizeLine := by decide
  unfold m_parts_of
  walk_at "def"
  unfold b_parts_of
  simp only [T.mv]
  cases k with
  | num i =>
    rw [List.length_eq_zero_iff.1 hk]
    walk_at "tr"
    exact ⟨rfl, Ext.refl⟩
  | nam i =>
    rw [List.length_eq_zero_iff.1 hk]
    walk_at "tr"
    exact ⟨rfl, Ext.refl⟩
  | wd w =>
    obtain ⟨h1, h2⟩ := hk
    rw [List.length_eq_zero_iff.1 h1]
    rcases h2 with rfl | rfl | rfl | rfl
    all_goals
      walk_at "tr"
      exact ⟨rfl, Ext.refl⟩
  | fn ns =>
    obtain ⟨q, rfl⟩ := len1 hk.1
    walk_at "tr"
    exact ⟨rfl, Ext.refl⟩
  | one w s =>
    obtain ⟨h1, h2⟩ := hk
    obtain ⟨q, rfl⟩ := len1 h1
    rcases h2 with rfl | rfl | rfl | rfl
    all_goals
      walk_at "tr"
      exact ⟨rfl, Ext.refl⟩
  | bnd w ns =>
    obtain ⟨h1, h2⟩ := hk
    obtain ⟨qs, q, rfl, hq⟩ := last_split h1
    have e1 : T.mvs (qs ++ [q]) = T.mvs qs ++ [q.mv] := by rw [T.mvs_map, T.mvs_map, List.map_append]; rfl
    have e2 : (T.mvs qs).length = ns.length := by rw [T.mvs_map, List.length_map, hq]
    rw [e1]
    have e3 : (T.mvs qs ++ [q.mv]).getLastD .non = q.mv := by simp
    simp only [Kd.mv, zip_app1 ns _ _ e2, e3]
    rw [List.length_append, List.length_singleton] at hlen
    rcases h2 with rfl | rfl
    all_goals
      walk_at "tr"
      refine (rights_ok e2 (by omega) (by simp [wipeE]) (by decide)).imp ?_
      rintro acc S' ⟨rfl, rfl⟩
      walk_at "wp"
      refine w_addt (by rw [e2]; simp only [List.length_singleton]; omega) ?_
      exact ⟨rfl, Ext.refl.add⟩
  | dos =>
    simp only [Kd.mv]
    walk_at "tr"
    exact ⟨rfl, Ext.refl⟩
  | call =>
    cases ps with
    | nil => exact absurd hk (show ¬ 1 ≤ 0 by decide)
    | cons p ps =>
      simp only [Kd.mv, T.mvs, List.headD_cons, List.tail_cons]
      walk_at "tr"
      rw [List.length_cons] at hlen
      rw [T.mvs, List.length_cons, List.length_cons] at hml
      refine w_addt (by simp only [List.length_singleton]; omega) ?_
      exact ⟨rfl, Ext.refl⟩
  | op w =>
    simp only [Kd.mv]
    walk_at "tr"
    exact ⟨rfl, Ext.refl⟩
  | oth w =>
    rcases hk with ⟨rfl, _⟩ | ⟨rfl, _⟩ | ⟨rfl, _⟩ | ⟨rfl, _⟩
    all_goals
      simp only [Kd.mv]
      walk_at "tr"
      rw [cutM_from (by decide)]
      exact ⟨rfl, Ext.refl⟩
theorem seconds_ok {S : Sto} {ns : List Str} {qs : List MV} {e : Sl} {i : Nat} (hl : qs.length = ns.length) (hz : qs.length ≤ 1000000) (hi : i < e.length) : Ret (lcLoop [] (.nm i) yesM (op2 idxV (varM i) (conM (.int 1))) e ((ns.zip qs).map prM) [] S) fun acc S' => S' = S ∧ acc = qs := by
  have sz : (1000001 : Nat) ≤ sizeLine := by decide
  refine w_lc0 (fun n acc S' => S' = S ∧ acc = qs.take n) ⟨rfl, rfl⟩ ?_ ?_
  · rintro n x acc S' hx ⟨rfl, rfl⟩
    obtain ⟨p, hp, rfl, _⟩ := get_map hx
    have hn : n < qs.length := by
      have := (List.getElem?_eq_some_iff.1 hp).1
      rw [List.length_zip] at this; omega
    have hp2 : qs[n]? = some p.2 := (List.getElem?_zip_eq_some.1 hp).2
    refine ⟨ck_n, _, rfl, w_yes (br_t (w_op2 (w_var (x := prM p) (List.getElem?_set_self hi) (w_con (w_idxT atI1 ?_)))))⟩
    exact ⟨by rw [List.length_take]; omega, rfl, (take_snoc hp2).symm⟩
  · rintro acc S' ⟨rfl, rfl⟩
    rw [List.length_map, List.length_zip, hl, Nat.min_self, ← hl, List.take_length]
    exact ⟨ck_n, rfl, rfl⟩
theorem lparts_ok {cl : Nat → Addr} {S : Sto} {k : Kd} {ps : List T} (h : (T.node k ps).Ok) (hz : T.sizes ps ≤ 1000000) : Ret (m__law_parts cl [(T.node k ps).mv] S) fun y S' => ∃ j, y = .ref j ∧ S'.g j = .lst (T.mvs ps) ∧ S.n ≤ j ∧ j < S'.n ∧ Ext S S' := by
  have hk := h.k
  have hlen := T.len_sizes ps
  have hml : (T.mvs ps).length = ps.length := by rw [T.mvs_map, List.length_map]
  have sz : (1000001 : Nat) ≤ sizeLine := by decide
  have fin : ∀ {xs : List MV} {S1 : Sto}, Ext S S1 → xs = T.mvs ps → ∃ j, MV.ref S1.n = .ref j ∧ (S1.add (.lst xs)).g j = .lst (T.mvs ps) ∧ S.n ≤ j ∧ j < (S1.add (.lst xs)).n ∧ Ext S (S1.add (.lst xs)) :=
    fun E e => ⟨_, rfl, by rw [add_same, e], E.1, Nat.lt_succ_self _, E.add⟩
  unfold m__law_parts
  walk_at "def"
  unfold b__law_parts
  simp only [T.mv]
  cases k with
  | num i =>
    have e0 := List.length_eq_zero_iff.1 hk
    subst e0
    walk_at "tr"
    exact fin Ext.refl rfl
  | nam i =>
    have e0 := List.length_eq_zero_iff.1 hk
    subst e0
    walk_at "tr"
    exact fin Ext.refl rfl
  | wd w =>
    obtain ⟨h1, h2⟩ := hk
    have e0 := List.length_eq_zero_iff.1 h1
    subst e0
    rcases h2 with rfl | rfl | rfl | rfl
    all_goals
      walk_at "tr"
      exact fin Ext.refl rfl
  | fn ns =>
    obtain ⟨q, rfl⟩ := len1 hk.1
    walk_at "tr"
    exact fin Ext.refl rfl
  | one w s =>
    obtain ⟨h1, h2⟩ := hk
    obtain ⟨q, rfl⟩ := len1 h1
    rcases h2 with rfl | rfl | rfl | rfl
    all_goals
      walk_at "tr"
      exact fin Ext.refl rfl
  | bnd w ns =>
    obtain ⟨h1, h2⟩ := hk
    obtain ⟨qs, q, rfl, hq⟩ := last_split h1
    have e1 : T.mvs (qs ++ [q]) = T.mvs qs ++ [q.mv] := by rw [T.mvs_map, T.mvs_map, List.map_append]; rfl
    have e2 : (T.mvs qs).length = ns.length := by rw [T.mvs_map, List.length_map, hq]
    rw [e1] at fin ⊢
    have e3 : (T.mvs qs ++ [q.mv]).getLastD .non = q.mv := by simp
    simp only [Kd.mv, zip_app1 ns _ _ e2, e3]
    rw [List.length_append, List.length_singleton] at hlen
    rcases h2 with rfl | rfl
    all_goals
      walk_at "tr"
      refine (seconds_ok e2 (by omega) (by simp [wipeE])).imp ?_
      rintro acc S' ⟨rfl, rfl⟩
      walk_at "wq"
      refine w_addl (xs := T.mvs qs) (ys := [q.mv]) ((add_ne (by simp)).trans add_same) add_same (by rw [e2]; simp only [List.length_singleton]; omega) ?_
      exact fin ((Ext.refl.add).add) rfl
  | dos =>
    simp only [Kd.mv]
    walk_at "tr"
    exact ⟨add_same, Nat.le_refl _, Nat.lt_succ_self _, Ext.refl.add⟩
  | call =>
    cases ps with
    | nil => exact absurd hk (show ¬ 1 ≤ 0 by decide)
    | cons p ps =>
      simp only [Kd.mv, T.mvs, List.headD_cons, List.tail_cons] at fin ⊢
      walk_at "tr"
      rw [List.length_cons] at hlen
      rw [T.mvs, List.length_cons, List.length_cons] at hml
      refine w_addl (xs := [p.mv]) (ys := T.mvs ps) ((add_ne (by simp)).trans add_same) add_same (by simp only [List.length_singleton]; omega) ?_
      exact fin ((Ext.refl.add).add) rfl
  | op w =>
    simp only [Kd.mv]
    walk_at "tr"
    exact ⟨add_same, Nat.le_refl _, Nat.lt_succ_self _, Ext.refl.add⟩
  | oth w =>
    rcases hk with ⟨rfl, _⟩ | ⟨rfl, _⟩ | ⟨rfl, _⟩ | ⟨rfl, _⟩
    all_goals
      simp only [Kd.mv]
      walk_at "tr"
      rw [cutM_from (by decide)]
      exact ⟨add_same, Nat.le_refl _, Nat.lt_succ_self _, Ext.refl.add⟩
end Law
end

section
namespace Law
open PySem L2 Mm
/-! the step of the pure proofs -/
local macro_rules
  | `(tactic| walk_at "wp side") => `(tactic| first | assumption | omega | decide)
local macro_rules
  | `(tactic| walk_at "wp1") => `(tactic| with_reducible first
    | refine Mm.v_seq ?_ | refine Mm.v_nx ?_ | refine Mm.v_asg ?_ | refine Mm.v_asgP ?_ | refine Mm.v_ret ?_ | refine Mm.v_retN ?_ | refine Mm.v_drop ?_ | refine Mm.v_set ?_ | refine Mm.v_aug ?_ | refine Mm.v_for ?_ | refine Mm.v_brk ?_ | refine Mm.v_ct ?_
    | refine Mm.w_con ?_ | refine Mm.w_op2 ?_ | refine Mm.w_op1 ?_ | refine Mm.w_opL ?_ | refine Mm.w_cons ?_ | refine Mm.w_nil ?_
    | refine Mm.w_add ?_ | refine Mm.w_sub ?_ | refine Mm.w_neg ?_ | refine Mm.w_lt ?_ | refine Mm.w_le ?_ | refine Mm.w_gt ?_ | refine Mm.w_ge ?_ | refine Mm.w_eqi ?_ | refine Mm.w_nei ?_ | refine Mm.w_eqs ?_ | refine Mm.w_nes ?_ | refine Mm.w_int ?_ | refine Mm.w_abs ?_ | refine Mm.w_isN ?_ | refine Mm.w_notN ?_ | refine Mm.w_min ?_ | refine Mm.w_max ?_
    | refine Mm.w_tru ?_ | refine Mm.w_blM ?_ | refine Mm.w_andB ?_ | refine Mm.w_orB ?_ | refine Mm.w_notB ?_ | refine Mm.w_ifV ?_ | refine Mm.w_andV ?_ | refine Mm.w_orV ?_ | refine Mm.w_notV ?_ | refine Mm.w_truB ?_ | refine Mm.w_truI ?_ | refine Mm.w_truN ?_ | refine Mm.w_truT ?_
    | refine Mm.w_dNewK ?_ | refine Mm.w_dNewT ?_ | refine Mm.w_iter ?_ | refine Mm.w_strS ?_ | refine Mm.w_inT ?_ | refine Mm.w_idxTM ?_ | refine Mm.v_setTM ?_ | refine Mm.v_par ?_ | refine Mm.w_met ?_ | refine Mm.w_itmM ?_ | refine Mm.w_enm ?_ | refine Mm.w_enm2 ?_ | refine Mm.w_zip ?_ | refine Mm.w_rev ?_ | refine Mm.w_bm ?_ | refine Mm.w_lc ?_ | refine Mm.w_yes ?_ | refine Mm.br_t ?_ | refine Mm.br_f ?_ | refine Mm.w_slc ?_ | refine Mm.w_pno ?_ | refine Mm.w_pso ?_ | refine Mm.w_lenT ?_ | refine Mm.w_tupT ?_ | refine Mm.w_lstT ?_ | refine Mm.w_cutT ?_)
local macro_rules
  | `(tactic| walk_at "sto") => `(tactic| first
    | with_reducible assumption
    | with_reducible exact Mm.put_same
    | with_reducible exact Mm.add_same
    | (with_reducible refine (Mm.put_ne (by first | assumption | exact Ne.symm (by assumption) | ((try dsimp only [Mm.Sto.add, Mm.Sto.put]); omega))).trans ?_; walk_at "sto")
    | (with_reducible refine (Mm.add_ne (by first | assumption | exact Ne.symm (by assumption) | ((try dsimp only [Mm.Sto.add, Mm.Sto.put]); omega))).trans ?_; walk_at "sto")
    | fail)
local macro_rules
  | `(tactic| walk_at "lk") => `(tactic| first | with_reducible exact Mm.lk_here | with_reducible exact Mm.lk_nil | with_reducible assumption | (with_reducible apply Mm.lk_next; (· decide +kernel); (· walk_at "lk")) | fail)
local macro_rules
  | `(tactic| walk_at "pf") => `(tactic| first | with_reducible exact Mm.pf_nil | with_reducible exact Mm.pf_here | (with_reducible apply Mm.pf_next; (· decide +kernel); (· walk_at "pf")) | fail)
local macro_rules
  | `(tactic| walk_at "vf") => `(tactic| (refine' Mm.v_fldv ?a1 ?a2 ?a3 ?a4 ?a5 ?a6 ?a7; (case a1 => rfl); (case a2 => rfl); (case a3 => exact Mm.add_same); (case a4 => simp); (case a5 => simp only [List.length_cons, List.length_nil]; decide); (case a6 => walk_at "pf"); rw [Mm.add_put]))
local macro_rules
  | `(tactic| walk_at "tb") => `(tactic| first | with_reducible exact Mm.tb_here | (with_reducible apply Mm.tb_next; (· simp); (· walk_at "tb")) | fail)
local macro_rules
  | `(tactic| walk_at "wp2") => `(tactic| first
    | ((with_reducible apply Mm.w_var); · rfl)
    | ((with_reducible apply Mm.ex_mk); · with_reducible refine Mm.rng1 (by (try simp only [List.length_map]); omega))
    | ((with_reducible apply Mm.ex_mk); · with_reducible refine Mm.rng2 (by (try simp only [List.length_map]); omega))
    | ((with_reducible apply Mm.ex_mk); · rfl)
    | ((with_reducible refine Mm.br_true ?_ ?_); · rfl)
    | ((with_reducible refine Mm.br_false ?_ ?_); · rfl)
    | ((with_reducible refine Mm.w_mod ?_ ?_); · walk_at "wp side")
    | ((with_reducible refine Mm.w_div ?_ ?_ ?_); (· walk_at "wp side"); (· (first | decide | assumption)))
    | ((with_reducible refine Mm.w_mul ?_ ?_); · exact .inl (.inr (by decide)))
    | ((with_reducible refine Mm.w_mul ?_ ?_); · exact .inl (.inl (by decide)))
    | ((with_reducible refine Mm.w_mul ?_ ?_); · exact .inl (.inl (by omega)))
    | ((with_reducible refine Mm.w_mul ?_ ?_); · exact .inl (.inr (by omega)))
    | ((with_reducible refine Mm.w_pow ?_ ?_); · decide)
    | ((with_reducible refine Mm.w_lstV ?_ ?_); · (simp only [List.length_cons, List.length_nil]; decide))
    | ((with_reducible refine Mm.w_tupV ?_ ?_); · (simp only [List.length_cons, List.length_nil]; decide))
    | ((with_reducible apply Mm.w_idxL); (· walk_at "sto"); (· first | exact Mm.atI0 | exact Mm.atI1 | exact Mm.atI2 | exact Mm.atIl | rfl))
    | ((with_reducible apply Mm.w_fld); (· walk_at "sto"); (· simp); (· walk_at "lk"))
    | ((with_reducible apply Mm.w_isI); (· walk_at "sto"); (· walk_at "tb"))
    | ((with_reducible apply Mm.w_idxC); (· walk_at "sto"); (· rfl))
    | ((with_reducible apply Mm.w_idxT); · first | exact Mm.atI0 | exact Mm.atI1 | exact Mm.atI2 | rfl)
    | ((with_reducible apply Mm.w_lenL); · walk_at "sto")
    | ((with_reducible apply Mm.w_lenC); · walk_at "sto")
    | ((with_reducible apply Mm.w_lenK); · walk_at "sto")
    | ((with_reducible apply Mm.w_tupL); · walk_at "sto")
    | ((with_reducible apply Mm.w_lstL); · walk_at "sto")
    | ((with_reducible apply Mm.w_cutL); · walk_at "sto")
    | ((with_reducible apply Mm.w_revL); · walk_at "sto")
    | ((with_reducible apply Mm.w_truL); · walk_at "sto")
    | ((with_reducible apply Mm.ex_mk); · exact Mm.it_lst (by walk_at "sto"))
    | ((with_reducible apply Mm.ex_mk); · exact Mm.it_con (by walk_at "sto"))
    | ((with_reducible apply Mm.ex_mk); · exact Mm.it_en2L (by walk_at "sto"))
    | ((with_reducible apply Mm.ex_mk); · exact Mm.it_en2C (by walk_at "sto"))
    | ((with_reducible apply Mm.ex_mk); · exact Mm.set_lst (by walk_at "sto") rfl)
    | ((with_reducible refine And.intro ?_ ?_); · exact Mm.ty_lst (by walk_at "sto"))
    | fail)
local macro_rules
  | `(tactic| walk_at "wq") => `(tactic| repeat' (first | (walk_at "wp1"; try dsimp only [List.set_cons_zero, List.set_cons_succ, Bool.not_true, Bool.not_false]) | (walk_at "wp2"; try dsimp only [Bool.not_true, Bool.not_false]) | fail))
local macro_rules
  | `(tactic| walk_at "wp") => `(tactic| repeat' (first | (with_reducible refine Mm.v_if ?_) | (walk_at "wp1"; try dsimp only [List.set_cons_zero, List.set_cons_succ, Bool.not_true, Bool.not_false]) | (walk_at "wp2"; try dsimp only [Bool.not_true, Bool.not_false]) | fail))
local macro_rules
  | `(tactic| walk_at "def") => `(tactic| (refine Mm.w_def rfl ?_; simp only [List.map_cons, List.map_nil, List.cons_append, List.nil_append, List.replicate, Nat.reduceSub, List.replicate_succ, List.replicate_zero]))
/-! the steps of the makers of inputs -/
local macro_rules
  | `(tactic| walk_at "gx") => `(tactic| first | with_reducible assumption | (with_reducible refine Law.GX.add ?_; walk_at "gx") | (with_reducible refine' Law.GX.putA ?a1 ?a2; (case a1 => walk_at "gx"); (case a2 => walk_at "gx")) | fail)
local macro_rules
  | `(tactic| walk_at "pk") => `(tactic| exact trivial)
local macro_rules
  | `(tactic| walk_at "tl") => `(tactic| with_unfolding_all exact of_decide_eq_true (p := _ ≤ 1000) rfl)
local macro_rules
  | `(tactic| walk_at "tm") => `(tactic| repeat' (with_reducible first
    | assumption
    | exact Law.TMs.nil | apply Law.TMs.cons
    | exact Law.AllM.nil | apply Law.AllM.cons
    | exact Law.StL.nil | apply Law.StL.cons | exact Law.InL.nil | apply Law.InL.cons
    | exact Law.RowL.nil | apply Law.RowL.cons
    | apply Law.TM.num | apply Law.TM.nam | apply Law.TM.tt | apply Law.TM.ff | apply Law.TM.no | apply Law.TM.ask
    | apply Law.TM.fn | apply Law.TM.dos | apply Law.TM.call | apply Law.TM.op | apply Law.TM.cond | apply Law.TM.wind | apply Law.TM.mark | apply Law.TM.shw
    | apply Law.TM.bnd (.inl rfl) | apply Law.TM.bnd (.inr rfl)
    | apply Law.TM.oneL (by assumption) (by decide +kernel) | apply Law.TMs.cutL (by assumption) (by decide +kernel)
    | apply Law.TM.one (.inl rfl) | apply Law.TM.one (.inr (.inl rfl)) | apply Law.TM.one (.inr (.inr (.inl rfl))) | apply Law.TM.one (.inr (.inr (.inr rfl)))
    | walk_at "pk"
    | walk_at "tl"
    | fail))
local macro_rules
  | `(tactic| walk_at "mx") => `(tactic| first | (simp only [Nat.max_le, Nat.add_zero, Nat.zero_add, Nat.add_le_add_iff_right]; done) | ((simp only [Nat.max_le, Nat.add_zero, Nat.zero_add, Nat.add_le_add_iff_right]); (repeat' apply And.intro) <;> omega) | omega)
local macro_rules
  | `(tactic| walk_at "ge") => `(tactic| (refine' ⟨Law.TM.mono ?h1 ?h2 ?h3, ?h4⟩; (case h1 => walk_at "tm"); (case h2 => walk_at "mx"); (case h3 => walk_at "mx"); (case h4 => walk_at "gx")))
local macro_rules
  | `(tactic| walk_at "call") => `(tactic| (with_reducible refine' Law.GX.drawQ ?a1 ?a2 ?a3 ?az; (case a1 => walk_at "gx"); (case a2 => first | decide | omega); (case a3 => first | decide | omega); (intro r S' r0 r1 g)))
local macro_rules
  | `(tactic| walk_at "call") => `(tactic| (with_reducible refine' Law.GX.pickSQ ?a1 ?a2 ?a3 ?a4 ?az; (case a1 => walk_at "gx"); (case a2 => walk_at "tm"; done); (case a3 => first | decide | (simp only [List.length_cons, List.length_nil]; omega)); (case a4 => first | decide | (simp only [List.length_cons, List.length_nil]; omega)); (intro s S' hs g)))
local macro_rules
  | `(tactic| walk_at "call") => `(tactic| (with_reducible refine' Law.GX.pickIQ ?a1 ?a2 ?a3 ?a4 ?az; (case a1 => walk_at "gx"); (case a2 => walk_at "tm"; done); (case a3 => first | decide | (simp only [List.length_cons, List.length_nil]; omega)); (case a4 => first | decide | (simp only [List.length_cons, List.length_nil]; omega)); (intro s S' hs g)))
local macro_rules
  | `(tactic| walk_at "call") => `(tactic| ((with_reducible refine' Law.w_inSt ?a1 ?az); (case a1 => walk_at "tm"; done)))
local macro_rules
  | `(tactic| walk_at "call") => `(tactic| ((with_reducible refine' Mm.w_addt ?a1 ?az); (case a1 => (simp only [List.length_cons, List.length_nil]; decide)); dsimp only [List.cons_append, List.nil_append]))
local macro_rules
  | `(tactic| walk_at "call") => `(tactic| ((with_reducible refine' Mm.w_addl ?a1 ?a2 ?a3 ?az); (case a1 => walk_at "sto"); (case a2 => walk_at "sto"); (case a3 => (simp only [List.length_cons, List.length_nil]; decide)); dsimp only [List.cons_append, List.nil_append]))
local macro_rules
  | `(tactic| walk_at "call") => `(tactic| ((with_reducible refine' Mm.w_append ?a1 ?a2 ?az); (case a1 => walk_at "sto"); (case a2 => (simp only [List.length_cons, List.length_nil]; decide)); dsimp only [List.cons_append, List.nil_append]))
local macro_rules
  | `(tactic| walk_at "gn") => `(tactic| repeat' (first
    | (with_reducible refine Mm.v_if ?_)
    | (walk_at "wp1"; try dsimp only [List.set_cons_zero, List.set_cons_succ, Bool.not_true, Bool.not_false])
    | (walk_at "wp2"; try dsimp only [Bool.not_true, Bool.not_false])
    | (with_reducible refine Mm.br_dec (fun e => ?_) (fun e => ?_))
    | walk_at "call"
    | walk_at "ge"
    | fail))
/-! the step of the tree proofs: words are known -/
local macro_rules
  | `(tactic| walk_at "in") => `(tactic| first | (refine Mm.w_inFl (b := true) (by decide +kernel) ?_) | (refine Mm.w_inFl (b := false) (by decide +kernel) ?_))
local macro_rules
  | `(tactic| walk_at "tr") => `(tactic| ((try walk_at "wp"); repeat' (first | (walk_at "in"; try walk_at "wp") | fail)))
theorem prZ_map (ns : List Str) (ps qs : List MV) (i : Nat) (h : i < ns.length) (h1 : ps.length = ns.length) (h2 : ns.length ≤ qs.length) : (prZ ((ns.zip ps).map prM) qs)[i]? = some (.tup [prM (ns[i], ps[i]), qs[i]]) := by
  have e1 : (ns.zip ps)[i]? = some (ns[i], ps[i]) := List.getElem?_zip_eq_some.2 ⟨List.getElem?_eq_getElem h, List.getElem?_eq_getElem (by omega)⟩
  have e2 : qs[i]? = some qs[i] := List.getElem?_eq_getElem (by omega)
  unfold prZ
  rw [List.getElem?_zipWith, List.getElem?_map, e1, e2]; rfl
/-- the rows with other right sides -/
theorem zrows_ok {S : Sto} {ns : List Str} {ps qs : List MV} {ck : List (Nat × List MV)} {e : Sl} {i j : Nat} (hp : ps.length = ns.length) (hq : ns.length ≤ qs.length) (hz : qs.length ≤ 1000000) (hi : i < e.length) (hj : j < e.length) (hij : i ≠ j) (hck : ckOk ck S) :
    Ret (lcLoop ck (.tp [.nm i, .nm j]) yesM (opL tupV (consM (op2 idxV (varM i) (conM (.int 0))) (consM (varM j) nilM))) e (prZ ((ns.zip ps).map prM) qs) [] S) fun acc S' => S' = S ∧ acc = (ns.zip qs).map prM := by
  have sz : (1000001 : Nat) ≤ sizeLine := by decide
  have hl : (prZ ((ns.zip ps).map prM) qs).length = ns.length := by rw [prZ_len, List.length_map, List.length_zip]; omega
  refine w_lc0 (fun n acc S' => S' = S ∧ acc = ((ns.zip qs).take n).map prM) ⟨rfl, rfl⟩ ?_ ?_
  · rintro n x acc S' hx ⟨rfl, rfl⟩
    have hn : n < ns.length := by rw [← hl]; exact (List.getElem?_eq_some_iff.1 hx).1
    rw [prZ_map ns ps qs n hn hp hq] at hx
    cases hx
    have h3 : (ns.zip qs)[n]? = some (ns[n], qs[n]) := List.getElem?_zip_eq_some.2 ⟨List.getElem?_eq_getElem hn, List.getElem?_eq_getElem (by omega)⟩
    refine ⟨hck, _, rfl, w_yes (br_t (w_opL (w_cons (w_op2 (w_var (x := prM (ns[n], ps[n])) ?_ (w_con (w_idxT atI0 (w_cons (w_var (x := qs[n]) ?_ (w_nil (w_tupV (by simp only [List.length_cons, List.length_nil]; decide) ?_)))))))))))⟩
    · rw [List.getElem?_set_ne (Ne.symm hij)]; exact List.getElem?_set_self hi
    · exact List.getElem?_set_self (by rw [List.length_set]; exact hj)
    · exact ⟨by rw [List.length_map, List.length_take, List.length_zip]; omega, rfl, by rw [take_snoc h3, List.map_append]; rfl⟩
  · rintro acc S' ⟨rfl, rfl⟩
    rw [hl, List.take_of_length_le (by rw [List.length_zip]; omega)]
    exact ⟨hck, rfl, rfl⟩
theorem tup_nil_eqv (ps : List T) : PyData.eqv (.tuple (T.ds ps)) (.tuple []) = decide (ps = []) := by
  cases ps with
  | nil => rfl
  | cons p ps => rfl
/-- trees within the bounds of what is compared -/
structure TOk (P : Kd → Nat → Prop) (t : T) : Prop where
  ok : OkP P t
  dep : t.dep ≤ 20
  size : t.size ≤ 100000
theorem with_ok {cl : Nat → Addr} {P : Kd → Nat → Prop} (hP : ∀ k n, P k n → KSt k) {S : Sto} {k : Kd} {ps qs : List T} {j : Nat} (h : (T.node k ps).Ok) (hq : ∀ q ∈ qs, OkP P q) (hd : T.deps qs ≤ 20) (hz : ps.length ≤ 100000) (hl : qs.length = ps.length) (g : S.g j = .lst (T.mvs qs)) (hj : j < S.n) :
    Ret (m_with_parts cl [(T.node k ps).mv, .ref j] S) fun y S' => y = (T.node k qs).mv ∧ Ext S S' := by
  have hk := h.k
  have sz : (1000001 : Nat) ≤ sizeLine := by decide
  have hml : (T.mvs ps).length = ps.length := by rw [T.mvs_map, List.length_map]
  have hql : (T.mvs qs).length = ps.length := by rw [T.mvs_map, List.length_map, hl]
  have fq : FlL (T.mvs qs) (T.ds qs) := by rw [T.mvs_map, T.ds_map]; exact fll_map qs fun a _ => T.fl a
  have sq : SeqAt.shaped (.tuple (T.ds qs)) = true := sh_of (n := 61) (shd_tup (by rw [T.ds_map]; exact shl_map qs fun a ha => (T.sh hP a (hq a ha)).mono (by have := T.dep_mem ha; omega)))
  have eqE : ∀ {S : Sto} {Q : MV → Sto → Prop}, Q (.bl (decide (qs = []))) S → Ret (Mm.eqV (.tup (T.mvs qs)) (.tup []) S) Q := fun {S Q} q => w_eqA (toD_fl (fl_tup fq)) (toD_fl (fl_tup fll_nil)) sq (by decide) (by rw [tup_nil_eqv]; exact q)
  unfold m_with_parts
  walk_at "def"
  unfold b_with_parts
  obtain ⟨r, hr⟩ := k.hd (T.mvs ps)
  have hmv : (T.node k ps).mv = .tup (.str k.word :: r) := hr
  have hmq : ∀ w, k.word = w → qs = [] → (T.node k ps).mv = (T.node k qs).mv := fun w _ e => by
    have e2 : ps = [] := List.length_eq_zero_iff.1 (by rw [← hl, e]; rfl)
    rw [e, e2]
  rw [hmv]
  walk_at "wq"
  refine v_if ?_
  walk_at "wq"
  refine eqE ?_
  refine ⟨_, rfl, br_dec (fun e => ?_) (fun e => ?_)⟩
  · walk_at "wq"
    exact ⟨by rw [← hmv]; exact hmq _ rfl e, Ext.refl⟩
  have hne : ps ≠ [] := fun e2 => e (List.length_eq_zero_iff.1 (by rw [hl, e2]; rfl))
  cases k with
  | num i => exact absurd (List.length_eq_zero_iff.1 hk) hne
  | nam s => exact absurd (List.length_eq_zero_iff.1 hk) hne
  | wd w => exact absurd (List.length_eq_zero_iff.1 hk.1) hne
  | fn ns =>
    obtain ⟨p, rfl⟩ := len1 hk.1
    obtain ⟨q, rfl⟩ := len1 hl
    cases hr
    simp only [T.mv, Kd.mv, T.mvs, List.headD_cons, Kd.word]
    walk_at "tr"
    exact ⟨rfl, Ext.refl⟩
  | one w s =>
    obtain ⟨h1, h2⟩ := hk
    obtain ⟨p, rfl⟩ := len1 h1
    obtain ⟨q, rfl⟩ := len1 hl
    cases hr
    simp only [T.mv, Kd.mv, T.mvs, List.headD_cons, Kd.word]
    rcases h2 with rfl | rfl | rfl | rfl
    all_goals
      walk_at "tr"
      exact ⟨rfl, Ext.refl⟩
  | bnd w ns =>
    obtain ⟨h1, h2⟩ := hk
    rw [h1] at hl
    obtain ⟨us, u, rfl, hu⟩ := last_split h1
    obtain ⟨vs, v, rfl, hv⟩ := last_split hl
    have e1 : T.mvs (us ++ [u]) = T.mvs us ++ [u.mv] := by rw [T.mvs_map, T.mvs_map, List.map_append]; rfl
    have f1 : T.mvs (vs ++ [v]) = T.mvs vs ++ [v.mv] := by rw [T.mvs_map, T.mvs_map, List.map_append]; rfl
    have e2 : (T.mvs us).length = ns.length := by rw [T.mvs_map, List.length_map, hu]
    have f2 : (T.mvs vs).length = ns.length := by rw [T.mvs_map, List.length_map, hv]
    have e3 : (T.mvs us ++ [u.mv]).getLastD .non = u.mv := by simp
    have f3 : (T.mvs vs ++ [v.mv]).getLastD .non = v.mv := by simp
    cases hr
    rw [f1] at g ⊢
    rw [List.length_append, List.length_singleton] at hz
    simp only [T.mv, Kd.word]
    rw [f1]
    simp only [Kd.mv, e1, zip_app1 ns _ _ e2, zip_app1 ns _ _ f2, e3, f3]
    rcases h2 with rfl | rfl
    all_goals
      walk_at "tr"
      refine w_zip2 ?_
      walk_at "wq"
      refine (zrows_ok (ck := []) (ns := ns) (ps := T.mvs us) (qs := T.mvs vs ++ [v.mv]) e2 (by rw [List.length_append, f2]; omega) (by rw [List.length_append, f2]; simp only [List.length_singleton]; omega) (by simp [wipeE]) (by simp [wipeE]) (by decide) ck_n).imp ?_
      rintro acc S2 ⟨rfl, rfl⟩
      rw [zip_app1 ns _ _ f2]
      walk_at "wq"
      refine w_idxT atIl ?_
      walk_at "wq"
      exact ⟨rfl, Ext.refl.add⟩
  | dos =>
    cases hr
    simp only [T.mv, Kd.mv, Kd.word]
    walk_at "tr"
    exact ⟨rfl, Ext.refl⟩
  | call =>
    cases ps with
    | nil => exact absurd rfl hne
    | cons p ps =>
      cases qs with
      | nil => exact absurd rfl e
      | cons q qs =>
        cases hr
        simp only [T.mv, Kd.mv, T.mvs, List.headD_cons, List.tail_cons, Kd.word]
        walk_at "tr"
        rw [cutM_from (by decide)]
        exact ⟨rfl, Ext.refl⟩
  | op w =>
    cases hr
    simp only [T.mv, Kd.mv, Kd.word]
    walk_at "tr"
    exact ⟨rfl, Ext.refl⟩
  | oth w =>
    cases hr
    simp only [T.mv, Kd.mv, Kd.word]
    rcases hk with ⟨rfl, _⟩ | ⟨rfl, _⟩ | ⟨rfl, _⟩ | ⟨rfl, _⟩
    all_goals
      walk_at "tr"
      refine w_addt (by simp only [List.length_singleton]; omega) ⟨rfl, Ext.refl⟩
end Law
end

section
namespace Law
open PySem L2 Mm
/-! the step of the pure proofs -/
local macro_rules
  | `(tactic| walk_at "wp side") => `(tactic| first | assumption | omega | decide)
local macro_rules
  | `(tactic| walk_at "wp1") => `(tactic| with_reducible first
    | refine Mm.v_seq ?_ | refine Mm.v_nx ?_ | refine Mm.v_asg ?_ | refine Mm.v_asgP ?_ | refine Mm.v_ret ?_ | refine Mm.v_retN ?_ | refine Mm.v_drop ?_ | refine Mm.v_set ?_ | refine Mm.v_aug ?_ | refine Mm.v_for ?_ | refine Mm.v_brk ?_ | refine Mm.v_ct ?_
    | refine Mm.w_con ?_ | refine Mm.w_op2 ?_ | refine Mm.w_op1 ?_ | refine Mm.w_opL ?_ | refine Mm.w_cons ?_ | refine Mm.w_nil ?_
    | refine Mm.w_add ?_ | refine Mm.w_sub ?_ | refine Mm.w_neg ?_ | refine Mm.w_lt ?_ | refine Mm.w_le ?_ | refine Mm.w_gt ?_ | refine Mm.w_ge ?_ | refine Mm.w_eqi ?_ | refine Mm.w_nei ?_ | refine Mm.w_eqs ?_ | refine Mm.w_nes ?_ | refine Mm.w_int ?_ | refine Mm.w_abs ?_ | refine Mm.w_isN ?_ | refine Mm.w_notN ?_ | refine Mm.w_min ?_ | refine Mm.w_max ?_
    | refine Mm.w_tru ?_ | refine Mm.w_blM ?_ | refine Mm.w_andB ?_ | refine Mm.w_orB ?_ | refine Mm.w_notB ?_ | refine Mm.w_ifV ?_ | refine Mm.w_andV ?_ | refine Mm.w_orV ?_ | refine Mm.w_notV ?_ | refine Mm.w_truB ?_ | refine Mm.w_truI ?_ | refine Mm.w_truN ?_ | refine Mm.w_truT ?_
    | refine Mm.w_dNewK ?_ | refine Mm.w_dNewT ?_ | refine Mm.w_iter ?_ | refine Mm.w_strS ?_ | refine Mm.w_inT ?_ | refine Mm.w_idxTM ?_ | refine Mm.v_setTM ?_ | refine Mm.v_par ?_ | refine Mm.w_met ?_ | refine Mm.w_itmM ?_ | refine Mm.w_enm ?_ | refine Mm.w_enm2 ?_ | refine Mm.w_zip ?_ | refine Mm.w_rev ?_ | refine Mm.w_bm ?_ | refine Mm.w_lc ?_ | refine Mm.w_yes ?_ | refine Mm.br_t ?_ | refine Mm.br_f ?_ | refine Mm.w_slc ?_ | refine Mm.w_pno ?_ | refine Mm.w_pso ?_ | refine Mm.w_lenT ?_ | refine Mm.w_tupT ?_ | refine Mm.w_lstT ?_ | refine Mm.w_cutT ?_)
local macro_rules
  | `(tactic| walk_at "sto") => `(tactic| first
    | with_reducible assumption
    | with_reducible exact Mm.put_same
    | with_reducible exact Mm.add_same
    | (with_reducible refine (Mm.put_ne (by first | assumption | exact Ne.symm (by assumption) | ((try dsimp only [Mm.Sto.add, Mm.Sto.put]); omega))).trans ?_; walk_at "sto")
    | (with_reducible refine (Mm.add_ne (by first | assumption | exact Ne.symm (by assumption) | ((try dsimp only [Mm.Sto.add, Mm.Sto.put]); omega))).trans ?_; walk_at "sto")
    | fail)
local macro_rules
  | `(tactic| walk_at "lk") => `(tactic| first | with_reducible exact Mm.lk_here | with_reducible exact Mm.lk_nil | with_reducible assumption | (with_reducible apply Mm.lk_next; (· decide +kernel); (· walk_at "lk")) | fail)
local macro_rules
  | `(tactic| walk_at "pf") => `(tactic| first | with_reducible exact Mm.pf_nil | with_reducible exact Mm.pf_here | (with_reducible apply Mm.pf_next; (· decide +kernel); (· walk_at "pf")) | fail)
local macro_rules
  | `(tactic| walk_at "vf") => `(tactic| (refine' Mm.v_fldv ?a1 ?a2 ?a3 ?a4 ?a5 ?a6 ?a7; (case a1 => rfl); (case a2 => rfl); (case a3 => exact Mm.add_same); (case a4 => simp); (case a5 => simp only [List.length_cons, List.length_nil]; decide); (case a6 => walk_at "pf"); rw [Mm.add_put]))
local macro_rules
  | `(tactic| walk_at "tb") => `(tactic| first | with_reducible exact Mm.tb_here | (with_reducible apply Mm.tb_next; (· simp); (· walk_at "tb")) | fail)
local macro_rules
  | `(tactic| walk_at "wp2") => `(tactic| first
    | ((with_reducible apply Mm.w_var); · rfl)
    | ((with_reducible apply Mm.ex_mk); · with_reducible refine Mm.rng1 (by (try simp only [List.length_map]); omega))
    | ((with_reducible apply Mm.ex_mk); · with_reducible refine Mm.rng2 (by (try simp only [List.length_map]); omega))
    | ((with_reducible apply Mm.ex_mk); · rfl)
    | ((with_reducible refine Mm.br_true ?_ ?_); · rfl)
    | ((with_reducible refine Mm.br_false ?_ ?_); · rfl)
    | ((with_reducible refine Mm.w_mod ?_ ?_); · walk_at "wp side")
    | ((with_reducible refine Mm.w_div ?_ ?_ ?_); (· walk_at "wp side"); (· (first | decide | assumption)))
    | ((with_reducible refine Mm.w_mul ?_ ?_); · exact .inl (.inr (by decide)))
    | ((with_reducible refine Mm.w_mul ?_ ?_); · exact .inl (.inl (by decide)))
    | ((with_reducible refine Mm.w_mul ?_ ?_); · exact .inl (.inl (by omega)))
    | ((with_reducible refine Mm.w_mul ?_ ?_); · exact .inl (.inr (by omega)))
    | ((with_reducible refine Mm.w_pow ?_ ?_); · decide)
    | ((with_reducible refine Mm.w_lstV ?_ ?_); · (simp only [List.length_cons, List.length_nil]; decide))
    | ((with_reducible refine Mm.w_tupV ?_ ?_); · (simp only [List.length_cons, List.length_nil]; decide))
    | ((with_reducible apply Mm.w_idxL); (· walk_at "sto"); (· first | exact Mm.atI0 | exact Mm.atI1 | exact Mm.atI2 | exact Mm.atIl | rfl))
    | ((with_reducible apply Mm.w_fld); (· walk_at "sto"); (· simp); (· walk_at "lk"))
    | ((with_reducible apply Mm.w_isI); (· walk_at "sto"); (· walk_at "tb"))
    | ((with_reducible apply Mm.w_idxC); (· walk_at "sto"); (· rfl))
    | ((with_reducible apply Mm.w_idxT); · first | exact Mm.atI0 | exact Mm.atI1 | exact Mm.atI2 | rfl)
    | ((with_reducible apply Mm.w_lenL); · walk_at "sto")
    | ((with_reducible apply Mm.w_lenC); · walk_at "sto")
    | ((with_reducible apply Mm.w_lenK); · walk_at "sto")
    | ((with_reducible apply Mm.w_tupL); · walk_at "sto")
    | ((with_reducible apply Mm.w_lstL); · walk_at "sto")
    | ((with_reducible apply Mm.w_cutL); · walk_at "sto")
    | ((with_reducible apply Mm.w_revL); · walk_at "sto")
    | ((with_reducible apply Mm.w_truL); · walk_at "sto")
    | ((with_reducible apply Mm.ex_mk); · exact Mm.it_lst (by walk_at "sto"))
    | ((with_reducible apply Mm.ex_mk); · exact Mm.it_con (by walk_at "sto"))
    | ((with_reducible apply Mm.ex_mk); · exact Mm.it_en2L (by walk_at "sto"))
    | ((with_reducible apply Mm.ex_mk); · exact Mm.it_en2C (by walk_at "sto"))
    | ((with_reducible apply Mm.ex_mk); · exact Mm.set_lst (by walk_at "sto") rfl)
    | ((with_reducible refine And.intro ?_ ?_); · exact Mm.ty_lst (by walk_at "sto"))
    | fail)
local macro_rules
  | `(tactic| walk_at "wq") => `(tactic| repeat' (first | (walk_at "wp1"; try dsimp only [List.set_cons_zero, List.set_cons_succ, Bool.not_true, Bool.not_false]) | (walk_at "wp2"; try dsimp only [Bool.not_true, Bool.not_false]) | fail))
local macro_rules
  | `(tactic| walk_at "wp") => `(tactic| repeat' (first | (with_reducible refine Mm.v_if ?_) | (walk_at "wp1"; try dsimp only [List.set_cons_zero, List.set_cons_succ, Bool.not_true, Bool.not_false]) | (walk_at "wp2"; try dsimp only [Bool.not_true, Bool.not_false]) | fail))
local macro_rules
  | `(tactic| walk_at "def") => `(tactic| (refine Mm.w_def rfl ?_; simp only [List.map_cons, List.map_nil, List.cons_append, List.nil_append, List.replicate, Nat.reduceSub, List.replicate_succ, List.replicate_zero]))
/-! the steps of the makers of inputs -/
local macro_rules
  | `(tactic| walk_at "gx") => `(tactic| first | with_reducible assumption | (with_reducible refine Law.GX.add ?_; walk_at "gx") | (with_reducible refine' Law.GX.putA ?a1 ?a2; (case a1 => walk_at "gx"); (case a2 => walk_at "gx")) | fail)
local macro_rules
  | `(tactic| walk_at "pk") => `(tactic| exact trivial)
local macro_rules
  | `(tactic| walk_at "tl") => `(tactic| with_unfolding_all exact of_decide_eq_true (p := _ ≤ 1000) rfl)
local macro_rules
  | `(tactic| walk_at "tm") => `(tactic| repeat' (with_reducible first
    | assumption
    | exact Law.TMs.nil | apply Law.TMs.cons
    | exact Law.AllM.nil | apply Law.AllM.cons
    | exact Law.StL.nil | apply Law.StL.cons | exact Law.InL.nil | apply Law.InL.cons
    | exact Law.RowL.nil | apply Law.RowL.cons
    | apply Law.TM.num | apply Law.TM.nam | apply Law.TM.tt | apply Law.TM.ff | apply Law.TM.no | apply Law.TM.ask
    | apply Law.TM.fn | apply Law.TM.dos | apply Law.TM.call | apply Law.TM.op | apply Law.TM.cond | apply Law.TM.wind | apply Law.TM.mark | apply Law.TM.shw
    | apply Law.TM.bnd (.inl rfl) | apply Law.TM.bnd (.inr rfl)
    | apply Law.TM.oneL (by assumption) (by decide +kernel) | apply Law.TMs.cutL (by assumption) (by decide +kernel)
    | apply Law.TM.one (.inl rfl) | apply Law.TM.one (.inr (.inl rfl)) | apply Law.TM.one (.inr (.inr (.inl rfl))) | apply Law.TM.one (.inr (.inr (.inr rfl)))
    | walk_at "pk"
    | walk_at "tl"
    | fail))
local macro_rules
  | `(tactic| walk_at "mx") => `(tactic| first | (simp only [Nat.max_le, Nat.add_zero, Nat.zero_add, Nat.add_le_add_iff_right]; done) | ((simp only [Nat.max_le, Nat.add_zero, Nat.zero_add, Nat.add_le_add_iff_right]); (repeat' apply And.intro) <;> omega) | omega)
local macro_rules
  | `(tactic| walk_at "ge") => `(tactic| (refine' ⟨Law.TM.mono ?h1 ?h2 ?h3, ?h4⟩; (case h1 => walk_at "tm"); (case h2 => walk_at "mx"); (case h3 => walk_at "mx"); (case h4 => walk_at "gx")))
local macro_rules
  | `(tactic| walk_at "call") => `(tactic| (with_reducible refine' Law.GX.drawQ ?a1 ?a2 ?a3 ?az; (case a1 => walk_at "gx"); (case a2 => first | decide | omega); (case a3 => first | decide | omega); (intro r S' r0 r1 g)))
local macro_rules
  | `(tactic| walk_at "call") => `(tactic| (with_reducible refine' Law.GX.pickSQ ?a1 ?a2 ?a3 ?a4 ?az; (case a1 => walk_at "gx"); (case a2 => walk_at "tm"; done); (case a3 => first | decide | (simp only [List.length_cons, List.length_nil]; omega)); (case a4 => first | decide | (simp only [List.length_cons, List.length_nil]; omega)); (intro s S' hs g)))
local macro_rules
  | `(tactic| walk_at "call") => `(tactic| (with_reducible refine' Law.GX.pickIQ ?a1 ?a2 ?a3 ?a4 ?az; (case a1 => walk_at "gx"); (case a2 => walk_at "tm"; done); (case a3 => first | decide | (simp only [List.length_cons, List.length_nil]; omega)); (case a4 => first | decide | (simp only [List.length_cons, List.length_nil]; omega)); (intro s S' hs g)))
local macro_rules
  | `(tactic| walk_at "call") => `(tactic| ((with_reducible refine' Law.w_inSt ?a1 ?az); (case a1 => walk_at "tm"; done)))
local macro_rules
  | `(tactic| walk_at "call") => `(tactic| ((with_reducible refine' Mm.w_addt ?a1 ?az); (case a1 => (simp only [List.length_cons, List.length_nil]; decide)); dsimp only [List.cons_append, List.nil_append]))
local macro_rules
  | `(tactic| walk_at "call") => `(tactic| ((with_reducible refine' Mm.w_addl ?a1 ?a2 ?a3 ?az); (case a1 => walk_at "sto"); (case a2 => walk_at "sto"); (case a3 => (simp only [List.length_cons, List.length_nil]; decide)); dsimp only [List.cons_append, List.nil_append]))
local macro_rules
  | `(tactic| walk_at "call") => `(tactic| ((with_reducible refine' Mm.w_append ?a1 ?a2 ?az); (case a1 => walk_at "sto"); (case a2 => (simp only [List.length_cons, List.length_nil]; decide)); dsimp only [List.cons_append, List.nil_append]))
local macro_rules
  | `(tactic| walk_at "gn") => `(tactic| repeat' (first
    | (with_reducible refine Mm.v_if ?_)
    | (walk_at "wp1"; try dsimp only [List.set_cons_zero, List.set_cons_succ, Bool.not_true, Bool.not_false])
    | (walk_at "wp2"; try dsimp only [Bool.not_true, Bool.not_false])
    | (with_reducible refine Mm.br_dec (fun e => ?_) (fun e => ?_))
    | walk_at "call"
    | walk_at "ge"
    | fail))
/-! the step of the tree proofs: words are known -/
local macro_rules
  | `(tactic| walk_at "in") => `(tactic| first | (refine Mm.w_inFl (b := true) (by decide +kernel) ?_) | (refine Mm.w_inFl (b := false) (by decide +kernel) ?_))
local macro_rules
  | `(tactic| walk_at "tr") => `(tactic| ((try walk_at "wp"); repeat' (first | (walk_at "in"; try walk_at "wp") | fail)))
theorem joined_ok {cl : Nat → Addr} {S : Sto} {k : Kd} {ps qs : List T} {j : Nat} (h : (T.node k ps).Ok) (hz : ps.length ≤ 100000) (hl : qs.length = ps.length) (g : S.g j = .lst (T.mvs qs)) (hj : j < S.n) :
    Ret (m__law_joined cl [(T.node k ps).mv, .ref j] S) fun y S' => y = (T.node k qs).mv ∧ Ext S S' := by
  have hk := h.k
  have sz : (1000001 : Nat) ≤ sizeLine := by decide
  have hml : (T.mvs ps).length = ps.length := by rw [T.mvs_map, List.length_map]
  have hql : (T.mvs qs).length = ps.length := by rw [T.mvs_map, List.length_map, hl]
  unfold m__law_joined
  walk_at "def"
  unfold b__law_joined
  simp only [T.mv]
  cases k with
  | num i =>
    have e1 := List.length_eq_zero_iff.1 hk
    subst e1
    have e2 := List.length_eq_zero_iff.1 hl
    subst e2
    walk_at "tr"
    exact ⟨rfl, Ext.refl⟩
  | nam s =>
    have e1 := List.length_eq_zero_iff.1 hk
    subst e1
    have e2 := List.length_eq_zero_iff.1 hl
    subst e2
    walk_at "tr"
    exact ⟨rfl, Ext.refl⟩
  | wd w =>
    obtain ⟨h1, h2⟩ := hk
    have e1 := List.length_eq_zero_iff.1 h1
    subst e1
    have e2 := List.length_eq_zero_iff.1 hl
    subst e2
    rcases h2 with rfl | rfl | rfl | rfl
    all_goals
      walk_at "tr"
      exact ⟨rfl, Ext.refl⟩
  | fn ns =>
    obtain ⟨p, rfl⟩ := len1 hk.1
    obtain ⟨q, rfl⟩ := len1 hl
    simp only [Kd.mv, T.mvs, List.headD_cons] at g ⊢
    walk_at "tr"
    exact ⟨rfl, Ext.refl⟩
  | one w s =>
    obtain ⟨h1, h2⟩ := hk
    obtain ⟨p, rfl⟩ := len1 h1
    obtain ⟨q, rfl⟩ := len1 hl
    simp only [Kd.mv, T.mvs, List.headD_cons] at g ⊢
    rcases h2 with rfl | rfl | rfl | rfl
    all_goals
      walk_at "tr"
      exact ⟨rfl, Ext.refl⟩
  | bnd w ns =>
    obtain ⟨h1, h2⟩ := hk
    rw [h1] at hl
    obtain ⟨us, u, rfl, hu⟩ := last_split h1
    obtain ⟨vs, v, rfl, hv⟩ := last_split hl
    have e1 : T.mvs (us ++ [u]) = T.mvs us ++ [u.mv] := by rw [T.mvs_map, T.mvs_map, List.map_append]; rfl
    have f1 : T.mvs (vs ++ [v]) = T.mvs vs ++ [v.mv] := by rw [T.mvs_map, T.mvs_map, List.map_append]; rfl
    have e2 : (T.mvs us).length = ns.length := by rw [T.mvs_map, List.length_map, hu]
    have f2 : (T.mvs vs).length = ns.length := by rw [T.mvs_map, List.length_map, hv]
    have e3 : (T.mvs us ++ [u.mv]).getLastD .non = u.mv := by simp
    have f3 : (T.mvs vs ++ [v.mv]).getLastD .non = v.mv := by simp
    rw [f1] at g
    rw [List.length_append, List.length_singleton] at hz
    simp only [Kd.mv, e1, f1, zip_app1 ns _ _ e2, zip_app1 ns _ _ f2, e3, f3]
    rcases h2 with rfl | rfl
    all_goals
      walk_at "tr"
      refine w_zip2 ?_
      walk_at "wq"
      refine ⟨_, it_zTL g, ?_⟩
      refine (zrows_ok (ns := ns) (ps := T.mvs us) (qs := T.mvs vs ++ [v.mv]) e2 (by rw [List.length_append, f2]; omega) (by rw [List.length_append, f2]; simp only [List.length_singleton]; omega) (by simp [wipeE]) (by simp [wipeE]) (by decide) (ck_l g)).imp ?_
      rintro acc S2 ⟨rfl, rfl⟩
      rw [zip_app1 ns _ _ f2]
      walk_at "wq"
      exact ⟨rfl, Ext.refl.add⟩
  | dos =>
    simp only [Kd.mv]
    walk_at "tr"
    exact ⟨rfl, Ext.refl⟩
  | call =>
    cases ps with
    | nil => exact absurd hk (show ¬ 1 ≤ 0 by decide)
    | cons p ps =>
      cases qs with
      | nil => cases hl
      | cons q qs =>
        simp only [Kd.mv, T.mvs, List.headD_cons, List.tail_cons] at g ⊢
        walk_at "tr"
        rw [cutM_from (by decide)]
        exact ⟨rfl, Ext.refl.add⟩
  | op w =>
    simp only [Kd.mv]
    walk_at "tr"
    exact ⟨rfl, Ext.refl⟩
  | oth w =>
    simp only [Kd.mv]
    rcases hk with ⟨rfl, _⟩ | ⟨rfl, _⟩ | ⟨rfl, _⟩ | ⟨rfl, _⟩
    all_goals
      walk_at "tr"
      refine w_addt (by simp only [List.length_singleton]; omega) ⟨rfl, Ext.refl⟩
end Law
end

section
namespace Law
open PySem L2 Mm
/-! the step of the pure proofs -/
local macro_rules
  | `(tactic| walk_at "wp side") => `(tactic| first | assumption | omega | decide)
local macro_rules
  | `(tactic| walk_at "wp1") => `(tactic| with_reducible first
    | refine Mm.v_seq ?_ | refine Mm.v_nx ?_ | refine Mm.v_asg ?_ | refine Mm.v_asgP ?_ | refine Mm.v_ret ?_ | refine Mm.v_retN ?_ | refine Mm.v_drop ?_ | refine Mm.v_set ?_ | refine Mm.v_aug ?_ | refine Mm.v_for ?_ | refine Mm.v_brk ?_ | refine Mm.v_ct ?_
    | refine Mm.w_con ?_ | refine Mm.w_op2 ?_ | refine Mm.w_op1 ?_ | refine Mm.w_opL ?_ | refine Mm.w_cons ?_ | refine Mm.w_nil ?_
    | refine Mm.w_add ?_ | refine Mm.w_sub ?_ | refine Mm.w_neg ?_ | refine Mm.w_lt ?_ | refine Mm.w_le ?_ | refine Mm.w_gt ?_ | refine Mm.w_ge ?_ | refine Mm.w_eqi ?_ | refine Mm.w_nei ?_ | refine Mm.w_eqs ?_ | refine Mm.w_nes ?_ | refine Mm.w_int ?_ | refine Mm.w_abs ?_ | refine Mm.w_isN ?_ | refine Mm.w_notN ?_ | refine Mm.w_min ?_ | refine Mm.w_max ?_
    | refine Mm.w_tru ?_ | refine Mm.w_blM ?_ | refine Mm.w_andB ?_ | refine Mm.w_orB ?_ | refine Mm.w_notB ?_ | refine Mm.w_ifV ?_ | refine Mm.w_andV ?_ | refine Mm.w_orV ?_ | refine Mm.w_notV ?_ | refine Mm.w_truB ?_ | refine Mm.w_truI ?_ | refine Mm.w_truN ?_ | refine Mm.w_truT ?_
    | refine Mm.w_dNewK ?_ | refine Mm.w_dNewT ?_ | refine Mm.w_iter ?_ | refine Mm.w_strS ?_ | refine Mm.w_inT ?_ | refine Mm.w_idxTM ?_ | refine Mm.v_setTM ?_ | refine Mm.v_par ?_ | refine Mm.w_met ?_ | refine Mm.w_itmM ?_ | refine Mm.w_enm ?_ | refine Mm.w_enm2 ?_ | refine Mm.w_zip ?_ | refine Mm.w_rev ?_ | refine Mm.w_bm ?_ | refine Mm.w_lc ?_ | refine Mm.w_yes ?_ | refine Mm.br_t ?_ | refine Mm.br_f ?_ | refine Mm.w_slc ?_ | refine Mm.w_pno ?_ | refine Mm.w_pso ?_ | refine Mm.w_lenT ?_ | refine Mm.w_tupT ?_ | refine Mm.w_lstT ?_ | refine Mm.w_cutT ?_)
local macro_rules
  | `(tactic| walk_at "sto") => `(tactic| first
    | with_reducible assumption
    | with_reducible exact Mm.put_same
    | with_reducible exact Mm.add_same
    | (with_reducible refine (Mm.put_ne (by first | assumption | exact Ne.symm (by assumption) | ((try dsimp only [Mm.Sto.add, Mm.Sto.put]); omega))).trans ?_; walk_at "sto")
    | (with_reducible refine (Mm.add_ne (by first | assumption | exact Ne.symm (by assumption) | ((try dsimp only [Mm.Sto.add, Mm.Sto.put]); omega))).trans ?_; walk_at "sto")
    | fail)
local macro_rules
  | `(tactic| walk_at "lk") => `(tactic| first | with_reducible exact Mm.lk_here | with_reducible exact Mm.lk_nil | with_reducible assumption | (with_reducible apply Mm.lk_next; (· decide +kernel); (· walk_at "lk")) | fail)
local macro_rules
  | `(tactic| walk_at "pf") => `(tactic| first | with_reducible exact Mm.pf_nil | with_reducible exact Mm.pf_here | (with_reducible apply Mm.pf_next; (· decide +kernel); (· walk_at "pf")) | fail)
local macro_rules
  | `(tactic| walk_at "vf") => `(tactic| (refine' Mm.v_fldv ?a1 ?a2 ?a3 ?a4 ?a5 ?a6 ?a7; (case a1 => rfl); (case a2 => rfl); (case a3 => exact Mm.add_same); (case a4 => simp); (case a5 => simp only [List.length_cons, List.length_nil]; decide); (case a6 => walk_at "pf"); rw [Mm.add_put]))
local macro_rules
  | `(tactic| walk_at "tb") => `(tactic| first | with_reducible exact Mm.tb_here | (with_reducible apply Mm.tb_next; (· simp); (· walk_at "tb")) | fail)
local macro_rules
  | `(tactic| walk_at "wp2") => `(tactic| first
    | ((with_reducible apply Mm.w_var); · rfl)
    | ((with_reducible apply Mm.ex_mk); · with_reducible refine Mm.rng1 (by (try simp only [List.length_map]); omega))
    | ((with_reducible apply Mm.ex_mk); · with_reducible refine Mm.rng2 (by (try simp only [List.length_map]); omega))
    | ((with_reducible apply Mm.ex_mk); · rfl)
    | ((with_reducible refine Mm.br_true ?_ ?_); · rfl)
    | ((with_reducible refine Mm.br_false ?_ ?_); · rfl)
    | ((with_reducible refine Mm.w_mod ?_ ?_); · walk_at "wp side")
    | ((with_reducible refine Mm.w_div ?_ ?_ ?_); (· walk_at "wp side"); (· (first | decide | assumption)))
    | ((with_reducible refine Mm.w_mul ?_ ?_); · exact .inl (.inr (by decide)))
    | ((with_reducible refine Mm.w_mul ?_ ?_); · exact .inl (.inl (by decide)))
    | ((with_reducible refine Mm.w_mul ?_ ?_); · exact .inl (.inl (by omega)))
    | ((with_reducible refine Mm.w_mul ?_ ?_); · exact .inl (.inr (by omega)))
    | ((with_reducible refine Mm.w_pow ?_ ?_); · decide)
    | ((with_reducible refine Mm.w_lstV ?_ ?_); · (simp only [List.length_cons, List.length_nil]; decide))
    | ((with_reducible refine Mm.w_tupV ?_ ?_); · (simp only [List.length_cons, List.length_nil]; decide))
    | ((with_reducible apply Mm.w_idxL); (· walk_at "sto"); (· first | exact Mm.atI0 | exact Mm.atI1 | exact Mm.atI2 | exact Mm.atIl | rfl))
    | ((with_reducible apply Mm.w_fld); (· walk_at "sto"); (· simp); (· walk_at "lk"))
    | ((with_reducible apply Mm.w_isI); (· walk_at "sto"); (· walk_at "tb"))
    | ((with_reducible apply Mm.w_idxC); (· walk_at "sto"); (· rfl))
    | ((with_reducible apply Mm.w_idxT); · first | exact Mm.atI0 | exact Mm.atI1 | exact Mm.atI2 | rfl)
    | ((with_reducible apply Mm.w_lenL); · walk_at "sto")
    | ((with_reducible apply Mm.w_lenC); · walk_at "sto")
    | ((with_reducible apply Mm.w_lenK); · walk_at "sto")
    | ((with_reducible apply Mm.w_tupL); · walk_at "sto")
    | ((with_reducible apply Mm.w_lstL); · walk_at "sto")
    | ((with_reducible apply Mm.w_cutL); · walk_at "sto")
    | ((with_reducible apply Mm.w_revL); · walk_at "sto")
    | ((with_reducible apply Mm.w_truL); · walk_at "sto")
    | ((with_reducible apply Mm.ex_mk); · exact Mm.it_lst (by walk_at "sto"))
    | ((with_reducible apply Mm.ex_mk); · exact Mm.it_con (by walk_at "sto"))
    | ((with_reducible apply Mm.ex_mk); · exact Mm.it_en2L (by walk_at "sto"))
    | ((with_reducible apply Mm.ex_mk); · exact Mm.it_en2C (by walk_at "sto"))
    | ((with_reducible apply Mm.ex_mk); · exact Mm.set_lst (by walk_at "sto") rfl)
    | ((with_reducible refine And.intro ?_ ?_); · exact Mm.ty_lst (by walk_at "sto"))
    | fail)
local macro_rules
  | `(tactic| walk_at "wq") => `(tactic| repeat' (first | (walk_at "wp1"; try dsimp only [List.set_cons_zero, List.set_cons_succ, Bool.not_true, Bool.not_false]) | (walk_at "wp2"; try dsimp only [Bool.not_true, Bool.not_false]) | fail))
local macro_rules
  | `(tactic| walk_at "wp") => `(tactic| repeat' (first | (with_reducible refine Mm.v_if ?_) | (walk_at "wp1"; try dsimp only [List.set_cons_zero, List.set_cons_succ, Bool.not_true, Bool.not_false]) | (walk_at "wp2"; try dsimp only [Bool.not_true, Bool.not_false]) | fail))
local macro_rules
  | `(tactic| walk_at "def") => `(tactic| (refine Mm.w_def rfl ?_; simp only [List.map_cons, List.map_nil, List.cons_append, List.nil_append, List.replicate, Nat.reduceSub, List.replicate_succ, List.replicate_zero]))
/-! the steps of the makers of inputs -/
local macro_rules
  | `(tactic| walk_at "gx") => `(tactic| first | with_reducible assumption | (with_reducible refine Law.GX.add ?_; walk_at "gx") | (with_reducible refine' Law.GX.putA ?a1 ?a2; (case a1 => walk_at "gx"); (case a2 => walk_at "gx")) | fail)
local macro_rules
  | `(tactic| walk_at "pk") => `(tactic| exact trivial)
local macro_rules
  | `(tactic| walk_at "tl") => `(tactic| with_unfolding_all exact of_decide_eq_true (p := _ ≤ 1000) rfl)
local macro_rules
  | `(tactic| walk_at "tm") => `(tactic| repeat' (with_reducible first
    | assumption
    | exact Law.TMs.nil | apply Law.TMs.cons
    | exact Law.AllM.nil | apply Law.AllM.cons
    | exact Law.StL.nil | apply Law.StL.cons | exact Law.InL.nil | apply Law.InL.cons
    | exact Law.RowL.nil | apply Law.RowL.cons
    | apply Law.TM.num | apply Law.TM.nam | apply Law.TM.tt | apply Law.TM.ff | apply Law.TM.no | apply Law.TM.ask
    | apply Law.TM.fn | apply Law.TM.dos | apply Law.TM.call | apply Law.TM.op | apply Law.TM.cond | apply Law.TM.wind | apply Law.TM.mark | apply Law.TM.shw
    | apply Law.TM.bnd (.inl rfl) | apply Law.TM.bnd (.inr rfl)
    | apply Law.TM.oneL (by assumption) (by decide +kernel) | apply Law.TMs.cutL (by assumption) (by decide +kernel)
    | apply Law.TM.one (.inl rfl) | apply Law.TM.one (.inr (.inl rfl)) | apply Law.TM.one (.inr (.inr (.inl rfl))) | apply Law.TM.one (.inr (.inr (.inr rfl)))
    | walk_at "pk"
    | walk_at "tl"
    | fail))
local macro_rules
  | `(tactic| walk_at "mx") => `(tactic| first | (simp only [Nat.max_le, Nat.add_zero, Nat.zero_add, Nat.add_le_add_iff_right]; done) | ((simp only [Nat.max_le, Nat.add_zero, Nat.zero_add, Nat.add_le_add_iff_right]); (repeat' apply And.intro) <;> omega) | omega)
local macro_rules
  | `(tactic| walk_at "ge") => `(tactic| (refine' ⟨Law.TM.mono ?h1 ?h2 ?h3, ?h4⟩; (case h1 => walk_at "tm"); (case h2 => walk_at "mx"); (case h3 => walk_at "mx"); (case h4 => walk_at "gx")))
local macro_rules
  | `(tactic| walk_at "call") => `(tactic| (with_reducible refine' Law.GX.drawQ ?a1 ?a2 ?a3 ?az; (case a1 => walk_at "gx"); (case a2 => first | decide | omega); (case a3 => first | decide | omega); (intro r S' r0 r1 g)))
local macro_rules
  | `(tactic| walk_at "call") => `(tactic| (with_reducible refine' Law.GX.pickSQ ?a1 ?a2 ?a3 ?a4 ?az; (case a1 => walk_at "gx"); (case a2 => walk_at "tm"; done); (case a3 => first | decide | (simp only [List.length_cons, List.length_nil]; omega)); (case a4 => first | decide | (simp only [List.length_cons, List.length_nil]; omega)); (intro s S' hs g)))
local macro_rules
  | `(tactic| walk_at "call") => `(tactic| (with_reducible refine' Law.GX.pickIQ ?a1 ?a2 ?a3 ?a4 ?az; (case a1 => walk_at "gx"); (case a2 => walk_at "tm"; done); (case a3 => first | decide | (simp only [List.length_cons, List.length_nil]; omega)); (case a4 => first | decide | (simp only [List.length_cons, List.length_nil]; omega)); (intro s S' hs g)))
local macro_rules
  | `(tactic| walk_at "call") => `(tactic| ((with_reducible refine' Law.w_inSt ?a1 ?az); (case a1 => walk_at "tm"; done)))
local macro_rules
  | `(tactic| walk_at "call") => `(tactic| ((with_reducible refine' Mm.w_addt ?a1 ?az); (case a1 => (simp only [List.length_cons, List.length_nil]; decide)); dsimp only [List.cons_append, List.nil_append]))
local macro_rules
  | `(tactic| walk_at "call") => `(tactic| ((with_reducible refine' Mm.w_addl ?a1 ?a2 ?a3 ?az); (case a1 => walk_at "sto"); (case a2 => walk_at "sto"); (case a3 => (simp only [List.length_cons, List.length_nil]; decide)); dsimp only [List.cons_append, List.nil_append]))
local macro_rules
  | `(tactic| walk_at "call") => `(tactic| ((with_reducible refine' Mm.w_append ?a1 ?a2 ?az); (case a1 => walk_at "sto"); (case a2 => (simp only [List.length_cons, List.length_nil]; decide)); dsimp only [List.cons_append, List.nil_append]))
local macro_rules
  | `(tactic| walk_at "gn") => `(tactic| repeat' (first
    | (with_reducible refine Mm.v_if ?_)
    | (walk_at "wp1"; try dsimp only [List.set_cons_zero, List.set_cons_succ, Bool.not_true, Bool.not_false])
    | (walk_at "wp2"; try dsimp only [Bool.not_true, Bool.not_false])
    | (with_reducible refine Mm.br_dec (fun e => ?_) (fun e => ?_))
    | walk_at "call"
    | walk_at "ge"
    | fail))
theorem at_app : ∀ (p q : Pth) (t : T), atA (p ++ q) t = (atA p t).bind (atA q)
  | [], q, t => rfl
  | i :: p, q, .node k ps => by
    simp only [List.cons_append, atA]
    split
    · cases h : ps[i.toNat]? with
      | none => rfl
      | some v => simp only [Option.bind_some]; exact at_app p q v
    · rfl
theorem at_take {p : Pth} {t u : T} (h : atA p t = some u) (i : Nat) : ∃ v, atA (p.take i) t = some v := by
  have e := at_app (p.take i) (p.drop i) t
  rw [List.take_append_drop, h] at e
  cases q : atA (p.take i) t with
  | none => rw [q] at e; cases e
  | some v => exact ⟨v, rfl⟩
theorem w_ch {g g' : MV → MV → Sto → Res MV} {ma mb mc : EM} {e : Sl} {S : Sto} {Q : MV → Sto → Prop} (h : Ret (ma e S) fun x S1 => Ret (mb e S1) fun y S2 => Ret (g x y S2) fun z S3 => ∃ b, z = .bl b ∧ (b = true → Ret (mc e S3) fun w S4 => Ret (g' y w S4) Q) ∧ (b = false → Q (.bl false) S3)) : Ret (chM g g' ma mb mc e S) Q := by
  refine w_bind (h.imp fun x S1 h => w_bind (h.imp fun y S2 h => w_bind (h.imp fun z S3 ⟨b, e1, h1, h2⟩ => ?_)))
  subst e1
  refine w_bind (show Ret (.ok b S3) _ from ?_)
  cases b with
  | true => exact w_bind (m := mc) (f := fun w => fun _ S => g' y w S) (h1 rfl)
  | false => exact h2 rfl
theorem tree_at_ok {cl : Nat → Addr} {p : Pth} {t u : T} {S : Sto} (hu : atA p t = some u) (ht : t.Ok) (hz : t.size ≤ 100000) : Ret (m_tree_at cl [t.mv, pM p] S) fun y S' => y = u.mv ∧ Ext S S' := by
  unfold m_tree_at
  walk_at "def"
  unfold b_tree_at
  unfold pM
  walk_at "wq"
  refine v_loop0 (fun i e S' => Ext S S' ∧ ∃ v x3 x4, atA (p.take i) t = some v ∧ e = [some t.mv, some (pM p), some v.mv, x3, x4]) ⟨Ext.refl, t, _, _, rfl, rfl⟩ ?_ ?_
  · rintro i x e S1 hx ⟨E1, v, x3, x4, hv, rfl⟩
    rw [List.getElem?_map] at hx
    obtain ⟨c, hc, rfl⟩ := Option.map_eq_some_iff.1 hx
    obtain ⟨v2, h2⟩ := at_take hu (i + 1)
    have h3 : atA [c] v = some v2 := by
      rw [take_snoc hc, at_app, hv] at h2
      exact h2
    obtain ⟨v1, v2'⟩ := at_ok _ _ _ hv ht
    obtain ⟨k, ps⟩ := v
    have hlen := T.len_sizes ps
    simp only [T.size] at v2'
    simp only [atA] at h3
    split at h3
    · rename_i hc0
      cases q : ps[c.toNat]? with
      | none => rw [q] at h3; cases h3
      | some w =>
        rw [q] at h3
        cases h3
        have hl := (List.getElem?_eq_some_iff.1 q).1
        refine ⟨ck_n, _, rfl, ?_⟩
        walk_at "wq"
        refine (parts_ok v1 (by omega)).imp ?_
        rintro _ S2 ⟨rfl, E2⟩
        walk_at "wq"
        refine v_if (w_notB (w_blM (w_ch ?_)))
        walk_at "wq"
        refine br_dec (fun _ => ?_) (fun hn => absurd hc0 hn)
        walk_at "wq"
        have hml : (T.mvs ps).length = ps.length := by rw [T.mvs_map, List.length_map]
        refine br_nd (fun hn => absurd (by rw [hml]; omega) hn) (fun _ => ?_)
        walk_at "wq"
        refine w_idxT (x := v2.mv) (atI_nn hc0 (by rw [T.mvs_map, List.getElem?_map, q]; rfl)) ?_
        walk_at "wq"
        exact ⟨E1.trans E2, v2, _, _, h2, rfl⟩
    · cases h3
  · rintro e S1 ⟨E1, v, x3, x4, hv, rfl⟩
    rw [List.length_map, List.take_length, hu] at hv
    cases hv
    refine ⟨ck_n, ?_⟩
    walk_at "wq"
    exact ⟨rfl, E1⟩
theorem selAL_snoc {f : Kd → Bool} : ∀ {ts : List T} {n j : Nat} {t : T}, ts[j]? = some t → selAL f n (ts.take (j + 1)) = selAL f n (ts.take j) ++ (selA f t).map (fun p => ((n + j : Nat) : Int) :: p)
  | [], n, j, t, h => by simp at h
  | u :: ts, n, 0, t, h => by
    simp at h; subst h
    simp [selAL]
  | u :: ts, n, j + 1, t, h => by
    have ih := selAL_snoc (f := f) (n := n + 1) (show ts[j]? = some t by simpa using h)
    simp only [List.take_succ_cons, selAL, List.append_assoc]
    rw [ih, show n + 1 + j = n + (j + 1) by omega]
theorem selAL_take_len (f : Kd → Bool) (ts : List T) (n j : Nat) : (selAL f n (ts.take j)).length ≤ T.sizes ts := Nat.le_trans (selAL_len f n _) (T.sizes_take_le ts j)
/-- the paths of a part, one step longer -/
theorem longer_ok {S : Sto} {l : List Pth} {i : Int} {e : Sl} (hl : l.length ≤ 1000000) (hp : ∀ p ∈ l, p.length ≤ 1000) (h2 : e[2]? = some (some (.int i))) (h4 : 4 < e.length) :
    Ret (lcLoop [] (.nm 4) yesM (op2 addV (opL tupV (consM (varM 2) nilM)) (varM 4)) e (l.map pM) [] S) fun acc S' => S' = S ∧ acc = (l.map fun p => i :: p).map pM := by
  have sz : (1000001 : Nat) ≤ sizeLine := by decide
  refine w_lc0 (fun n acc S' => S' = S ∧ acc = ((l.take n).map fun p => i :: p).map pM) ⟨rfl, rfl⟩ ?_ ?_
  · rintro n x acc S' hx ⟨rfl, rfl⟩
    obtain ⟨p, hp1, rfl, hm⟩ := get_map hx
    have hpl := hp p hm
    refine ⟨ck_n, _, rfl, w_yes (br_t (w_op2 (w_opL (w_cons (w_var (x := .int i) ?_ (w_nil (w_tupV (by simp only [List.length_cons, List.length_nil]; decide) (w_var (x := pM p) ?_ ?_))))))))⟩
    · rw [List.getElem?_set_ne (by decide)]; exact h2
    · exact List.getElem?_set_self h4
    · refine w_addt (by rw [List.length_map, List.length_singleton]; omega) ?_
      exact ⟨by rw [List.length_map, List.length_map, List.length_take]; have := (List.getElem?_eq_some_iff.1 hp1).1; omega, rfl, by rw [take_snoc hp1, List.map_append, List.map_append]; rfl⟩
  · rintro acc S' ⟨rfl, rfl⟩
    rw [List.length_map, List.take_length]
    exact ⟨ck_n, rfl, rfl⟩
theorem sel_short {f : Kd → Bool} {t : T} {p : Pth} (h : p ∈ selA f t) : p.length < t.dep := by
  obtain ⟨u, h1, _⟩ := (sel_mem_at p t).1 h
  have := at_dep _ _ _ h1
  cases u; simp only [T.dep] at this ⊢; omega
theorem tree_paths_ok {cl : Nat → Addr} : ∀ (n : Nat) (t : T) (S : Sto), t.dep ≤ n → t.Ok → t.size ≤ 100000 → t.dep ≤ 500 → Ret (m_tree_paths cl n [t.mv] S) fun y S' => y = .tup ((pathsA t).map pM) ∧ Ext S S'
  | 0, t, S, hd, _, _, _ => by
    cases t with
    | node k ps => simp only [T.dep] at hd; omega
  | n + 1, .node k ps, S, hd, h, hs, hD => by
    have sz : (16777216 : Nat) ≤ sizeLine := by decide
    have hz : T.sizes ps ≤ 100000 := by simp only [T.size] at hs; omega
    have hml : (T.mvs ps).length = ps.length := by rw [T.mvs_map, List.length_map]
    rw [m_tree_paths_s]
    walk_at "def"
    unfold b_tree_paths
    walk_at "wq"
    refine (parts_ok h (by omega)).imp ?_
    rintro _ S1 ⟨rfl, E1⟩
    have g1 : S1.g S.n = .lst [.tup []] := (E1.2 _ (Nat.lt_succ_self _)).trans add_same
    have n1 : S.n < S1.n := E1.1
    walk_at "wq"
    refine v_loop0 (fun i e S' => Ext S S' ∧ S.n < S'.n ∧ S'.g S.n = .lst (([] :: selAL (fun _ => true) 0 (ps.take i)).map pM) ∧ ∃ x2 x3 x4, e = [some (T.node k ps).mv, some (.ref S.n), x2, x3, x4]) ⟨(Ext.refl.add).trans E1, n1, g1, _, _, _, rfl⟩ ?_ ?_
    · rintro i x e S2 hx ⟨E2, n2, g2, x2, x3, x4, rfl⟩
      obtain ⟨y, hy, rfl⟩ := prI_get hx
      rw [T.mvs_map, List.getElem?_map] at hy
      obtain ⟨t, ht, rfl⟩ := Option.map_eq_some_iff.1 hy
      have htm := List.mem_of_getElem? ht
      have hts := T.size_mem htm
      have htd := T.dep_mem htm
      simp only [T.dep] at hd hD
      refine ⟨ck_n, _, rfl, ?_⟩
      walk_at "wq"
      refine (tree_paths_ok n t S2 (by omega) (h.ps t htm) (by omega) (by omega)).imp ?_
      rintro _ S3 ⟨rfl, E3⟩
      have g3 := (E3.2 _ n2).trans g2
      walk_at "wq"
      refine (longer_ok (i := (i : Int)) (Nat.le_trans (sel_len _ t) (by omega)) (fun p hp => by have := sel_short hp; omega) (by simp [wipeE]) (by simp [wipeE])).imp ?_
      rintro acc S4 ⟨rfl, rfl⟩
      walk_at "wq"
      have ll := selAL_take_len (fun _ => true) ps 0 (i + 1)
      rw [selAL_snoc ht, Nat.zero_add] at ll
      refine w_extend ((add_ne (Nat.ne_of_lt (Nat.lt_of_lt_of_le n2 E3.1))).trans g3) add_same (by simp only [List.length_map, List.length_cons, List.length_append] at ll ⊢; omega) ?_
      refine ⟨((E2.trans E3).add).put (Nat.le_refl _), Nat.lt_succ_of_lt (Nat.lt_of_lt_of_le n2 E3.1), ?_, _, _, _, rfl⟩
      rw [put_same, selAL_snoc ht, Nat.zero_add]
      simp only [List.map_cons, List.map_append, List.cons_append]
    · rintro e S2 ⟨E2, n2, g2, x2, x3, x4, rfl⟩
      rw [prI_len, hml, List.take_length] at g2
      refine ⟨ck_n, ?_⟩
      walk_at "wq"
      exact ⟨by simp [pathsA, selA], E2⟩
end Law
end

section
namespace Law
open PySem L2 Mm
/-! the step of the pure proofs -/
local macro_rules
  | `(tactic| walk_at "wp side") => `(tactic| first | assumption | omega | decide)
local macro_rules
  | `(tactic| walk_at "wp1") => `(tactic| with_reducible first
    | refine Mm.v_seq ?_ | refine Mm.v_nx ?_ | refine Mm.v_asg ?_ | refine Mm.v_asgP ?_ | refine Mm.v_ret ?_ | refine Mm.v_retN ?_ | refine Mm.v_drop ?_ | refine Mm.v_set ?_ | refine Mm.v_aug ?_ | refine Mm.v_for ?_ | refine Mm.v_brk ?_ | refine Mm.v_ct ?_
    | refine Mm.w_con ?_ | refine Mm.w_op2 ?_ | refine Mm.w_op1 ?_ | refine Mm.w_opL ?_ | refine Mm.w_cons ?_ | refine Mm.w_nil ?_
    | refine Mm.w_add ?_ | refine Mm.w_sub ?_ | refine Mm.w_neg ?_ | refine Mm.w_lt ?_ | refine Mm.w_le ?_ | refine Mm.w_gt ?_ | refine Mm.w_ge ?_ | refine Mm.w_eqi ?_ | refine Mm.w_nei ?_ | refine Mm.w_eqs ?_ | refine Mm.w_nes ?_ | refine Mm.w_int ?_ | refine Mm.w_abs ?_ | refine Mm.w_isN ?_ | refine Mm.w_notN ?_ | refine Mm.w_min ?_ | refine Mm.w_max ?_
    | refine Mm.w_tru ?_ | refine Mm.w_blM ?_ | refine Mm.w_andB ?_ | refine Mm.w_orB ?_ | refine Mm.w_notB ?_ | refine Mm.w_ifV ?_ | refine Mm.w_andV ?_ | refine Mm.w_orV ?_ | refine Mm.w_notV ?_ | refine Mm.w_truB ?_ | refine Mm.w_truI ?_ | refine Mm.w_truN ?_ | refine Mm.w_truT ?_
    | refine Mm.w_dNewK ?_ | refine Mm.w_dNewT ?_ | refine Mm.w_iter ?_ | refine Mm.w_strS ?_ | refine Mm.w_inT ?_ | refine Mm.w_idxTM ?_ | refine Mm.v_setTM ?_ | refine Mm.v_par ?_ | refine Mm.w_met ?_ | refine Mm.w_itmM ?_ | refine Mm.w_enm ?_ | refine Mm.w_enm2 ?_ | refine Mm.w_zip ?_ | refine Mm.w_rev ?_ | refine Mm.w_bm ?_ | refine Mm.w_lc ?_ | refine Mm.w_yes ?_ | refine Mm.br_t ?_ | refine Mm.br_f ?_ | refine Mm.w_slc ?_ | refine Mm.w_pno ?_ | refine Mm.w_pso ?_ | refine Mm.w_lenT ?_ | refine Mm.w_tupT ?_ | refine Mm.w_lstT ?_ | refine Mm.w_cutT ?_)
local macro_rules
  | `(tactic| walk_at "sto") => `(tactic| first
    | with_reducible assumption
    | with_reducible exact Mm.put_same
    | with_reducible exact Mm.add_same
    | (with_reducible refine (Mm.put_ne (by first | assumption | exact Ne.symm (by assumption) | ((try dsimp only [Mm.Sto.add, Mm.Sto.put]); omega))).trans ?_; walk_at "sto")
    | (with_reducible refine (Mm.add_ne (by first | assumption | exact Ne.symm (by assumption) | ((try dsimp only [Mm.Sto.add, Mm.Sto.put]); omega))).trans ?_; walk_at "sto")
    | fail)
local macro_rules
  | `(tactic| walk_at "lk") => `(tactic| first | with_reducible exact Mm.lk_here | with_reducible exact Mm.lk_nil | with_reducible assumption | (with_reducible apply Mm.lk_next; (· decide +kernel); (· walk_at "lk")) | fail)
local macro_rules
  | `(tactic| walk_at "pf") => `(tactic| first | with_reducible exact Mm.pf_nil | with_reducible exact Mm.pf_here | (with_reducible apply Mm.pf_next; (· decide +kernel); (· walk_at "pf")) | fail)
local macro_rules
  | `(tactic| walk_at "vf") => `(tactic| (refine' Mm.v_fldv ?a1 ?a2 ?a3 ?a4 ?a5 ?a6 ?a7; (case a1 => rfl); (case a2 => rfl); (case a3 => exact Mm.add_same); (case a4 => simp); (case a5 => simp only [List.length_cons, List.length_nil]; decide); (case a6 => walk_at "pf"); rw [Mm.add_put]))
local macro_rules
  | `(tactic| walk_at "tb") => `(tactic| first | with_reducible exact Mm.tb_here | (with_reducible apply Mm.tb_next; (· simp); (· walk_at "tb")) | fail)
local macro_rules
  | `(tactic| walk_at "wp2") => `(tactic| first
    | ((with_reducible apply Mm.w_var); · rfl)
    | ((with_reducible apply Mm.ex_mk); · with_reducible refine Mm.rng1 (by (try simp only [List.length_map]); omega))
    | ((with_reducible apply Mm.ex_mk); · with_reducible refine Mm.rng2 (by (try simp only [List.length_map]); omega))
    | ((with_reducible apply Mm.ex_mk); · rfl)
    | ((with_reducible refine Mm.br_true ?_ ?_); · rfl)
    | ((with_reducible refine Mm.br_false ?_ ?_); · rfl)
    | ((with_reducible refine Mm.w_mod ?_ ?_); · walk_at "wp side")
    | ((with_reducible refine Mm.w_div ?_ ?_ ?_); (· walk_at "wp side"); (· (first | decide | assumption)))
    | ((with_reducible refine Mm.w_mul ?_ ?_); · exact .inl (.inr (by decide)))
    | ((with_reducible refine Mm.w_mul ?_ ?_); · exact .inl (.inl (by decide)))
    | ((with_reducible refine Mm.w_mul ?_ ?_); · exact .inl (.inl (by omega)))
    | ((with_reducible refine Mm.w_mul ?_ ?_); · exact .inl (.inr (by omega)))
    | ((with_reducible refine Mm.w_pow ?_ ?_); · decide)
    | ((with_reducible refine Mm.w_lstV ?_ ?_); · (simp only [List.length_cons, List.length_nil]; decide))
    | ((with_reducible refine Mm.w_tupV ?_ ?_); · (simp only [List.length_cons, List.length_nil]; decide))
    | ((with_reducible apply Mm.w_idxL); (· walk_at "sto"); (· first | exact Mm.atI0 | exact Mm.atI1 | exact Mm.atI2 | exact Mm.atIl | rfl))
    | ((with_reducible apply Mm.w_fld); (· walk_at "sto"); (· simp); (· walk_at "lk"))
    | ((with_reducible apply Mm.w_isI); (· walk_at "sto"); (· walk_at "tb"))
    | ((with_reducible apply Mm.w_idxC); (· walk_at "sto"); (· rfl))
    | ((with_reducible apply Mm.w_idxT); · first | exact Mm.atI0 | exact Mm.atI1 | exact Mm.atI2 | rfl)
    | ((with_reducible apply Mm.w_lenL); · walk_at "sto")
    | ((with_reducible apply Mm.w_lenC); · walk_at "sto")
    | ((with_reducible apply Mm.w_lenK); · walk_at "sto")
    | ((with_reducible apply Mm.w_tupL); · walk_at "sto")
    | ((with_reducible apply Mm.w_lstL); · walk_at "sto")
    | ((with_reducible apply Mm.w_cutL); · walk_at "sto")
    | ((with_reducible apply Mm.w_revL); · walk_at "sto")
    | ((with_reducible apply Mm.w_truL); · walk_at "sto")
    | ((with_reducible apply Mm.ex_mk); · exact Mm.it_lst (by walk_at "sto"))
    | ((with_reducible apply Mm.ex_mk); · exact Mm.it_con (by walk_at "sto"))
    | ((with_reducible apply Mm.ex_mk); · exact Mm.it_en2L (by walk_at "sto"))
    | ((with_reducible apply Mm.ex_mk); · exact Mm.it_en2C (by walk_at "sto"))
    | ((with_reducible apply Mm.ex_mk); · exact Mm.set_lst (by walk_at "sto") rfl)
    | ((with_reducible refine And.intro ?_ ?_); · exact Mm.ty_lst (by walk_at "sto"))
    | fail)
local macro_rules
  | `(tactic| walk_at "wq") => `(tactic| repeat' (first | (walk_at "wp1"; try dsimp only [List.set_cons_zero, List.set_cons_succ, Bool.not_true, Bool.not_false]) | (walk_at "wp2"; try dsimp only [Bool.not_true, Bool.not_false]) | fail))
local macro_rules
  | `(tactic| walk_at "wp") => `(tactic| repeat' (first | (with_reducible refine Mm.v_if ?_) | (walk_at "wp1"; try dsimp only [List.set_cons_zero, List.set_cons_succ, Bool.not_true, Bool.not_false]) | (walk_at "wp2"; try dsimp only [Bool.not_true, Bool.not_false]) | fail))
local macro_rules
  | `(tactic| walk_at "def") => `(tactic| (refine Mm.w_def rfl ?_; simp only [List.map_cons, List.map_nil, List.cons_append, List.nil_append, List.replicate, Nat.reduceSub, List.replicate_succ, List.replicate_zero]))
/-! the steps of the makers of inputs -/
local macro_rules
  | `(tactic| walk_at "gx") => `(tactic| first | with_reducible assumption | (with_reducible refine Law.GX.add ?_; walk_at "gx") | (with_reducible refine' Law.GX.putA ?a1 ?a2; (case a1 => walk_at "gx"); (case a2 => walk_at "gx")) | fail)
local macro_rules
  | `(tactic| walk_at "pk") => `(tactic| exact trivial)
local macro_rules
  | `(tactic| walk_at "tl") => `(tactic| with_unfolding_all exact of_decide_eq_true (p := _ ≤ 1000) rfl)
local macro_rules
  | `(tactic| walk_at "tm") => `(tactic| repeat' (with_reducible first
    | assumption
    | exact Law.TMs.nil | apply Law.TMs.cons
    | exact Law.AllM.nil | apply Law.AllM.cons
    | exact Law.StL.nil | apply Law.StL.cons | exact Law.InL.nil | apply Law.InL.cons
    | exact Law.RowL.nil | apply Law.RowL.cons
    | apply Law.TM.num | apply Law.TM.nam | apply Law.TM.tt | apply Law.TM.ff | apply Law.TM.no | apply Law.TM.ask
    | apply Law.TM.fn | apply Law.TM.dos | apply Law.TM.call | apply Law.TM.op | apply Law.TM.cond | apply Law.TM.wind | apply Law.TM.mark | apply Law.TM.shw
    | apply Law.TM.bnd (.inl rfl) | apply Law.TM.bnd (.inr rfl)
    | apply Law.TM.oneL (by assumption) (by decide +kernel) | apply Law.TMs.cutL (by assumption) (by decide +kernel)
    | apply Law.TM.one (.inl rfl) | apply Law.TM.one (.inr (.inl rfl)) | apply Law.TM.one (.inr (.inr (.inl rfl))) | apply Law.TM.one (.inr (.inr (.inr rfl)))
    | walk_at "pk"
    | walk_at "tl"
    | fail))
local macro_rules
  | `(tactic| walk_at "mx") => `(tactic| first | (simp only [Nat.max_le, Nat.add_zero, Nat.zero_add, Nat.add_le_add_iff_right]; done) | ((simp only [Nat.max_le, Nat.add_zero, Nat.zero_add, Nat.add_le_add_iff_right]); (repeat' apply And.intro) <;> omega) | omega)
local macro_rules
  | `(tactic| walk_at "ge") => `(tactic| (refine' ⟨Law.TM.mono ?h1 ?h2 ?h3, ?h4⟩; (case h1 => walk_at "tm"); (case h2 => walk_at "mx"); (case h3 => walk_at "mx"); (case h4 => walk_at "gx")))
local macro_rules
  | `(tactic| walk_at "call") => `(tactic| (with_reducible refine' Law.GX.drawQ ?a1 ?a2 ?a3 ?az; (case a1 => walk_at "gx"); (case a2 => first | decide | omega); (case a3 => first | decide | omega); (intro r S' r0 r1 g)))
local macro_rules
  | `(tactic| walk_at "call") => `(tactic| (with_reducible refine' Law.GX.pickSQ ?a1 ?a2 ?a3 ?a4 ?az; (case a1 => walk_at "gx"); (case a2 => walk_at "tm"; done); (case a3 => first | decide | (simp only [List.length_cons, List.length_nil]; omega)); (case a4 => first | decide | (simp only [List.length_cons, List.length_nil]; omega)); (intro s S' hs g)))
local macro_rules
  | `(tactic| walk_at "call") => `(tactic| (with_reducible refine' Law.GX.pickIQ ?a1 ?a2 ?a3 ?a4 ?az; (case a1 => walk_at "gx"); (case a2 => walk_at "tm"; done); (case a3 => first | decide | (simp only [List.length_cons, List.length_nil]; omega)); (case a4 => first | decide | (simp only [List.length_cons, List.length_nil]; omega)); (intro s S' hs g)))
local macro_rules
  | `(tactic| walk_at "call") => `(tactic| ((with_reducible refine' Law.w_inSt ?a1 ?az); (case a1 => walk_at "tm"; done)))
local macro_rules
  | `(tactic| walk_at "call") => `(tactic| ((with_reducible refine' Mm.w_addt ?a1 ?az); (case a1 => (simp only [List.length_cons, List.length_nil]; decide)); dsimp only [List.cons_append, List.nil_append]))
local macro_rules
  | `(tactic| walk_at "call") => `(tactic| ((with_reducible refine' Mm.w_addl ?a1 ?a2 ?a3 ?az); (case a1 => walk_at "sto"); (case a2 => walk_at "sto"); (case a3 => (simp only [List.length_cons, List.length_nil]; decide)); dsimp only [List.cons_append, List.nil_append]))
local macro_rules
  | `(tactic| walk_at "call") => `(tactic| ((with_reducible refine' Mm.w_append ?a1 ?a2 ?az); (case a1 => walk_at "sto"); (case a2 => (simp only [List.length_cons, List.length_nil]; decide)); dsimp only [List.cons_append, List.nil_append]))
local macro_rules
  | `(tactic| walk_at "gn") => `(tactic| repeat' (first
    | (with_reducible refine Mm.v_if ?_)
    | (walk_at "wp1"; try dsimp only [List.set_cons_zero, List.set_cons_succ, Bool.not_true, Bool.not_false])
    | (walk_at "wp2"; try dsimp only [Bool.not_true, Bool.not_false])
    | (with_reducible refine Mm.br_dec (fun e => ?_) (fun e => ?_))
    | walk_at "call"
    | walk_at "ge"
    | fail))
theorem put_ok {P : Kd → Nat → Prop} : ∀ (p : Pth) (t u new : T), atA p t = some u → OkP P t → OkP P new → new.dep ≤ u.dep → OkP P (putA p new t) ∧ (putA p new t).dep ≤ t.dep
  | [], t, u, new, h, h1, h2, h3 => by cases h; exact ⟨h2, h3⟩
  | i :: p, .node k ps, u, new, h, h1, h2, h3 => by
    simp only [atA] at h
    split at h
    · cases q : ps[i.toNat]? with
      | none => rw [q] at h; cases h
      | some v =>
        rw [q] at h
        have hv := List.mem_of_getElem? q
        obtain ⟨a1, a2⟩ := put_ok p v u new h (h1.ps v hv) h2 h3
        simp only [putA, q]
        have hb : ∀ w ∈ ps.set i.toNat (putA p new v), OkP P w ∧ w.dep ≤ T.deps ps := fun w hw => by
          rcases List.mem_or_eq_of_mem_set hw with hw | rfl
          · exact ⟨h1.ps w hw, T.dep_mem hw⟩
          · have := T.dep_mem hv; exact ⟨a1, by omega⟩
        refine ⟨.mk (by rw [List.length_set]; exact h1.k) (by rw [List.length_set]; exact h1.p) fun w hw => (hb w hw).1, ?_⟩
        simp only [T.dep]
        have := T.deps_le fun w hw => (hb w hw).2
        omega
    · cases h
theorem tree_with_ok {cl : Nat → Addr} {P : Kd → Nat → Prop} (hP : ∀ k n, P k n → KSt k) : ∀ (n : Nat) (p : Pth) (t u new : T) (S : Sto), p.length < n → atA p t = some u → OkP P t → OkP P new → new.dep ≤ u.dep → t.dep ≤ 20 → t.size ≤ 100000 → p.length ≤ 1000 → Ret (m_tree_with cl n [t.mv, pM p, new.mv] S) fun y S' => y = (putA p new t).mv ∧ Ext S S'
  | 0, p, t, u, new, S, hn, _, _, _, _, _, _, _ => by omega
  | n + 1, [], t, u, new, S, hn, h, h1, h2, h3, h4, h5, h6 => by
    rw [m_tree_with_s]
    walk_at "def"
    unfold b_tree_with pM
    walk_at "wq"
    refine v_if ?_
    walk_at "wq"
    exact ⟨rfl, Ext.refl⟩
  | n + 1, i :: p, .node k ps, u, new, S, hn, h, h1, h2, h3, h4, h5, h6 => by
    have hu := h
    simp only [atA] at h
    split at h
    · rename_i hi
      cases q : ps[i.toNat]? with
      | none => rw [q] at h; cases h
      | some v =>
        rw [q] at h
        have hv := List.mem_of_getElem? q
        have hl := (List.getElem?_eq_some_iff.1 q).1
        have hz : T.sizes ps ≤ 100000 := by simp only [T.size] at h5; omega
        have hlen := T.len_sizes ps
        have hml : (T.mvs ps).length = ps.length := by rw [T.mvs_map, List.length_map]
        have hvs := T.size_mem hv
        have hvd := T.dep_mem hv
        simp only [T.dep] at h4
        rw [m_tree_with_s]
        walk_at "def"
        unfold b_tree_with pM
        walk_at "wq"
        refine v_if ?_
        walk_at "wq"
        refine (parts_ok h1.ok (by omega)).imp ?_
        rintro _ S1 ⟨rfl, E1⟩
        walk_at "wq"
        simp only [List.map_cons]
        walk_at "wq"
        refine w_idxL (x := v.mv) add_same (atI_nn hi (by rw [T.mvs_map, List.getElem?_map, q]; rfl)) ?_
        walk_at "wq"
        rw [cutM_from (by decide)]
        have ih := tree_with_ok (cl := cl) hP n p v u new (S1.add (.lst (T.mvs ps))) (by simp only [List.length_cons] at hn; omega) h (h1.ps v hv) h2 h3 (by omega) (by omega) (by simp only [List.length_cons] at h6; omega)
        refine ih.imp ?_
        rintro _ S2 ⟨rfl, E2⟩
        have g2 : S2.g S1.n = .lst (T.mvs ps) := (E2.2 _ (Nat.lt_succ_self _)).trans add_same
        have n2 : S1.n < S2.n := E2.1
        walk_at "wq"
        refine ⟨_, set_lst g2 (j := i.toNat) (by rw [hml]; unfold ixN; rw [if_pos hi, if_pos (by omega)]), ?_⟩
        walk_at "wq"
        obtain ⟨a1, a2⟩ := put_ok (i :: p) (.node k ps) u new hu h1 h2 h3
        have e1 : putA (i :: p) new (.node k ps) = .node k (ps.set i.toNat (putA p new v)) := by simp only [putA, q]
        rw [e1] at a1 a2 ⊢
        have e2 : (T.mvs ps).set i.toNat (putA p new v).mv = T.mvs (ps.set i.toNat (putA p new v)) := by rw [T.mvs_map, T.mvs_map, List.map_set]
        simp only [T.dep] at a2
        refine (with_ok (S := S2.put S1.n (.lst ((T.mvs ps).set i.toNat (putA p new v).mv))) (qs := ps.set i.toNat (putA p new v)) hP h1.ok a1.ps (by omega) (by omega) (by rw [List.length_set]) (by rw [put_same, e2]) n2).imp ?_
        rintro _ S3 ⟨rfl, E3⟩
        exact ⟨rfl, ((E1.trans ((Ext.refl.add).trans E2)).put E1.1).trans E3⟩
    · cases h
theorem setOnce_mv {t : T} (ht : t.Ok) (h : t.kd.word = "keep" ∨ t.kd.word = "once") : ∃ s q, t.mv = .tup [.str t.kd.word, .str s, q] ∧ (setOnce t).mv = .tup [.str "once", .str s, q] := by
  obtain ⟨k, ps⟩ := t
  have hk := ht.k
  have : ∃ w s, k = .one w s := by
    rcases h with h | h
    · obtain ⟨s, rfl⟩ := word_keep hk h; exact ⟨_, s, rfl⟩
    · cases k with
      | one w s => exact ⟨w, s, rfl⟩
      | wd w => obtain ⟨_, rfl | rfl | rfl | rfl⟩ := hk <;> exact absurd h (by simp only [T.kd, Kd.word]; decide)
      | bnd w ns => obtain ⟨_, rfl | rfl⟩ := hk <;> exact absurd h (by simp only [T.kd, Kd.word]; decide)
      | oth w => rcases hk with ⟨rfl, _⟩ | ⟨rfl, _⟩ | ⟨rfl, _⟩ | ⟨rfl, _⟩ <;> exact absurd h (by simp only [T.kd, Kd.word]; decide)
      | _ => exact absurd h (by simp only [T.kd, Kd.word]; decide)
  obtain ⟨w, s, rfl⟩ := this
  obtain ⟨q, rfl⟩ := len1 hk.1
  exact ⟨s, q.mv, rfl, rfl⟩
theorem isKeep_word {k : Kd} {n : Nat} (h : k.ok n) : isKeep k = decide (k.word = "keep") := by
  cases k with
  | one w s => rfl
  | wd w => obtain ⟨_, rfl | rfl | rfl | rfl⟩ := h <;> decide +kernel
  | bnd w ns => obtain ⟨_, rfl | rfl⟩ := h <;> exact (decide_eq_false (fun e => absurd e (by simp only [Kd.word]; decide))).symm
  | oth w => rcases h with ⟨rfl, _⟩ | ⟨rfl, _⟩ | ⟨rfl, _⟩ | ⟨rfl, _⟩ <;> decide +kernel
  | _ => exact (decide_eq_false (fun e => absurd e (by simp only [Kd.word]; decide))).symm
theorem keep_paths_ok {cl : Nat → Addr} {t : T} {S : Sto} (ht : t.Ok) (hd : t.dep ≤ 24) (hz : t.size ≤ 100000) : Ret (m_keep_paths cl [t.mv] S) fun y S' => y = .tup ((keepsA t).map pM) ∧ Ext S S' := by
  have sz : (16777216 : Nat) ≤ sizeLine := by decide
  unfold m_keep_paths
  walk_at "def"
  unfold b_keep_paths
  walk_at "wq"
  refine (tree_paths_ok 24 t S hd ht hz (by omega)).imp ?_
  rintro _ S1 ⟨rfl, E1⟩
  walk_at "wq"
  have hl : (pathsA t).length ≤ t.size := sel_len (fun _ => true) t
  refine Ret.imp (Q := fun acc S' => Ext S1 S' ∧ acc = (keepsA t).map pM) ?_ ?_
  · let c : Pth → Bool := fun p => (match atA p t with | some u => isKeep u.kd | none => false)
    refine w_lc0 (fun n acc S' => Ext S1 S' ∧ acc = (((pathsA t).take n).filter c).map pM) ⟨Ext.refl, rfl⟩ ?_ ?_
    · rintro n x acc S' hx ⟨E, rfl⟩
      obtain ⟨p, hp, rfl, hm⟩ := get_map hx
      obtain ⟨u, hu, _⟩ := (sel_mem_at p t).1 hm
      obtain ⟨u1, u2⟩ := at_ok _ _ _ hu ht
      have hc : c p = decide (u.kd.word = "keep") := by
        show (match atA p t with | some u => isKeep u.kd | none => false) = _
        rw [hu]
        obtain ⟨k, ps⟩ := u
        exact isKeep_word u1.k
      refine ⟨ck_n, _, rfl, ?_⟩
      walk_at "wq"
      refine (tree_at_ok hu ht hz).imp ?_
      rintro _ S2 ⟨rfl, E2⟩
      obtain ⟨r, hr⟩ := u.hd
      rw [hr]
      walk_at "wq"
      rw [take_snoc hp, List.filter_append]
      refine ⟨fun e => ?_, fun e => ?_⟩
      · walk_at "wq"
        refine ⟨?_, E.trans E2, ?_⟩
        · have := List.length_filter_le c ((pathsA t).take n)
          rw [List.length_map]
          rw [List.length_take] at this
          omega
        · simp only [List.filter_cons, hc, e, if_true, List.filter_nil, List.map_append]; rfl
      · refine ⟨E.trans E2, ?_⟩
        simp only [List.filter_cons, hc, e, List.filter_nil, List.append_nil]
        simp
    · rintro acc S' ⟨E, rfl⟩
      rw [List.length_map, List.take_length]
      exact ⟨ck_n, E, by rw [show keepsA t = (pathsA t).filter c from sel_filter isKeep t]⟩
  rintro acc S2 ⟨E2, rfl⟩
  walk_at "wq"
  exact ⟨rfl, (E1.trans E2).add⟩
end Law
end

section
namespace Law
open PySem L2 Mm
/-! the step of the pure proofs -/
local macro_rules
  | `(tactic| walk_at "wp side") => `(tactic| first | assumption | omega | decide)
local macro_rules
  | `(tactic| walk_at "wp1") => `(tactic| with_reducible first
    | refine Mm.v_seq ?_ | refine Mm.v_nx ?_ | refine Mm.v_asg ?_ | refine Mm.v_asgP ?_ | refine Mm.v_ret ?_ | refine Mm.v_retN ?_ | refine Mm.v_drop ?_ | refine Mm.v_set ?_ | refine Mm.v_aug ?_ | refine Mm.v_for ?_ | refine Mm.v_brk ?_ | refine Mm.v_ct ?_
    | refine Mm.w_con ?_ | refine Mm.w_op2 ?_ | refine Mm.w_op1 ?_ | refine Mm.w_opL ?_ | refine Mm.w_cons ?_ | refine Mm.w_nil ?_
    | refine Mm.w_add ?_ | refine Mm.w_sub ?_ | refine Mm.w_neg ?_ | refine Mm.w_lt ?_ | refine Mm.w_le ?_ | refine Mm.w_gt ?_ | refine Mm.w_ge ?_ | refine Mm.w_eqi ?_ | refine Mm.w_nei ?_ | refine Mm.w_eqs ?_ | refine Mm.w_nes ?_ | refine Mm.w_int ?_ | refine Mm.w_abs ?_ | refine Mm.w_isN ?_ | refine Mm.w_notN ?_ | refine Mm.w_min ?_ | refine Mm.w_max ?_
    | refine Mm.w_tru ?_ | refine Mm.w_blM ?_ | refine Mm.w_andB ?_ | refine Mm.w_orB ?_ | refine Mm.w_notB ?_ | refine Mm.w_ifV ?_ | refine Mm.w_andV ?_ | refine Mm.w_orV ?_ | refine Mm.w_notV ?_ | refine Mm.w_truB ?_ | refine Mm.w_truI ?_ | refine Mm.w_truN ?_ | refine Mm.w_truT ?_
    | refine Mm.w_dNewK ?_ | refine Mm.w_dNewT ?_ | refine Mm.w_iter ?_ | refine Mm.w_strS ?_ | refine Mm.w_inT ?_ | refine Mm.w_idxTM ?_ | refine Mm.v_setTM ?_ | refine Mm.v_par ?_ | refine Mm.w_met ?_ | refine Mm.w_itmM ?_ | refine Mm.w_enm ?_ | refine Mm.w_enm2 ?_ | refine Mm.w_zip ?_ | refine Mm.w_rev ?_ | refine Mm.w_bm ?_ | refine Mm.w_lc ?_ | refine Mm.w_yes ?_ | refine Mm.br_t ?_ | refine Mm.br_f ?_ | refine Mm.w_slc ?_ | refine Mm.w_pno ?_ | refine Mm.w_pso ?_ | refine Mm.w_lenT ?_ | refine Mm.w_tupT ?_ | refine Mm.w_lstT ?_ | refine Mm.w_cutT ?_)
local macro_rules
  | `(tactic| walk_at "sto") => `(tactic| first
    | with_reducible assumption
    | with_reducible exact Mm.put_same
    | with_reducible exact Mm.add_same
    | (with_reducible refine (Mm.put_ne (by first | assumption | exact Ne.symm (by assumption) | ((try dsimp only [Mm.Sto.add, Mm.Sto.put]); omega))).trans ?_; walk_at "sto")
    | (with_reducible refine (Mm.add_ne (by first | assumption | exact Ne.symm (by assumption) | ((try dsimp only [Mm.Sto.add, Mm.Sto.put]); omega))).trans ?_; walk_at "sto")
    | fail)
local macro_rules
  | `(tactic| walk_at "lk") => `(tactic| first | with_reducible exact Mm.lk_here | with_reducible exact Mm.lk_nil | with_reducible assumption | (with_reducible apply Mm.lk_next; (· decide +kernel); (· walk_at "lk")) | fail)
local macro_rules
  | `(tactic| walk_at "pf") => `(tactic| first | with_reducible exact Mm.pf_nil | with_reducible exact Mm.pf_here | (with_reducible apply Mm.pf_next; (· decide +kernel); (· walk_at "pf")) | fail)
local macro_rules
  | `(tactic| walk_at "vf") => `(tactic| (refine' Mm.v_fldv ?a1 ?a2 ?a3 ?a4 ?a5 ?a6 ?a7; (case a1 => rfl); (case a2 => rfl); (case a3 => exact Mm.add_same); (case a4 => simp); (case a5 => simp only [List.length_cons, List.length_nil]; decide); (case a6 => walk_at "pf"); rw [Mm.add_put]))
local macro_rules
  | `(tactic| walk_at "tb") => `(tactic| first | with_reducible exact Mm.tb_here | (with_reducible apply Mm.tb_next; (· simp); (· walk_at "tb")) | fail)
local macro_rules
  | `(tactic| walk_at "wp2") => `(tactic| first
    | ((with_reducible apply Mm.w_var); · rfl)
    | ((with_reducible apply Mm.ex_mk); · with_reducible refine Mm.rng1 (by (try simp only [List.length_map]); omega))
    | ((with_reducible apply Mm.ex_mk); · with_reducible refine Mm.rng2 (by (try simp only [List.length_map]); omega))
    | ((with_reducible apply Mm.ex_mk); · rfl)
    | ((with_reducible refine Mm.br_true ?_ ?_); · rfl)
    | ((with_reducible refine Mm.br_false ?_ ?_); · rfl)
    | ((with_reducible refine Mm.w_mod ?_ ?_); · walk_at "wp side")
    | ((with_reducible refine Mm.w_div ?_ ?_ ?_); (· walk_at "wp side"); (· (first | decide | assumption)))
    | ((with_reducible refine Mm.w_mul ?_ ?_); · exact .inl (.inr (by decide)))
    | ((with_reducible refine Mm.w_mul ?_ ?_); · exact .inl (.inl (by decide)))
    | ((with_reducible refine Mm.w_mul ?_ ?_); · exact .inl (.inl (by omega)))
    | ((with_reducible refine Mm.w_mul ?_ ?_); · exact .inl (.inr (by omega)))
    | ((with_reducible refine Mm.w_pow ?_ ?_); · decide)
    | ((with_reducible refine Mm.w_lstV ?_ ?_); · (simp only [List.length_cons, List.length_nil]; decide))
    | ((with_reducible refine Mm.w_tupV ?_ ?_); · (simp only [List.length_cons, List.length_nil]; decide))
    | ((with_reducible apply Mm.w_idxL); (· walk_at "sto"); (· first | exact Mm.atI0 | exact Mm.atI1 | exact Mm.atI2 | exact Mm.atIl | rfl))
    | ((with_reducible apply Mm.w_fld); (· walk_at "sto"); (· simp); (· walk_at "lk"))
    | ((with_reducible apply Mm.w_isI); (· walk_at "sto"); (· walk_at "tb"))
    | ((with_reducible apply Mm.w_idxC); (· walk_at "sto"); (· rfl))
    | ((with_reducible apply Mm.w_idxT); · first | exact Mm.atI0 | exact Mm.atI1 | exact Mm.atI2 | rfl)
    | ((with_reducible apply Mm.w_lenL); · walk_at "sto")
    | ((with_reducible apply Mm.w_lenC); · walk_at "sto")
    | ((with_reducible apply Mm.w_lenK); · walk_at "sto")
    | ((with_reducible apply Mm.w_tupL); · walk_at "sto")
    | ((with_reducible apply Mm.w_lstL); · walk_at "sto")
    | ((with_reducible apply Mm.w_cutL); · walk_at "sto")
    | ((with_reducible apply Mm.w_revL); · walk_at "sto")
    | ((with_reducible apply Mm.w_truL); · walk_at "sto")
    | ((with_reducible apply Mm.ex_mk); · exact Mm.it_lst (by walk_at "sto"))
    | ((with_reducible apply Mm.ex_mk); · exact Mm.it_con (by walk_at "sto"))
    | ((with_reducible apply Mm.ex_mk); · exact Mm.it_en2L (by walk_at "sto"))
    | ((with_reducible apply Mm.ex_mk); · exact Mm.it_en2C (by walk_at "sto"))
    | ((with_reducible apply Mm.ex_mk); · exact Mm.set_lst (by walk_at "sto") rfl)
    | ((with_reducible refine And.intro ?_ ?_); · exact Mm.ty_lst (by walk_at "sto"))
    | fail)
local macro_rules
  | `(tactic| walk_at "wq") => `(tactic| repeat' (first | (walk_at "wp1"; try dsimp only [List.set_cons_zero, List.set_cons_succ, Bool.not_true, Bool.not_false]) | (walk_at "wp2"; try dsimp only [Bool.not_true, Bool.not_false]) | fail))
local macro_rules
  | `(tactic| walk_at "wp") => `(tactic| repeat' (first | (with_reducible refine Mm.v_if ?_) | (walk_at "wp1"; try dsimp only [List.set_cons_zero, List.set_cons_succ, Bool.not_true, Bool.not_false]) | (walk_at "wp2"; try dsimp only [Bool.not_true, Bool.not_false]) | fail))
local macro_rules
  | `(tactic| walk_at "def") => `(tactic| (refine Mm.w_def rfl ?_; simp only [List.map_cons, List.map_nil, List.cons_append, List.nil_append, List.replicate, Nat.reduceSub, List.replicate_succ, List.replicate_zero]))
/-! the steps of the makers of inputs -/
local macro_rules
  | `(tactic| walk_at "gx") => `(tactic| first | with_reducible assumption | (with_reducible refine Law.GX.add ?_; walk_at "gx") | (with_reducible refine' Law.GX.putA ?a1 ?a2; (case a1 => walk_at "gx"); (case a2 => walk_at "gx")) | fail)
local macro_rules
  | `(tactic| walk_at "pk") => `(tactic| exact trivial)
local macro_rules
  | `(tactic| walk_at "tl") => `(tactic| with_unfolding_all exact of_decide_eq_true (p := _ ≤ 1000) rfl)
local macro_rules
  | `(tactic| walk_at "tm") => `(tactic| repeat' (with_reducible first
    | assumption
    | exact Law.TMs.nil | apply Law.TMs.cons
    | exact Law.AllM.nil | apply Law.AllM.cons
    | exact Law.StL.nil | apply Law.StL.cons | exact Law.InL.nil | apply Law.InL.cons
    | exact Law.RowL.nil | apply Law.RowL.cons
    | apply Law.TM.num | apply Law.TM.nam | apply Law.TM.tt | apply Law.TM.ff | apply Law.TM.no | apply Law.TM.ask
    | apply Law.TM.fn | apply Law.TM.dos | apply Law.TM.call | apply Law.TM.op | apply Law.TM.cond | apply Law.TM.wind | apply Law.TM.mark | apply Law.TM.shw
    | apply Law.TM.bnd (.inl rfl) | apply Law.TM.bnd (.inr rfl)
    | apply Law.TM.oneL (by assumption) (by decide +kernel) | apply Law.TMs.cutL (by assumption) (by decide +kernel)
    | apply Law.TM.one (.inl rfl) | apply Law.TM.one (.inr (.inl rfl)) | apply Law.TM.one (.inr (.inr (.inl rfl))) | apply Law.TM.one (.inr (.inr (.inr rfl)))
    | walk_at "pk"
    | walk_at "tl"
    | fail))
local macro_rules
  | `(tactic| walk_at "mx") => `(tactic| first | (simp only [Nat.max_le, Nat.add_zero, Nat.zero_add, Nat.add_le_add_iff_right]; done) | ((simp only [Nat.max_le, Nat.add_zero, Nat.zero_add, Nat.add_le_add_iff_right]); (repeat' apply And.intro) <;> omega) | omega)
local macro_rules
  | `(tactic| walk_at "ge") => `(tactic| (refine' ⟨Law.TM.mono ?h1 ?h2 ?h3, ?h4⟩; (case h1 => walk_at "tm"); (case h2 => walk_at "mx"); (case h3 => walk_at "mx"); (case h4 => walk_at "gx")))
local macro_rules
  | `(tactic| walk_at "call") => `(tactic| (with_reducible refine' Law.GX.drawQ ?a1 ?a2 ?a3 ?az; (case a1 => walk_at "gx"); (case a2 => first | decide | omega); (case a3 => first | decide | omega); (intro r S' r0 r1 g)))
local macro_rules
  | `(tactic| walk_at "call") => `(tactic| (with_reducible refine' Law.GX.pickSQ ?a1 ?a2 ?a3 ?a4 ?az; (case a1 => walk_at "gx"); (case a2 => walk_at "tm"; done); (case a3 => first | decide | (simp only [List.length_cons, List.length_nil]; omega)); (case a4 => first | decide | (simp only [List.length_cons, List.length_nil]; omega)); (intro s S' hs g)))
local macro_rules
  | `(tactic| walk_at "call") => `(tactic| (with_reducible refine' Law.GX.pickIQ ?a1 ?a2 ?a3 ?a4 ?az; (case a1 => walk_at "gx"); (case a2 => walk_at "tm"; done); (case a3 => first | decide | (simp only [List.length_cons, List.length_nil]; omega)); (case a4 => first | decide | (simp only [List.length_cons, List.length_nil]; omega)); (intro s S' hs g)))
local macro_rules
  | `(tactic| walk_at "call") => `(tactic| ((with_reducible refine' Law.w_inSt ?a1 ?az); (case a1 => walk_at "tm"; done)))
local macro_rules
  | `(tactic| walk_at "call") => `(tactic| ((with_reducible refine' Mm.w_addt ?a1 ?az); (case a1 => (simp only [List.length_cons, List.length_nil]; decide)); dsimp only [List.cons_append, List.nil_append]))
local macro_rules
  | `(tactic| walk_at "call") => `(tactic| ((with_reducible refine' Mm.w_addl ?a1 ?a2 ?a3 ?az); (case a1 => walk_at "sto"); (case a2 => walk_at "sto"); (case a3 => (simp only [List.length_cons, List.length_nil]; decide)); dsimp only [List.cons_append, List.nil_append]))
local macro_rules
  | `(tactic| walk_at "call") => `(tactic| ((with_reducible refine' Mm.w_append ?a1 ?a2 ?az); (case a1 => walk_at "sto"); (case a2 => (simp only [List.length_cons, List.length_nil]; decide)); dsimp only [List.cons_append, List.nil_append]))
local macro_rules
  | `(tactic| walk_at "gn") => `(tactic| repeat' (first
    | (with_reducible refine Mm.v_if ?_)
    | (walk_at "wp1"; try dsimp only [List.set_cons_zero, List.set_cons_succ, Bool.not_true, Bool.not_false])
    | (walk_at "wp2"; try dsimp only [Bool.not_true, Bool.not_false])
    | (with_reducible refine Mm.br_dec (fun e => ?_) (fun e => ?_))
    | walk_at "call"
    | walk_at "ge"
    | fail))
/-- the law's own walk: paths with what is ahead of them -/
def pre (path : Pth) (l : List Pth) : List MV := l.map fun p => pM (path ++ p)
theorem pre_app (path : Pth) (a b : List Pth) : pre path (a ++ b) = pre path a ++ pre path b := List.map_append
theorem pre_len (path : Pth) (a : List Pth) : (pre path a).length = a.length := List.length_map _
theorem pre_cons (path : Pth) (i : Int) (l : List Pth) : pre path (l.map fun p => i :: p) = pre (path ++ [i]) l := by
  unfold pre
  rw [List.map_map]
  refine List.map_congr_left fun p _ => ?_
  simp
/-- the loop of _law_keeps and of _law_paths -/
theorem lwalk_ok {cl : Nat → Addr} {f : Kd → Bool} {r : List MV → Sto → Res MV} {k : Kd} {ps : List T} {path : Pth} {S0 S : Sto} {a j : Nat} {l0 : List Pth} {x3 x4 : Option MV} {Q : MV → Sto → Prop}
    (hz : T.sizes ps ≤ 100000) (hpl : path.length ≤ 1000) (hl0 : l0.length ≤ 1)
    (hr : ∀ (i : Nat) t S, ps[i]? = some t → Ret (r [t.mv, pM (path ++ [(i : Int)])] S) fun y S' => ∃ b, y = .ref b ∧ S'.g b = .lst (pre (path ++ [(i : Int)]) (selA f t)) ∧ S.n ≤ b ∧ b < S'.n ∧ Ext S S')
    (E : Ext S0 S) (ga : S.g a = .lst (pre path l0)) (ha : S0.n ≤ a) (hn : a < S.n) (gj : S.g j = .lst (T.mvs ps)) (hj : j < S.n) (q : ∀ b S', Ext S0 S' → S'.g b = .lst (pre path (l0 ++ selAL f 0 ps)) → S0.n ≤ b → b < S'.n → Q (.ref b) S') :
    RetS (loopM [(j, T.mvs ps)] (.tp [.nm 3, .nm 4]) (asgM (.nm 2) (op2 addV (varM 2) (opL r (consM (varM 4) (consM (op2 addV (varM 1) (opL tupV (consM (varM 3) nilM))) nilM))))) (prI (T.mvs ps)) [some (T.node k ps).mv, some (pM path), some (.ref a), x3, x4] S)
      (fun e S => RetS (retM (varM 2) e S) (fun _ S => Q .non S) { rt := Q }) { rt := Q } := by
  have sz : (16777216 : Nat) ≤ sizeLine := by decide
  have hml : (T.mvs ps).length = ps.length := by rw [T.mvs_map, List.length_map]
  refine v_loop0 (fun i e S' => Ext S S' ∧ ∃ b x3 x4, e = [some (T.node k ps).mv, some (pM path), some (.ref b), x3, x4] ∧ S'.g b = .lst (pre path (l0 ++ selAL f 0 (ps.take i))) ∧ S0.n ≤ b ∧ b < S'.n) ⟨Ext.refl, a, _, _, rfl, by simpa [selAL] using ga, ha, hn⟩ ?_ ?_
  · rintro i x e S2 hx ⟨E2, b, x3, x4, rfl, g2, b1, b2⟩
    obtain ⟨y, hy, rfl⟩ := prI_get hx
    rw [T.mvs_map, List.getElem?_map] at hy
    obtain ⟨t, ht, rfl⟩ := Option.map_eq_some_iff.1 hy
    refine ⟨ck_l ((E2.2 _ hj).trans gj), _, rfl, ?_⟩
    unfold pM
    walk_at "wq"
    refine w_addt (by rw [List.length_map, List.length_singleton]; omega) ?_
    walk_at "wq"
    have ih := hr i t S2 ht
    unfold pM at ih
    rw [List.map_append] at ih
    refine ih.imp ?_
    rintro _ S3 ⟨c, rfl, g3, c1, c2, E3⟩
    have ll := selAL_take_len f ps 0 (i + 1)
    rw [selAL_snoc ht, Nat.zero_add] at ll
    refine w_addl ((E3.2 _ b2).trans g2) g3 (by simp only [pre_len, List.length_append, List.length_map] at ll ⊢; omega) ?_
    refine ⟨(E2.trans E3).add, S3.n, _, _, rfl, ?_, ?_, Nat.lt_succ_self _⟩
    · rw [add_same, selAL_snoc ht, Nat.zero_add, ← List.append_assoc, pre_app path _ (List.map _ _), pre_cons]
    · have := E.1; have := E2.1; have := E3.1; omega
  · rintro e S2 ⟨E2, b, x3, x4, rfl, g2, b1, b2⟩
    rw [prI_len, hml, List.take_length] at g2
    refine ⟨ck_l ((E2.2 _ hj).trans gj), ?_⟩
    walk_at "wq"
    exact q b S2 (E.trans E2) g2 b1 b2
theorem lpaths_ok {cl : Nat → Addr} : ∀ (n : Nat) (t : T) (path : Pth) (S : Sto), t.dep ≤ n → t.Ok → t.size ≤ 100000 → path.length + t.dep ≤ 1000 → Ret (m__law_paths cl n [t.mv, pM path] S) fun y S' => ∃ b, y = .ref b ∧ S'.g b = .lst (pre path (pathsA t)) ∧ S.n ≤ b ∧ b < S'.n ∧ Ext S S'
  | 0, t, path, S, hd, _, _, _ => by
    cases t with
    | node k ps => simp only [T.dep] at hd; omega
  | n + 1, .node k ps, path, S, hd, h, hs, hp => by
    have hz : T.sizes ps ≤ 100000 := by simp only [T.size] at hs; omega
    simp only [T.dep] at hd hp
    rw [m__law_paths_s]
    walk_at "def"
    unfold b__law_paths
    walk_at "wq"
    refine (lparts_ok h (by omega)).imp ?_
    rintro _ S1 ⟨j, rfl, gj, j1, j2, E1⟩
    have g1 : S1.g S.n = .lst [pM path] := (E1.2 _ (Nat.lt_succ_self _)).trans add_same
    walk_at "wq"
    refine lwalk_ok (cl := cl) (f := fun _ => true) (l0 := [[]]) (S0 := S) (path := path) (k := k) (Q := fun y S' => ∃ b, y = .ref b ∧ S'.g b = .lst (pre path (pathsA (.node k ps))) ∧ S.n ≤ b ∧ b < S'.n ∧ Ext S S') hz (by omega) (Nat.le_refl _) (fun i t S' ht => ?_) ((Ext.refl.add).trans E1) (by rw [g1]; simp [pre]) (Nat.le_refl _) E1.1 gj j2 (fun b S' E gb b1 b2 => ⟨b, rfl, by rw [gb]; simp [pathsA, selA], b1, b2, E⟩)
    have htm := List.mem_of_getElem? ht
    have hts := T.size_mem htm
    have htd := T.dep_mem htm
    exact lpaths_ok n t _ S' (by omega) (h.ps t htm) (by omega) (by rw [List.length_append, List.length_singleton]; omega)
theorem lkeeps_ok {cl : Nat → Addr} : ∀ (n : Nat) (t : T) (path : Pth) (S : Sto), t.dep ≤ n → t.Ok → t.size ≤ 100000 → path.length + t.dep ≤ 1000 → Ret (m__law_keeps cl n [t.mv, pM path] S) fun y S' => ∃ b, y = .ref b ∧ S'.g b = .lst (pre path (keepsA t)) ∧ S.n ≤ b ∧ b < S'.n ∧ Ext S S'
  | 0, t, path, S, hd, _, _, _ => by
    cases t with
    | node k ps => simp only [T.dep] at hd; omega
  | n + 1, .node k ps, path, S, hd, h, hs, hp => by
    have hz : T.sizes ps ≤ 100000 := by simp only [T.size] at hs; omega
    have hk := isKeep_word h.k
    simp only [T.dep] at hd hp
    rw [m__law_keeps_s]
    walk_at "def"
    unfold b__law_keeps
    obtain ⟨r, hr⟩ := k.hd (T.mvs ps)
    have hmv : (T.node k ps).mv = .tup (.str k.word :: r) := hr
    refine v_seq (v_asg (Ret.imp (Q := fun (x : MV) S' => x = .ref S.n ∧ S' = S.add (.lst (pre path (if isKeep k then [[]] else [])))) ?_ ?_))
    · rw [hmv, hk]
      walk_at "wq"
      refine br_dec (fun e => ?_) (fun e => ?_)
      · walk_at "wq"
        exact ⟨rfl, by rw [decide_eq_true e]; simp [pre]⟩
      · walk_at "wq"
        exact ⟨rfl, by rw [decide_eq_false e]; simp [pre]⟩
    rintro _ _ ⟨rfl, rfl⟩
    walk_at "wq"
    refine (lparts_ok h (by omega)).imp ?_
    rintro _ S1 ⟨j, rfl, gj, j1, j2, E1⟩
    have g1 := (E1.2 _ (Nat.lt_succ_self _)).trans (add_same (S := S) (o := .lst (pre path (if isKeep k then [[]] else []))))
    walk_at "wq"
    refine lwalk_ok (cl := cl) (f := isKeep) (S0 := S) (path := path) (k := k) (Q := fun y S' => ∃ b, y = .ref b ∧ S'.g b = .lst (pre path (keepsA (.node k ps))) ∧ S.n ≤ b ∧ b < S'.n ∧ Ext S S') hz (by omega) (by split <;> simp) (fun i t S' ht => ?_) ((Ext.refl.add).trans E1) g1 (Nat.le_refl _) E1.1 gj j2 (fun b S' E gb b1 b2 => ⟨b, rfl, gb, b1, b2, E⟩)
    have htm := List.mem_of_getElem? ht
    have hts := T.size_mem htm
    have htd := T.dep_mem htm
    exact lkeeps_ok n t _ S' (by omega) (h.ps t htm) (by omega) (by rw [List.length_append, List.length_singleton]; omega)
end Law
end

section
namespace Law
open PySem L2 Mm
/-! the step of the pure proofs -/
local macro_rules
  | `(tactic| walk_at "wp side") => `(tactic| first | assumption | omega | decide)
local macro_rules
  | `(tactic| walk_at "wp1") => `(tactic| with_reducible first
    | refine Mm.v_seq ?_ | refine Mm.v_nx ?_ | refine Mm.v_asg ?_ | refine Mm.v_asgP ?_ | refine Mm.v_ret ?_ | refine Mm.v_retN ?_ | refine Mm.v_drop ?_ | refine Mm.v_set ?_ | refine Mm.v_aug ?_ | refine Mm.v_for ?_ | refine Mm.v_brk ?_ | refine Mm.v_ct ?_
    | refine Mm.w_con ?_ | refine Mm.w_op2 ?_ | refine Mm.w_op1 ?_ | refine Mm.w_opL ?_ | refine Mm.w_cons ?_ | refine Mm.w_nil ?_
    | refine Mm.w_add ?_ | refine Mm.w_sub ?_ | refine Mm.w_neg ?_ | refine Mm.w_lt ?_ | refine Mm.w_le ?_ | refine Mm.w_gt ?_ | refine Mm.w_ge ?_ | refine Mm.w_eqi ?_ | refine Mm.w_nei ?_ | refine Mm.w_eqs ?_ | refine Mm.w_nes ?_ | refine Mm.w_int ?_ | refine Mm.w_abs ?_ | refine Mm.w_isN ?_ | refine Mm.w_notN ?_ | refine Mm.w_min ?_ | refine Mm.w_max ?_
    | refine Mm.w_tru ?_ | refine Mm.w_blM ?_ | refine Mm.w_andB ?_ | refine Mm.w_orB ?_ | refine Mm.w_notB ?_ | refine Mm.w_ifV ?_ | refine Mm.w_andV ?_ | refine Mm.w_orV ?_ | refine Mm.w_notV ?_ | refine Mm.w_truB ?_ | refine Mm.w_truI ?_ | refine Mm.w_truN ?_ | refine Mm.w_truT ?_
    | refine Mm.w_dNewK ?_ | refine Mm.w_dNewT ?_ | refine Mm.w_iter ?_ | refine Mm.w_strS ?_ | refine Mm.w_inT ?_ | refine Mm.w_idxTM ?_ | refine Mm.v_setTM ?_ | refine Mm.v_par ?_ | refine Mm.w_met ?_ | refine Mm.w_itmM ?_ | refine Mm.w_enm ?_ | refine Mm.w_enm2 ?_ | refine Mm.w_zip ?_ | refine Mm.w_rev ?_ | refine Mm.w_bm ?_ | refine Mm.w_lc ?_ | refine Mm.w_yes ?_ | refine Mm.br_t ?_ | refine Mm.br_f ?_ | refine Mm.w_slc ?_ | refine Mm.w_pno ?_ | refine Mm.w_pso ?_ | refine Mm.w_lenT ?_ | refine Mm.w_tupT ?_ | refine Mm.w_lstT ?_ | refine Mm.w_cutT ?_)
local macro_rules
  | `(tactic| walk_at "sto") => `(tactic| first
    | with_reducible assumption
    | with_reducible exact Mm.put_same
    | with_reducible exact Mm.add_same
    | (with_reducible refine (Mm.put_ne (by first | assumption | exact Ne.symm (by assumption) | ((try dsimp only [Mm.Sto.add, Mm.Sto.put]); omega))).trans ?_; walk_at "sto")
    | (with_reducible refine (Mm.add_ne (by first | assumption | exact Ne.symm (by assumption) | ((try dsimp only [Mm.Sto.add, Mm.Sto.put]); omega))).trans ?_; walk_at "sto")
    | fail)
local macro_rules
  | `(tactic| walk_at "lk") => `(tactic| first | with_reducible exact Mm.lk_here | with_reducible exact Mm.lk_nil | with_reducible assumption | (with_reducible apply Mm.lk_next; (· decide +kernel); (· walk_at "lk")) | fail)
local macro_rules
  | `(tactic| walk_at "pf") => `(tactic| first | with_reducible exact Mm.pf_nil | with_reducible exact Mm.pf_here | (with_reducible apply Mm.pf_next; (· decide +kernel); (· walk_at "pf")) | fail)
local macro_rules
  | `(tactic| walk_at "vf") => `(tactic| (refine' Mm.v_fldv ?a1 ?a2 ?a3 ?a4 ?a5 ?a6 ?a7; (case a1 => rfl); (case a2 => rfl); (case a3 => exact Mm.add_same); (case a4 => simp); (case a5 => simp only [List.length_cons, List.length_nil]; decide); (case a6 => walk_at "pf"); rw [Mm.add_put]))
local macro_rules
  | `(tactic| walk_at "tb") => `(tactic| first | with_reducible exact Mm.tb_here | (with_reducible apply Mm.tb_next; (· simp); (· walk_at "tb")) | fail)
local macro_rules
  | `(tactic| walk_at "wp2") => `(tactic| first
    | ((with_reducible apply Mm.w_var); · rfl)
    | ((with_reducible apply Mm.ex_mk); · with_reducible refine Mm.rng1 (by (try simp only [List.length_map]); omega))
    | ((with_reducible apply Mm.ex_mk); · with_reducible refine Mm.rng2 (by (try simp only [List.length_map]); omega))
    | ((with_reducible apply Mm.ex_mk); · rfl)
    | ((with_reducible refine Mm.br_true ?_ ?_); · rfl)
    | ((with_reducible refine Mm.br_false ?_ ?_); · rfl)
    | ((with_reducible refine Mm.w_mod ?_ ?_); · walk_at "wp side")
    | ((with_reducible refine Mm.w_div ?_ ?_ ?_); (· walk_at "wp side"); (· (first | decide | assumption)))
    | ((with_reducible refine Mm.w_mul ?_ ?_); · exact .inl (.inr (by decide)))
    | ((with_reducible refine Mm.w_mul ?_ ?_); · exact .inl (.inl (by decide)))
    | ((with_reducible refine Mm.w_mul ?_ ?_); · exact .inl (.inl (by omega)))
    | ((with_reducible refine Mm.w_mul ?_ ?_); · exact .inl (.inr (by omega)))
    | ((with_reducible refine Mm.w_pow ?_ ?_); · decide)
    | ((with_reducible refine Mm.w_lstV ?_ ?_); · (simp only [List.length_cons, List.length_nil]; decide))
    | ((with_reducible refine Mm.w_tupV ?_ ?_); · (simp only [List.length_cons, List.length_nil]; decide))
    | ((with_reducible apply Mm.w_idxL); (· walk_at "sto"); (· first | exact Mm.atI0 | exact Mm.atI1 | exact Mm.atI2 | exact Mm.atIl | rfl))
    | ((with_reducible apply Mm.w_fld); (· walk_at "sto"); (· simp); (· walk_at "lk"))
    | ((with_reducible apply Mm.w_isI); (· walk_at "sto"); (· walk_at "tb"))
    | ((with_reducible apply Mm.w_idxC); (· walk_at "sto"); (· rfl))
    | ((with_reducible apply Mm.w_idxT); · first | exact Mm.atI0 | exact Mm.atI1 | exact Mm.atI2 | rfl)
    | ((with_reducible apply Mm.w_lenL); · walk_at "sto")
    | ((with_reducible apply Mm.w_lenC); · walk_at "sto")
    | ((with_reducible apply Mm.w_lenK); · walk_at "sto")
    | ((with_reducible apply Mm.w_tupL); · walk_at "sto")
    | ((with_reducible apply Mm.w_lstL); · walk_at "sto")
    | ((with_reducible apply Mm.w_cutL); · walk_at "sto")
    | ((with_reducible apply Mm.w_revL); · walk_at "sto")
    | ((with_reducible apply Mm.w_truL); · walk_at "sto")
    | ((with_reducible apply Mm.ex_mk); · exact Mm.it_lst (by walk_at "sto"))
    | ((with_reducible apply Mm.ex_mk); · exact Mm.it_con (by walk_at "sto"))
    | ((with_reducible apply Mm.ex_mk); · exact Mm.it_en2L (by walk_at "sto"))
    | ((with_reducible apply Mm.ex_mk); · exact Mm.it_en2C (by walk_at "sto"))
    | ((with_reducible apply Mm.ex_mk); · exact Mm.set_lst (by walk_at "sto") rfl)
    | ((with_reducible refine And.intro ?_ ?_); · exact Mm.ty_lst (by walk_at "sto"))
    | fail)
local macro_rules
  | `(tactic| walk_at "wq") => `(tactic| repeat' (first | (walk_at "wp1"; try dsimp only [List.set_cons_zero, List.set_cons_succ, Bool.not_true, Bool.not_false]) | (walk_at "wp2"; try dsimp only [Bool.not_true, Bool.not_false]) | fail))
local macro_rules
  | `(tactic| walk_at "wp") => `(tactic| repeat' (first | (with_reducible refine Mm.v_if ?_) | (walk_at "wp1"; try dsimp only [List.set_cons_zero, List.set_cons_succ, Bool.not_true, Bool.not_false]) | (walk_at "wp2"; try dsimp only [Bool.not_true, Bool.not_false]) | fail))
local macro_rules
  | `(tactic| walk_at "def") => `(tactic| (refine Mm.w_def rfl ?_; simp only [List.map_cons, List.map_nil, List.cons_append, List.nil_append, List.replicate, Nat.reduceSub, List.replicate_succ, List.replicate_zero]))
/-! the steps of the makers of inputs -/
local macro_rules
  | `(tactic| walk_at "gx") => `(tactic| first | with_reducible assumption | (with_reducible refine Law.GX.add ?_; walk_at "gx") | (with_reducible refine' Law.GX.putA ?a1 ?a2; (case a1 => walk_at "gx"); (case a2 => walk_at "gx")) | fail)
local macro_rules
  | `(tactic| walk_at "pk") => `(tactic| exact trivial)
local macro_rules
  | `(tactic| walk_at "tl") => `(tactic| with_unfolding_all exact of_decide_eq_true (p := _ ≤ 1000) rfl)
local macro_rules
  | `(tactic| walk_at "tm") => `(tactic| repeat' (with_reducible first
    | assumption
    | exact Law.TMs.nil | apply Law.TMs.cons
    | exact Law.AllM.nil | apply Law.AllM.cons
    | exact Law.StL.nil | apply Law.StL.cons | exact Law.InL.nil | apply Law.InL.cons
    | exact Law.RowL.nil | apply Law.RowL.cons
    | apply Law.TM.num | apply Law.TM.nam | apply Law.TM.tt | apply Law.TM.ff | apply Law.TM.no | apply Law.TM.ask
    | apply Law.TM.fn | apply Law.TM.dos | apply Law.TM.call | apply Law.TM.op | apply Law.TM.cond | apply Law.TM.wind | apply Law.TM.mark | apply Law.TM.shw
    | apply Law.TM.bnd (.inl rfl) | apply Law.TM.bnd (.inr rfl)
    | apply Law.TM.oneL (by assumption) (by decide +kernel) | apply Law.TMs.cutL (by assumption) (by decide +kernel)
    | apply Law.TM.one (.inl rfl) | apply Law.TM.one (.inr (.inl rfl)) | apply Law.TM.one (.inr (.inr (.inl rfl))) | apply Law.TM.one (.inr (.inr (.inr rfl)))
    | walk_at "pk"
    | walk_at "tl"
    | fail))
local macro_rules
  | `(tactic| walk_at "mx") => `(tactic| first | (simp only [Nat.max_le, Nat.add_zero, Nat.zero_add, Nat.add_le_add_iff_right]; done) | ((simp only [Nat.max_le, Nat.add_zero, Nat.zero_add, Nat.add_le_add_iff_right]); (repeat' apply And.intro) <;> omega) | omega)
local macro_rules
  | `(tactic| walk_at "ge") => `(tactic| (refine' ⟨Law.TM.mono ?h1 ?h2 ?h3, ?h4⟩; (case h1 => walk_at "tm"); (case h2 => walk_at "mx"); (case h3 => walk_at "mx"); (case h4 => walk_at "gx")))
local macro_rules
  | `(tactic| walk_at "call") => `(tactic| (with_reducible refine' Law.GX.drawQ ?a1 ?a2 ?a3 ?az; (case a1 => walk_at "gx"); (case a2 => first | decide | omega); (case a3 => first | decide | omega); (intro r S' r0 r1 g)))
local macro_rules
  | `(tactic| walk_at "call") => `(tactic| (with_reducible refine' Law.GX.pickSQ ?a1 ?a2 ?a3 ?a4 ?az; (case a1 => walk_at "gx"); (case a2 => walk_at "tm"; done); (case a3 => first | decide | (simp only [List.length_cons, List.length_nil]; omega)); (case a4 => first | decide | (simp only [List.length_cons, List.length_nil]; omega)); (intro s S' hs g)))
local macro_rules
  | `(tactic| walk_at "call") => `(tactic| (with_reducible refine' Law.GX.pickIQ ?a1 ?a2 ?a3 ?a4 ?az; (case a1 => walk_at "gx"); (case a2 => walk_at "tm"; done); (case a3 => first | decide | (simp only [List.length_cons, List.length_nil]; omega)); (case a4 => first | decide | (simp only [List.length_cons, List.length_nil]; omega)); (intro s S' hs g)))
local macro_rules
  | `(tactic| walk_at "call") => `(tactic| ((with_reducible refine' Law.w_inSt ?a1 ?az); (case a1 => walk_at "tm"; done)))
local macro_rules
  | `(tactic| walk_at "call") => `(tactic| ((with_reducible refine' Mm.w_addt ?a1 ?az); (case a1 => (simp only [List.length_cons, List.length_nil]; decide)); dsimp only [List.cons_append, List.nil_append]))
local macro_rules
  | `(tactic| walk_at "call") => `(tactic| ((with_reducible refine' Mm.w_addl ?a1 ?a2 ?a3 ?az); (case a1 => walk_at "sto"); (case a2 => walk_at "sto"); (case a3 => (simp only [List.length_cons, List.length_nil]; decide)); dsimp only [List.cons_append, List.nil_append]))
local macro_rules
  | `(tactic| walk_at "call") => `(tactic| ((with_reducible refine' Mm.w_append ?a1 ?a2 ?az); (case a1 => walk_at "sto"); (case a2 => (simp only [List.length_cons, List.length_nil]; decide)); dsimp only [List.cons_append, List.nil_append]))
local macro_rules
  | `(tactic| walk_at "gn") => `(tactic| repeat' (first
    | (with_reducible refine Mm.v_if ?_)
    | (walk_at "wp1"; try dsimp only [List.set_cons_zero, List.set_cons_succ, Bool.not_true, Bool.not_false])
    | (walk_at "wp2"; try dsimp only [Bool.not_true, Bool.not_false])
    | (with_reducible refine Mm.br_dec (fun e => ?_) (fun e => ?_))
    | walk_at "call"
    | walk_at "ge"
    | fail))
theorem x_loop {ck : List (Nat × List MV)} {p : Pt} {b : SM} {QS : Exc → Sl → Sto → Prop} (I : Nat → Sl → Sto → Prop) : ∀ (xs : List MV) (n : Nat) (e : Sl) (S : Sto) (m : Nat), m < xs.length → I n e S →
    (∀ (i : Nat) x e S, i < m → xs[i]? = some x → I (n + i) e S → ckOk ck S ∧ ∃ e1, asg p x S e = some e1 ∧ RetS (b e1 S) (I (n + i + 1)) { rt := fun _ _ => False, ct := I (n + i + 1) }) →
    (∀ x e S, xs[m]? = some x → I (n + m) e S → ckOk ck S ∧ ∃ e1, asg p x S e = some e1 ∧ RetSX (b e1 S) QS) → RetSX (loopM ck p b xs e S) QS
  | [], n, e, S, m, hm, _, _, _ => absurd hm (Nat.not_lt_zero _)
  | x :: xs, n, e, S, 0, hm, h0, hs, hd => by
    obtain ⟨h1, e1, h2, h3⟩ := hd x e S rfl (by simpa using h0)
    obtain ⟨ex, e2, S2, q, h4⟩ := h3.eq
    simp only [loopM, if_pos h1, h2, q]; exact h4
  | x :: xs, n, e, S, m + 1, hm, h0, hs, hd => by
    obtain ⟨h1, e1, h2, h3⟩ := hs 0 x e S (by omega) rfl (by simpa using h0)
    have go : ∀ e S, I (n + 0 + 1) e S → RetSX (loopM ck p b xs e S) QS := fun e S h => x_loop I xs (n + 1) e S m (by simpa using hm) (by simpa using h) (fun i x e S hi hx hI => by
      have := hs (i + 1) x e S (by omega) (by simpa using hx) (by rw [show n + (i + 1) = n + 1 + i by omega]; exact hI)
      rw [show n + 1 + i + 1 = n + (i + 1) + 1 by omega]; exact this) fun x e S hx hI => hd x e S (by simpa using hx) (by rw [show n + (m + 1) = n + 1 + m by omega]; exact hI)
    simp only [loopM, if_pos h1, h2]
    cases q : b e1 S with
    | nx e' S' => rw [q] at h3; exact go e' S' h3
    | ct e' S' => rw [q] at h3; exact go e' S' h3
    | brk e' S' => rw [q] at h3; exact h3.elim
    | ret y S' => rw [q] at h3; exact h3.elim
    | exc ex e' S' => rw [q] at h3; exact h3.elim
    | bad => rw [q] at h3; exact h3.elim
theorem x_for {mi : EMt Itm} {p : Pt} {b : SM} {e : Sl} {S : Sto} {QS : Exc → Sl → Sto → Prop} (h : Ret (mi e S) fun itm S1 => RetSX (loopM itm.ck p b itm.xs e S1) QS) : RetSX (forM mi p b e S) QS := x_use h
/-! rows of paths as they are handed over -/
def PathAt (S : Sto) (x : MV) (p : Pth) : Prop := x = pM p ∨ ∃ a, x = .ref a ∧ a < S.n ∧ S.g a = .lst (p.map .int)
theorem PathAt.ext {S S' : Sto} {x : MV} {p : Pth} (h : PathAt S x p) (E : Ext S S') : PathAt S' x p := by
  rcases h with h | ⟨a, h1, h2, h3⟩
  · exact .inl h
  · exact .inr ⟨a, h1, Nat.lt_of_lt_of_le h2 E.1, (E.2 a h2).trans h3⟩
theorem w_tupP {S : Sto} {x : MV} {p : Pth} {Q : MV → Sto → Prop} (h : PathAt S x p) (q : Q (pM p) S) : Ret (tupOf [x] S) Q := by
  rcases h with rfl | ⟨a, rfl, _, h3⟩
  · exact w_tupT q
  · exact w_tupL h3 q
structure Pz (S : Sto) (y : MV) (ps : List Pth) : Prop where
  it : ∃ (xs : List MV) (ck : List (Nat × List MV)), (∀ S', Ext S S' → ckOk ck S' ∧ itmOf y S' = some ⟨xs, ck⟩) ∧ xs.length = ps.length ∧ ∀ (i : Nat) (p : Pth), ps[i]? = some p → ∃ x, xs[i]? = some x ∧ PathAt S x p
theorem Pz.ext {S S' : Sto} {y : MV} {ps : List Pth} (h : Pz S y ps) (E : Ext S S') : Pz S' y ps := by
  obtain ⟨xs, ck, h1, h2, h3⟩ := h.it
  exact ⟨xs, ck, fun S2 E2 => h1 S2 (E.trans E2), h2, fun i p hp => let ⟨x, a, b⟩ := h3 i p hp; ⟨x, a, b.ext E⟩⟩
theorem Pz.tup {S : Sto} {xs : List MV} {ps : List Pth} (hl : xs.length = ps.length) (h : ∀ (i : Nat) (p : Pth), ps[i]? = some p → ∃ x, xs[i]? = some x ∧ PathAt S x p) : Pz S (.tup xs) ps := ⟨xs, [], fun S' _ => ⟨ck_n, rfl⟩, hl, h⟩
theorem Pz.lst {S : Sto} {a : Nat} {xs : List MV} {ps : List Pth} (ha : a < S.n) (g : S.g a = .lst xs) (hl : xs.length = ps.length) (h : ∀ (i : Nat) (p : Pth), ps[i]? = some p → ∃ x, xs[i]? = some x ∧ PathAt S x p) : Pz S (.ref a) ps :=
  ⟨xs, [(a, xs)], fun S' E => ⟨ck_l ((E.2 a ha).trans g), it_lst ((E.2 a ha).trans g)⟩, hl, h⟩
theorem paths_any (ps : List Pth) (p : Pth) : ((ps.map pD).any fun z => PyData.eqv z (pD p)) = decide (p ∈ ps) := by
  induction ps with
  | nil => rfl
  | cons q ps ih =>
    rw [List.map_cons, List.any_cons, ih]
    have e : PyData.eqv (pD q) (pD p) = decide (q = p) := ints_eqv q p
    rw [e]
    by_cases h : q = p
    · simp [h]
    · have h' : ¬ p = q := fun z => h z.symm
      by_cases h2 : p ∈ ps <;> simp [h, h', h2]
theorem fl_paths (ps : List Pth) : FlL (ps.map pM) (ps.map pD) := fll_map ps fun p _ => p_fl p
theorem sh_paths (ps : List Pth) : ShL 1 (ps.map pD) := shl_map ps fun p _ => p_sh p
theorem in_tup {S : Sto} {p : Pth} {ps : List Pth} : inDO (pM p) (.tup (ps.map pM)) S = some (decide (p ∈ ps)) := by
  rw [inDO_t (toD_fl (p_fl p)) (toD_fl (fl_tup (fl_paths ps))) (sh_of (p_sh p)) (sh_of (shd_tup (sh_paths ps))), paths_any]
theorem in_lst {S : Sto} {a : Nat} {p : Pth} {ps : List Pth} (g : S.g a = .lst (ps.map pM)) : inDO (pM p) (.ref a) S = some (decide (p ∈ ps)) := by
  rw [inDO_l (toD_fl (p_fl p)) (toD_lst g (fl_paths ps)) (sh_of (p_sh p)) (sh_of (shd_lst (sh_paths ps))), paths_any]
mutual
theorem chgP {P : Kd → Nat → Prop} (hC : ∀ k n, P k n → P (onceK k) n) (S : Pth → Bool) : ∀ t : T, OkP P t → OkP P (chgA S t)
  | .node k ps, h => by
    simp only [chgA]
    have hl := chgAL_len S 0 ps
    refine .mk ?_ ?_ (chgPL hC S 0 ps h.ps)
    · rw [hl]; split
      · exact onceK_ok h.k
      · exact h.k
    · rw [hl]; split
      · exact hC _ _ h.p
      · exact h.p
theorem chgPL {P : Kd → Nat → Prop} (hC : ∀ k n, P k n → P (onceK k) n) (S : Pth → Bool) : ∀ (i : Nat) (ts : List T), (∀ t ∈ ts, OkP P t) → ∀ t ∈ chgAL S i ts, OkP P t
  | _, [], _ => fun t ht => by cases ht
  | i, t :: ts, h => fun u hu => by
    simp only [chgAL] at hu
    rcases List.mem_cons.1 hu with rfl | hu
    · exact chgP hC _ t (h t List.mem_cons_self)
    · exact chgPL hC S (i + 1) ts (fun v hv => h v (List.mem_cons_of_mem _ hv)) u hu
end
theorem once_ok {cl : Nat → Addr} {P : Kd → Nat → Prop} (hP : ∀ k n, P k n → KSt k) (hC : ∀ k n, P k n → P (onceK k) n) (hO : ∀ s n, P (.one "keep" s) n → P (.one "once" s) n) {t : T} {y : MV} {ps : List Pth} {S : Sto} (ht : OkP P t) (hd : t.dep ≤ 20) (hz : t.size ≤ 100000) (hy : Pz S y ps) (hm : ∀ p ∈ ps, p ∈ keepsA t) :
    Ret (m_with_once cl [t.mv, y] S) fun z S' => z = (chgA (fun q => decide (q ∈ ps)) t).mv ∧ Ext S S' := by
  have sz : (16777216 : Nat) ≤ sizeLine := by decide
  obtain ⟨xs, ck, hit, hl, hxs⟩ := hy.it
  unfold m_with_once
  walk_at "def"
  unfold b_with_once
  walk_at "wq"
  refine (keep_paths_ok ht.ok (by omega) hz).imp ?_
  rintro _ S1 ⟨rfl, E1⟩
  refine v_seq (v_for (w_iter (w_var rfl ⟨_, (hit S1 E1).2, ?_⟩)))
  refine v_loop0 (fun i e S' => S' = S1 ∧ ∃ x3 x4, e = [some t.mv, some y, some (.tup ((keepsA t).map pM)), x3, x4]) ⟨rfl, _, _, rfl⟩ ?_ ?_
  · rintro i x e S2 hx ⟨rfl, x3, x4, rfl⟩
    have hi : i < ps.length := by rw [← hl]; exact (List.getElem?_eq_some_iff.1 hx).1
    have hp := List.getElem?_eq_getElem hi
    obtain ⟨x', hx', hpa⟩ := hxs i _ hp
    rw [hx] at hx'; cases hx'
    have hmem := hm _ (List.getElem_mem hi)
    generalize ps[i] = p at *
    refine ⟨(hit _ E1).1, _, rfl, ?_⟩
    refine v_if ?_
    walk_at "wq"
    refine w_tupP (hpa.ext E1) ?_
    walk_at "wq"
    refine w_ninD in_tup ?_
    rw [decide_eq_true hmem]
    refine ⟨_, rfl, ?_⟩
    walk_at "wq"
    exact ⟨rfl, _, _, rfl⟩
  rintro e S2 ⟨rfl, x3, x4, rfl⟩
  refine ⟨(hit _ E1).1, ?_⟩
  refine v_seq (v_asg (w_var (x := t.mv) rfl ?_))
  simp only [List.set_cons_zero, List.set_cons_succ]
  refine v_seq (v_for (w_iter (w_var rfl ⟨_, (hit _ E1).2, ?_⟩)))
  refine v_loop0 (fun i e S' => Ext S S' ∧ ∃ x3, e = [some t.mv, some y, some (.tup ((keepsA t).map pM)), x3, some (chgA (fun q => decide (q ∈ ps.take i)) t).mv]) ⟨E1, x3, by simp [chgA_no]⟩ ?_ ?_
  · rintro i x e S3 hx ⟨E3, x3, rfl⟩
    have hi : i < ps.length := by rw [← hl]; exact (List.getElem?_eq_some_iff.1 hx).1
    have hp := List.getElem?_eq_getElem hi
    obtain ⟨x', hx', hpa⟩ := hxs i _ hp
    rw [hx] at hx'; cases hx'
    have hmem := hm _ (List.getElem_mem hi)
    generalize ps[i] = p at *
    obtain ⟨u, hu, hk⟩ := (sel_mem_at p t).1 hmem
    have hplen := sel_short hmem
    have hat := at_chg p (fun q => decide (q ∈ ps.take i)) t
    rw [hu, Option.map_some] at hat
    obtain ⟨c1, c2, c3⟩ := chgA_ok (fun q => decide (q ∈ ps.take i)) t ht.ok
    obtain ⟨u1, u2⟩ := at_ok _ _ _ hat c1
    have hput := put_chg p t u (fun q => decide (q ∈ ps.take i)) hu hk
    have hP1 := chgP hC (fun q => decide (q ∈ ps.take i)) t ht
    have hkd := kd_chg (fun q => decide (p ++ q ∈ ps.take i)) u
    obtain ⟨s, hks⟩ := isKeep_eq hk
    generalize chgA (fun q => decide (p ++ q ∈ ps.take i)) u = u' at *
    have hw : u'.kd.word = "keep" ∨ u'.kd.word = "once" := by
      rw [hkd, hks]
      split
      · exact .inr rfl
      · exact .inl rfl
    obtain ⟨s', q', m1, m2⟩ := setOnce_mv u1 hw
    have hso : OkP P (setOnce u') ∧ (setOnce u').dep ≤ u'.dep := by
      have key : ∀ (p : Pth) (v w : T), atA p v = some w → OkP P v → OkP P w := by
        intro p
        induction p with
        | nil => intro v w h hv; cases h; exact hv
        | cons c p ih =>
          rintro ⟨k, vs⟩ w h hv
          simp only [atA] at h
          split at h
          · cases q : vs[c.toNat]? with
            | none => rw [q] at h; cases h
            | some z => rw [q] at h; exact ih z w h (hv.ps z (List.mem_of_getElem? q))
          · cases h
      have hu' := key p _ _ hat hP1
      obtain ⟨k, vs⟩ := u'
      have hkd : k = _ := hkd
      rw [hks] at hkd
      subst hkd
      split at hu' <;> rename_i hc
      · rw [if_pos hc]
        exact ⟨.mk hu'.k (by exact hu'.p) hu'.ps, Nat.le_refl _⟩
      · rw [if_neg hc]
        exact ⟨.mk ⟨hu'.k.1, .inr (.inr (.inl rfl))⟩ (hO _ _ hu'.p) hu'.ps, Nat.le_refl _⟩
    refine ⟨(hit _ E3).1, _, rfl, ?_⟩
    walk_at "wq"
    refine w_tupP (hpa.ext E3) ?_
    walk_at "wq"
    refine w_tupP (hpa.ext E3) ?_
    walk_at "wq"
    refine (tree_at_ok hat c1 (by omega)).imp ?_
    rintro _ S4 ⟨rfl, E4⟩
    rw [m1]
    walk_at "wq"
    rw [cutM_from (by decide)]
    refine w_addt (by simp; omega) ?_
    walk_at "wq"
    have e1 : (MV.tup ([.str "once"] ++ List.drop (Int.toNat 1) [MV.str u'.kd.word, .str s', q'])) = (setOnce u').mv := by rw [m2]; rfl
    rw [e1]
    refine (tree_with_ok hP 24 p _ _ (setOnce u') S4 (by omega) hat hP1 hso.1 hso.2 (by omega) (by omega) (by omega)).imp ?_
    rintro _ S5 ⟨rfl, E5⟩
    refine ⟨(E3.trans E4).trans E5, some x, ?_⟩
    rw [hput]
    have e2 : (fun q => decide (q ∈ ps.take i) || decide (q = p)) = fun q => decide (q ∈ ps.take (i + 1)) := by
      funext q
      rw [take_snoc hp]
      by_cases h1 : q ∈ ps.take i <;> by_cases h2 : q = p <;> simp [h1, h2]
    rw [e2]
  · rintro e S3 ⟨E3, x3, rfl⟩
    rw [hl, List.take_length]
    refine ⟨(hit _ E3).1, ?_⟩
    walk_at "wq"
    exact ⟨rfl, E3⟩
end Law
end

section
namespace Law
open PySem L2 Mm
/-! the step of the pure proofs -/
local macro_rules
  | `(tactic| walk_at "wp side") => `(tactic| first | assumption | omega | decide)
local macro_rules
  | `(tactic| walk_at "wp1") => `(tactic| with_reducible first
    | refine Mm.v_seq ?_ | refine Mm.v_nx ?_ | refine Mm.v_asg ?_ | refine Mm.v_asgP ?_ | refine Mm.v_ret ?_ | refine Mm.v_retN ?_ | refine Mm.v_drop ?_ | refine Mm.v_set ?_ | refine Mm.v_aug ?_ | refine Mm.v_for ?_ | refine Mm.v_brk ?_ | refine Mm.v_ct ?_
    | refine Mm.w_con ?_ | refine Mm.w_op2 ?_ | refine Mm.w_op1 ?_ | refine Mm.w_opL ?_ | refine Mm.w_cons ?_ | refine Mm.w_nil ?_
    | refine Mm.w_add ?_ | refine Mm.w_sub ?_ | refine Mm.w_neg ?_ | refine Mm.w_lt ?_ | refine Mm.w_le ?_ | refine Mm.w_gt ?_ | refine Mm.w_ge ?_ | refine Mm.w_eqi ?_ | refine Mm.w_nei ?_ | refine Mm.w_eqs ?_ | refine Mm.w_nes ?_ | refine Mm.w_int ?_ | refine Mm.w_abs ?_ | refine Mm.w_isN ?_ | refine Mm.w_notN ?_ | refine Mm.w_min ?_ | refine Mm.w_max ?_
    | refine Mm.w_tru ?_ | refine Mm.w_blM ?_ | refine Mm.w_andB ?_ | refine Mm.w_orB ?_ | refine Mm.w_notB ?_ | refine Mm.w_ifV ?_ | refine Mm.w_andV ?_ | refine Mm.w_orV ?_ | refine Mm.w_notV ?_ | refine Mm.w_truB ?_ | refine Mm.w_truI ?_ | refine Mm.w_truN ?_ | refine Mm.w_truT ?_
    | refine Mm.w_dNewK ?_ | refine Mm.w_dNewT ?_ | refine Mm.w_iter ?_ | refine Mm.w_strS ?_ | refine Mm.w_inT ?_ | refine Mm.w_idxTM ?_ | refine Mm.v_setTM ?_ | refine Mm.v_par ?_ | refine Mm.w_met ?_ | refine Mm.w_itmM ?_ | refine Mm.w_enm ?_ | refine Mm.w_enm2 ?_ | refine Mm.w_zip ?_ | refine Mm.w_rev ?_ | refine Mm.w_bm ?_ | refine Mm.w_lc ?_ | refine Mm.w_yes ?_ | refine Mm.br_t ?_ | refine Mm.br_f ?_ | refine Mm.w_slc ?_ | refine Mm.w_pno ?_ | refine Mm.w_pso ?_ | refine Mm.w_lenT ?_ | refine Mm.w_tupT ?_ | refine Mm.w_lstT ?_ | refine Mm.w_cutT ?_)
local macro_rules
  | `(tactic| walk_at "sto") => `(tactic| first
    | with_reducible assumption
    | with_reducible exact Mm.put_same
    | with_reducible exact Mm.add_same
    | (with_reducible refine (Mm.put_ne (by first | assumption | exact Ne.symm (by assumption) | ((try dsimp only [Mm.Sto.add, Mm.Sto.put]); omega))).trans ?_; walk_at "sto")
    | (with_reducible refine (Mm.add_ne (by first | assumption | exact Ne.symm (by assumption) | ((try dsimp only [Mm.Sto.add, Mm.Sto.put]); omega))).trans ?_; walk_at "sto")
    | fail)
local macro_rules
  | `(tactic| walk_at "lk") => `(tactic| first | with_reducible exact Mm.lk_here | with_reducible exact Mm.lk_nil | with_reducible assumption | (with_reducible apply Mm.lk_next; (· decide +kernel); (· walk_at "lk")) | fail)
local macro_rules
  | `(tactic| walk_at "pf") => `(tactic| first | with_reducible exact Mm.pf_nil | with_reducible exact Mm.pf_here | (with_reducible apply Mm.pf_next; (· decide +kernel); (· walk_at "pf")) | fail)
local macro_rules
  | `(tactic| walk_at "vf") => `(tactic| (refine' Mm.v_fldv ?a1 ?a2 ?a3 ?a4 ?a5 ?a6 ?a7; (case a1 => rfl); (case a2 => rfl); (case a3 => exact Mm.add_same); (case a4 => simp); (case a5 => simp only [List.length_cons, List.length_nil]; decide); (case a6 => walk_at "pf"); rw [Mm.add_put]))
local macro_rules
  | `(tactic| walk_at "tb") => `(tactic| first | with_reducible exact Mm.tb_here | (with_reducible apply Mm.tb_next; (· simp); (· walk_at "tb")) | fail)
local macro_rules
  | `(tactic| walk_at "wp2") => `(tactic| first
    | ((with_reducible apply Mm.w_var); · rfl)
    | ((with_reducible apply Mm.ex_mk); · with_reducible refine Mm.rng1 (by (try simp only [List.length_map]); omega))
    | ((with_reducible apply Mm.ex_mk); · with_reducible refine Mm.rng2 (by (try simp only [List.length_map]); omega))
    | ((with_reducible apply Mm.ex_mk); · rfl)
    | ((with_reducible refine Mm.br_true ?_ ?_); · rfl)
    | ((with_reducible refine Mm.br_false ?_ ?_); · rfl)
    | ((with_reducible refine Mm.w_mod ?_ ?_); · walk_at "wp side")
    | ((with_reducible refine Mm.w_div ?_ ?_ ?_); (· walk_at "wp side"); (· (first | decide | assumption)))
    | ((with_reducible refine Mm.w_mul ?_ ?_); · exact .inl (.inr (by decide)))
    | ((with_reducible refine Mm.w_mul ?_ ?_); · exact .inl (.inl (by decide)))
    | ((with_reducible refine Mm.w_mul ?_ ?_); · exact .inl (.inl (by omega)))
    | ((with_reducible refine Mm.w_mul ?_ ?_); · exact .inl (.inr (by omega)))
    | ((with_reducible refine Mm.w_pow ?_ ?_); · decide)
    | ((with_reducible refine Mm.w_lstV ?_ ?_); · (simp only [List.length_cons, List.length_nil]; decide))
    | ((with_reducible refine Mm.w_tupV ?_ ?_); · (simp only [List.length_cons, List.length_nil]; decide))
    | ((with_reducible apply Mm.w_idxL); (· walk_at "sto"); (· first | exact Mm.atI0 | exact Mm.atI1 | exact Mm.atI2 | exact Mm.atIl | rfl))
    | ((with_reducible apply Mm.w_fld); (· walk_at "sto"); (· simp); (· walk_at "lk"))
    | ((with_reducible apply Mm.w_isI); (· walk_at "sto"); (· walk_at "tb"))
    | ((with_reducible apply Mm.w_idxC); (· walk_at "sto"); (· rfl))
    | ((with_reducible apply Mm.w_idxT); · first | exact Mm.atI0 | exact Mm.atI1 | exact Mm.atI2 | rfl)
    | ((with_reducible apply Mm.w_lenL); · walk_at "sto")
    | ((with_reducible apply Mm.w_lenC); · walk_at "sto")
    | ((with_reducible apply Mm.w_lenK); · walk_at "sto")
    | ((with_reducible apply Mm.w_tupL); · walk_at "sto")
    | ((with_reducible apply Mm.w_lstL); · walk_at "sto")
    | ((with_reducible apply Mm.w_cutL); · walk_at "sto")
    | ((with_reducible apply Mm.w_revL); · walk_at "sto")
    | ((with_reducible apply Mm.w_truL); · walk_at "sto")
    | ((with_reducible apply Mm.ex_mk); · exact Mm.it_lst (by walk_at "sto"))
    | ((with_reducible apply Mm.ex_mk); · exact Mm.it_con (by walk_at "sto"))
    | ((with_reducible apply Mm.ex_mk); · exact Mm.it_en2L (by walk_at "sto"))
    | ((with_reducible apply Mm.ex_mk); · exact Mm.it_en2C (by walk_at "sto"))
    | ((with_reducible apply Mm.ex_mk); · exact Mm.set_lst (by walk_at "sto") rfl)
    | ((with_reducible refine And.intro ?_ ?_); · exact Mm.ty_lst (by walk_at "sto"))
    | fail)
local macro_rules
  | `(tactic| walk_at "wq") => `(tactic| repeat' (first | (walk_at "wp1"; try dsimp only [List.set_cons_zero, List.set_cons_succ, Bool.not_true, Bool.not_false]) | (walk_at "wp2"; try dsimp only [Bool.not_true, Bool.not_false]) | fail))
local macro_rules
  | `(tactic| walk_at "wp") => `(tactic| repeat' (first | (with_reducible refine Mm.v_if ?_) | (walk_at "wp1"; try dsimp only [List.set_cons_zero, List.set_cons_succ, Bool.not_true, Bool.not_false]) | (walk_at "wp2"; try dsimp only [Bool.not_true, Bool.not_false]) | fail))
local macro_rules
  | `(tactic| walk_at "def") => `(tactic| (refine Mm.w_def rfl ?_; simp only [List.map_cons, List.map_nil, List.cons_append, List.nil_append, List.replicate, Nat.reduceSub, List.replicate_succ, List.replicate_zero]))
/-! the steps of the makers of inputs -/
local macro_rules
  | `(tactic| walk_at "gx") => `(tactic| first | with_reducible assumption | (with_reducible refine Law.GX.add ?_; walk_at "gx") | (with_reducible refine' Law.GX.putA ?a1 ?a2; (case a1 => walk_at "gx"); (case a2 => walk_at "gx")) | fail)
local macro_rules
  | `(tactic| walk_at "pk") => `(tactic| exact trivial)
local macro_rules
  | `(tactic| walk_at "tl") => `(tactic| with_unfolding_all exact of_decide_eq_true (p := _ ≤ 1000) rfl)
local macro_rules
  | `(tactic| walk_at "tm") => `(tactic| repeat' (with_reducible first
    | assumption
    | exact Law.TMs.nil | apply Law.TMs.cons
    | exact Law.AllM.nil | apply Law.AllM.cons
    | exact Law.StL.nil | apply Law.StL.cons | exact Law.InL.nil | apply Law.InL.cons
    | exact Law.RowL.nil | apply Law.RowL.cons
    | apply Law.TM.num | apply Law.TM.nam | apply Law.TM.tt | apply Law.TM.ff | apply Law.TM.no | apply Law.TM.ask
    | apply Law.TM.fn | apply Law.TM.dos | apply Law.TM.call | apply Law.TM.op | apply Law.TM.cond | apply Law.TM.wind | apply Law.TM.mark | apply Law.TM.shw
    | apply Law.TM.bnd (.inl rfl) | apply Law.TM.bnd (.inr rfl)
    | apply Law.TM.oneL (by assumption) (by decide +kernel) | apply Law.TMs.cutL (by assumption) (by decide +kernel)
    | apply Law.TM.one (.inl rfl) | apply Law.TM.one (.inr (.inl rfl)) | apply Law.TM.one (.inr (.inr (.inl rfl))) | apply Law.TM.one (.inr (.inr (.inr rfl)))
    | walk_at "pk"
    | walk_at "tl"
    | fail))
local macro_rules
  | `(tactic| walk_at "mx") => `(tactic| first | (simp only [Nat.max_le, Nat.add_zero, Nat.zero_add, Nat.add_le_add_iff_right]; done) | ((simp only [Nat.max_le, Nat.add_zero, Nat.zero_add, Nat.add_le_add_iff_right]); (repeat' apply And.intro) <;> omega) | omega)
local macro_rules
  | `(tactic| walk_at "ge") => `(tactic| (refine' ⟨Law.TM.mono ?h1 ?h2 ?h3, ?h4⟩; (case h1 => walk_at "tm"); (case h2 => walk_at "mx"); (case h3 => walk_at "mx"); (case h4 => walk_at "gx")))
local macro_rules
  | `(tactic| walk_at "call") => `(tactic| (with_reducible refine' Law.GX.drawQ ?a1 ?a2 ?a3 ?az; (case a1 => walk_at "gx"); (case a2 => first | decide | omega); (case a3 => first | decide | omega); (intro r S' r0 r1 g)))
local macro_rules
  | `(tactic| walk_at "call") => `(tactic| (with_reducible refine' Law.GX.pickSQ ?a1 ?a2 ?a3 ?a4 ?az; (case a1 => walk_at "gx"); (case a2 => walk_at "tm"; done); (case a3 => first | decide | (simp only [List.length_cons, List.length_nil]; omega)); (case a4 => first | decide | (simp only [List.length_cons, List.length_nil]; omega)); (intro s S' hs g)))
local macro_rules
  | `(tactic| walk_at "call") => `(tactic| (with_reducible refine' Law.GX.pickIQ ?a1 ?a2 ?a3 ?a4 ?az; (case a1 => walk_at "gx"); (case a2 => walk_at "tm"; done); (case a3 => first | decide | (simp only [List.length_cons, List.length_nil]; omega)); (case a4 => first | decide | (simp only [List.length_cons, List.length_nil]; omega)); (intro s S' hs g)))
local macro_rules
  | `(tactic| walk_at "call") => `(tactic| ((with_reducible refine' Law.w_inSt ?a1 ?az); (case a1 => walk_at "tm"; done)))
local macro_rules
  | `(tactic| walk_at "call") => `(tactic| ((with_reducible refine' Mm.w_addt ?a1 ?az); (case a1 => (simp only [List.length_cons, List.length_nil]; decide)); dsimp only [List.cons_append, List.nil_append]))
local macro_rules
  | `(tactic| walk_at "call") => `(tactic| ((with_reducible refine' Mm.w_addl ?a1 ?a2 ?a3 ?az); (case a1 => walk_at "sto"); (case a2 => walk_at "sto"); (case a3 => (simp only [List.length_cons, List.length_nil]; decide)); dsimp only [List.cons_append, List.nil_append]))
local macro_rules
  | `(tactic| walk_at "call") => `(tactic| ((with_reducible refine' Mm.w_append ?a1 ?a2 ?az); (case a1 => walk_at "sto"); (case a2 => (simp only [List.length_cons, List.length_nil]; decide)); dsimp only [List.cons_append, List.nil_append]))
local macro_rules
  | `(tactic| walk_at "gn") => `(tactic| repeat' (first
    | (with_reducible refine Mm.v_if ?_)
    | (walk_at "wp1"; try dsimp only [List.set_cons_zero, List.set_cons_succ, Bool.not_true, Bool.not_false])
    | (walk_at "wp2"; try dsimp only [Bool.not_true, Bool.not_false])
    | (with_reducible refine Mm.br_dec (fun e => ?_) (fun e => ?_))
    | walk_at "call"
    | walk_at "ge"
    | fail))
theorem once_bad {cl : Nat → Addr} {t : T} {y : MV} {ps : List Pth} {m : Nat} {p0 : Pth} {S : Sto} (ht : t.Ok) (hd : t.dep ≤ 20) (hz : t.size ≤ 100000) (hy : Pz S y ps) (h0 : ps[m]? = some p0) (hn : p0 ∉ keepsA t) (hm : ∀ i p, i < m → ps[i]? = some p → p ∈ keepsA t) :
    RetX (m_with_once cl [t.mv, y] S) fun x S' => x = ⟨k_NoKeep cl, [("path", pM p0)]⟩ ∧ Ext S S' := by
  obtain ⟨xs, ck, hit, hl, hxs⟩ := hy.it
  have hml : m < ps.length := (List.getElem?_eq_some_iff.1 h0).1
  unfold m_with_once
  refine x_def rfl ?_
  simp only [List.map_cons, List.map_nil, List.cons_append, List.nil_append, List.replicate, Nat.reduceSub, List.replicate_succ, List.replicate_zero]
  unfold b_with_once
  refine x_seq ?_
  walk_at "wq"
  refine (keep_paths_ok ht (by omega) hz).imp ?_
  rintro _ S1 ⟨rfl, E1⟩
  refine x_seq1 (x_for (w_iter (w_var rfl ⟨_, (hit S1 E1).2, ?_⟩)))
  refine x_loop (fun i e S' => S' = S1 ∧ ∃ x3 x4, e = [some t.mv, some y, some (.tup ((keepsA t).map pM)), x3, x4]) xs 0 _ _ m (by omega) ⟨rfl, _, _, rfl⟩ ?_ ?_
  · rintro i x e S2 hi hx ⟨rfl, x3, x4, rfl⟩
    have hp := List.getElem?_eq_getElem (show i < ps.length by omega)
    obtain ⟨x', hx', hpa⟩ := hxs i _ hp
    rw [hx] at hx'; cases hx'
    have hmem := hm i _ hi hp
    generalize ps[i] = p at *
    refine ⟨(hit _ E1).1, _, rfl, ?_⟩
    refine v_if ?_
    walk_at "wq"
    refine w_tupP (hpa.ext E1) ?_
    walk_at "wq"
    refine w_ninD in_tup ?_
    rw [decide_eq_true hmem]
    refine ⟨_, rfl, ?_⟩
    walk_at "wq"
    exact ⟨rfl, _, _, rfl⟩
  · rintro x e S2 hx ⟨rfl, x3, x4, rfl⟩
    obtain ⟨x', hx', hpa⟩ := hxs m _ h0
    rw [hx] at hx'; cases hx'
    refine ⟨(hit _ E1).1, _, rfl, ?_⟩
    refine x_if ?_
    walk_at "wq"
    refine w_tupP (hpa.ext E1) ?_
    walk_at "wq"
    refine w_ninD in_tup ?_
    rw [decide_eq_false hn]
    refine ⟨_, rfl, fun _ => ?_, fun h => absurd h (by decide)⟩
    refine x_raise ?_
    walk_at "wq"
    refine w_tupP (hpa.ext E1) ?_
    walk_at "wq"
    exact ⟨rfl, rfl, E1⟩
theorem refused_ok {cl : Nat → Addr} {t : T} {y : MV} {ps : List Pth} {m : Nat} {p0 : Pth} {S : Sto} (ht : t.Ok) (hd : t.dep ≤ 20) (hz : t.size ≤ 100000) (hy : Pz S y ps) (h0 : ps[m]? = some p0) (hn : p0 ∉ keepsA t) (hm : ∀ i p, i < m → ps[i]? = some p → p ∈ keepsA t) :
    Ret (m__law_refused cl [t.mv, y] S) fun z S' => z = pM p0 ∧ Ext S S' := by
  unfold m__law_refused
  walk_at "def"
  unfold b__law_refused
  walk_at "wq"
  refine v_tryX (x_drop (x_opL ?_))
  walk_at "wq"
  refine (once_bad ht hd hz hy h0 hn hm).imp ?_
  rintro _ S1 ⟨rfl, E1⟩
  refine ⟨tb_here, ?_⟩
  walk_at "wq"
  refine v_if ?_
  walk_at "wq"
  refine w_isX (C := k_NoKeep cl) add_same tb_here ?_
  walk_at "wq"
  refine w_xf add_same (by simp) lk_here ?_
  exact ⟨rfl, E1.add⟩
end Law
end

section
namespace Law
open PySem L2 Mm
/-! the step of the pure proofs -/
local macro_rules
  | `(tactic| walk_at "wp side") => `(tactic| first | assumption | omega | decide)
local macro_rules
  | `(tactic| walk_at "wp1") => `(tactic| with_reducible first
    | refine Mm.v_seq ?_ | refine Mm.v_nx ?_ | refine Mm.v_asg ?_ | refine Mm.v_asgP ?_ | refine Mm.v_ret ?_ | refine Mm.v_retN ?_ | refine Mm.v_drop ?_ | refine Mm.v_set ?_ | refine Mm.v_aug ?_ | refine Mm.v_for ?_ | refine Mm.v_brk ?_ | refine Mm.v_ct ?_
    | refine Mm.w_con ?_ | refine Mm.w_op2 ?_ | refine Mm.w_op1 ?_ | refine Mm.w_opL ?_ | refine Mm.w_cons ?_ | refine Mm.w_nil ?_
    | refine Mm.w_add ?_ | refine Mm.w_sub ?_ | refine Mm.w_neg ?_ | refine Mm.w_lt ?_ | refine Mm.w_le ?_ | refine Mm.w_gt ?_ | refine Mm.w_ge ?_ | refine Mm.w_eqi ?_ | refine Mm.w_nei ?_ | refine Mm.w_eqs ?_ | refine Mm.w_nes ?_ | refine Mm.w_int ?_ | refine Mm.w_abs ?_ | refine Mm.w_isN ?_ | refine Mm.w_notN ?_ | refine Mm.w_min ?_ | refine Mm.w_max ?_
    | refine Mm.w_tru ?_ | refine Mm.w_blM ?_ | refine Mm.w_andB ?_ | refine Mm.w_orB ?_ | refine Mm.w_notB ?_ | refine Mm.w_ifV ?_ | refine Mm.w_andV ?_ | refine Mm.w_orV ?_ | refine Mm.w_notV ?_ | refine Mm.w_truB ?_ | refine Mm.w_truI ?_ | refine Mm.w_truN ?_ | refine Mm.w_truT ?_
    | refine Mm.w_dNewK ?_ | refine Mm.w_dNewT ?_ | refine Mm.w_iter ?_ | refine Mm.w_strS ?_ | refine Mm.w_inT ?_ | refine Mm.w_idxTM ?_ | refine Mm.v_setTM ?_ | refine Mm.v_par ?_ | refine Mm.w_met ?_ | refine Mm.w_itmM ?_ | refine Mm.w_enm ?_ | refine Mm.w_enm2 ?_ | refine Mm.w_zip ?_ | refine Mm.w_rev ?_ | refine Mm.w_bm ?_ | refine Mm.w_lc ?_ | refine Mm.w_yes ?_ | refine Mm.br_t ?_ | refine Mm.br_f ?_ | refine Mm.w_slc ?_ | refine Mm.w_pno ?_ | refine Mm.w_pso ?_ | refine Mm.w_lenT ?_ | refine Mm.w_tupT ?_ | refine Mm.w_lstT ?_ | refine Mm.w_cutT ?_)
local macro_rules
  | `(tactic| walk_at "sto") => `(tactic| first
    | with_reducible assumption
    | with_reducible exact Mm.put_same
    | with_reducible exact Mm.add_same
    | (with_reducible refine (Mm.put_ne (by first | assumption | exact Ne.symm (by assumption) | ((try dsimp only [Mm.Sto.add, Mm.Sto.put]); omega))).trans ?_; walk_at "sto")
    | (with_reducible refine (Mm.add_ne (by first | assumption | exact Ne.symm (by assumption) | ((try dsimp only [Mm.Sto.add, Mm.Sto.put]); omega))).trans ?_; walk_at "sto")
    | fail)
local macro_rules
  | `(tactic| walk_at "lk") => `(tactic| first | with_reducible exact Mm.lk_here | with_reducible exact Mm.lk_nil | with_reducible assumption | (with_reducible apply Mm.lk_next; (· decide +kernel); (· walk_at "lk")) | fail)
local macro_rules
  | `(tactic| walk_at "pf") => `(tactic| first | with_reducible exact Mm.pf_nil | with_reducible exact Mm.pf_here | (with_reducible apply Mm.pf_next; (· decide +kernel); (· walk_at "pf")) | fail)
local macro_rules
  | `(tactic| walk_at "vf") => `(tactic| (refine' Mm.v_fldv ?a1 ?a2 ?a3 ?a4 ?a5 ?a6 ?a7; (case a1 => rfl); (case a2 => rfl); (case a3 => exact Mm.add_same); (case a4 => simp); (case a5 => simp only [List.length_cons, List.length_nil]; decide); (case a6 => walk_at "pf"); rw [Mm.add_put]))
local macro_rules
  | `(tactic| walk_at "tb") => `(tactic| first | with_reducible exact Mm.tb_here | (with_reducible apply Mm.tb_next; (· simp); (· walk_at "tb")) | fail)
local macro_rules
  | `(tactic| walk_at "wp2") => `(tactic| first
    | ((with_reducible apply Mm.w_var); · rfl)
    | ((with_reducible apply Mm.ex_mk); · with_reducible refine Mm.rng1 (by (try simp only [List.length_map]); omega))
    | ((with_reducible apply Mm.ex_mk); · with_reducible refine Mm.rng2 (by (try simp only [List.length_map]); omega))
    | ((with_reducible apply Mm.ex_mk); · rfl)
    | ((with_reducible refine Mm.br_true ?_ ?_); · rfl)
    | ((with_reducible refine Mm.br_false ?_ ?_); · rfl)
    | ((with_reducible refine Mm.w_mod ?_ ?_); · walk_at "wp side")
    | ((with_reducible refine Mm.w_div ?_ ?_ ?_); (· walk_at "wp side"); (· (first | decide | assumption)))
    | ((with_reducible refine Mm.w_mul ?_ ?_); · exact .inl (.inr (by decide)))
    | ((with_reducible refine Mm.w_mul ?_ ?_); · exact .inl (.inl (by decide)))
    | ((with_reducible refine Mm.w_mul ?_ ?_); · exact .inl (.inl (by omega)))
    | ((with_reducible refine Mm.w_mul ?_ ?_); · exact .inl (.inr (by omega)))
    | ((with_reducible refine Mm.w_pow ?_ ?_); · decide)
    | ((with_reducible refine Mm.w_lstV ?_ ?_); · (simp only [List.length_cons, List.length_nil]; decide))
    | ((with_reducible refine Mm.w_tupV ?_ ?_); · (simp only [List.length_cons, List.length_nil]; decide))
    | ((with_reducible apply Mm.w_idxL); (· walk_at "sto"); (· first | exact Mm.atI0 | exact Mm.atI1 | exact Mm.atI2 | exact Mm.atIl | rfl))
    | ((with_reducible apply Mm.w_fld); (· walk_at "sto"); (· simp); (· walk_at "lk"))
    | ((with_reducible apply Mm.w_isI); (· walk_at "sto"); (· walk_at "tb"))
    | ((with_reducible apply Mm.w_idxC); (· walk_at "sto"); (· rfl))
    | ((with_reducible apply Mm.w_idxT); · first | exact Mm.atI0 | exact Mm.atI1 | exact Mm.atI2 | rfl)
    | ((with_reducible apply Mm.w_lenL); · walk_at "sto")
    | ((with_reducible apply Mm.w_lenC); · walk_at "sto")
    | ((with_reducible apply Mm.w_lenK); · walk_at "sto")
    | ((with_reducible apply Mm.w_tupL); · walk_at "sto")
    | ((with_reducible apply Mm.w_lstL); · walk_at "sto")
    | ((with_reducible apply Mm.w_cutL); · walk_at "sto")
    | ((with_reducible apply Mm.w_revL); · walk_at "sto")
    | ((with_reducible apply Mm.w_truL); · walk_at "sto")
    | ((with_reducible apply Mm.ex_mk); · exact Mm.it_lst (by walk_at "sto"))
    | ((with_reducible apply Mm.ex_mk); · exact Mm.it_con (by walk_at "sto"))
    | ((with_reducible apply Mm.ex_mk); · exact Mm.it_en2L (by walk_at "sto"))
    | ((with_reducible apply Mm.ex_mk); · exact Mm.it_en2C (by walk_at "sto"))
    | ((with_reducible apply Mm.ex_mk); · exact Mm.set_lst (by walk_at "sto") rfl)
    | ((with_reducible refine And.intro ?_ ?_); · exact Mm.ty_lst (by walk_at "sto"))
    | fail)
local macro_rules
  | `(tactic| walk_at "wq") => `(tactic| repeat' (first | (walk_at "wp1"; try dsimp only [List.set_cons_zero, List.set_cons_succ, Bool.not_true, Bool.not_false]) | (walk_at "wp2"; try dsimp only [Bool.not_true, Bool.not_false]) | fail))
local macro_rules
  | `(tactic| walk_at "wp") => `(tactic| repeat' (first | (with_reducible refine Mm.v_if ?_) | (walk_at "wp1"; try dsimp only [List.set_cons_zero, List.set_cons_succ, Bool.not_true, Bool.not_false]) | (walk_at "wp2"; try dsimp only [Bool.not_true, Bool.not_false]) | fail))
local macro_rules
  | `(tactic| walk_at "def") => `(tactic| (refine Mm.w_def rfl ?_; simp only [List.map_cons, List.map_nil, List.cons_append, List.nil_append, List.replicate, Nat.reduceSub, List.replicate_succ, List.replicate_zero]))
/-! the steps of the makers of inputs -/
local macro_rules
  | `(tactic| walk_at "gx") => `(tactic| first | with_reducible assumption | (with_reducible refine Law.GX.add ?_; walk_at "gx") | (with_reducible refine' Law.GX.putA ?a1 ?a2; (case a1 => walk_at "gx"); (case a2 => walk_at "gx")) | fail)
local macro_rules
  | `(tactic| walk_at "pk") => `(tactic| exact trivial)
local macro_rules
  | `(tactic| walk_at "tl") => `(tactic| with_unfolding_all exact of_decide_eq_true (p := _ ≤ 1000) rfl)
local macro_rules
  | `(tactic| walk_at "tm") => `(tactic| repeat' (with_reducible first
    | assumption
    | exact Law.TMs.nil | apply Law.TMs.cons
    | exact Law.AllM.nil | apply Law.AllM.cons
    | exact Law.StL.nil | apply Law.StL.cons | exact Law.InL.nil | apply Law.InL.cons
    | exact Law.RowL.nil | apply Law.RowL.cons
    | apply Law.TM.num | apply Law.TM.nam | apply Law.TM.tt | apply Law.TM.ff | apply Law.TM.no | apply Law.TM.ask
    | apply Law.TM.fn | apply Law.TM.dos | apply Law.TM.call | apply Law.TM.op | apply Law.TM.cond | apply Law.TM.wind | apply Law.TM.mark | apply Law.TM.shw
    | apply Law.TM.bnd (.inl rfl) | apply Law.TM.bnd (.inr rfl)
    | apply Law.TM.oneL (by assumption) (by decide +kernel) | apply Law.TMs.cutL (by assumption) (by decide +kernel)
    | apply Law.TM.one (.inl rfl) | apply Law.TM.one (.inr (.inl rfl)) | apply Law.TM.one (.inr (.inr (.inl rfl))) | apply Law.TM.one (.inr (.inr (.inr rfl)))
    | walk_at "pk"
    | walk_at "tl"
    | fail))
local macro_rules
  | `(tactic| walk_at "mx") => `(tactic| first | (simp only [Nat.max_le, Nat.add_zero, Nat.zero_add, Nat.add_le_add_iff_right]; done) | ((simp only [Nat.max_le, Nat.add_zero, Nat.zero_add, Nat.add_le_add_iff_right]); (repeat' apply And.intro) <;> omega) | omega)
local macro_rules
  | `(tactic| walk_at "ge") => `(tactic| (refine' ⟨Law.TM.mono ?h1 ?h2 ?h3, ?h4⟩; (case h1 => walk_at "tm"); (case h2 => walk_at "mx"); (case h3 => walk_at "mx"); (case h4 => walk_at "gx")))
local macro_rules
  | `(tactic| walk_at "call") => `(tactic| (with_reducible refine' Law.GX.drawQ ?a1 ?a2 ?a3 ?az; (case a1 => walk_at "gx"); (case a2 => first | decide | omega); (case a3 => first | decide | omega); (intro r S' r0 r1 g)))
local macro_rules
  | `(tactic| walk_at "call") => `(tactic| (with_reducible refine' Law.GX.pickSQ ?a1 ?a2 ?a3 ?a4 ?az; (case a1 => walk_at "gx"); (case a2 => walk_at "tm"; done); (case a3 => first | decide | (simp only [List.length_cons, List.length_nil]; omega)); (case a4 => first | decide | (simp only [List.length_cons, List.length_nil]; omega)); (intro s S' hs g)))
local macro_rules
  | `(tactic| walk_at "call") => `(tactic| (with_reducible refine' Law.GX.pickIQ ?a1 ?a2 ?a3 ?a4 ?az; (case a1 => walk_at "gx"); (case a2 => walk_at "tm"; done); (case a3 => first | decide | (simp only [List.length_cons, List.length_nil]; omega)); (case a4 => first | decide | (simp only [List.length_cons, List.length_nil]; omega)); (intro s S' hs g)))
local macro_rules
  | `(tactic| walk_at "call") => `(tactic| ((with_reducible refine' Law.w_inSt ?a1 ?az); (case a1 => walk_at "tm"; done)))
local macro_rules
  | `(tactic| walk_at "call") => `(tactic| ((with_reducible refine' Mm.w_addt ?a1 ?az); (case a1 => (simp only [List.length_cons, List.length_nil]; decide)); dsimp only [List.cons_append, List.nil_append]))
local macro_rules
  | `(tactic| walk_at "call") => `(tactic| ((with_reducible refine' Mm.w_addl ?a1 ?a2 ?a3 ?az); (case a1 => walk_at "sto"); (case a2 => walk_at "sto"); (case a3 => (simp only [List.length_cons, List.length_nil]; decide)); dsimp only [List.cons_append, List.nil_append]))
local macro_rules
  | `(tactic| walk_at "call") => `(tactic| ((with_reducible refine' Mm.w_append ?a1 ?a2 ?az); (case a1 => walk_at "sto"); (case a2 => (simp only [List.length_cons, List.length_nil]; decide)); dsimp only [List.cons_append, List.nil_append]))
local macro_rules
  | `(tactic| walk_at "gn") => `(tactic| repeat' (first
    | (with_reducible refine Mm.v_if ?_)
    | (walk_at "wp1"; try dsimp only [List.set_cons_zero, List.set_cons_succ, Bool.not_true, Bool.not_false])
    | (walk_at "wp2"; try dsimp only [Bool.not_true, Bool.not_false])
    | (with_reducible refine Mm.br_dec (fun e => ?_) (fun e => ?_))
    | walk_at "call"
    | walk_at "ge"
    | fail))
theorem onceK_mv {k : Kd} {xs r : List MV} (h : k.mv xs = .tup (.str k.word :: r)) : (onceK k).mv xs = .tup (.str (onceK k).word :: r) := by
  cases k with
  | one w s =>
    simp only [onceK]
    split
    · cases h; rfl
    · exact h
  | _ => exact h
theorem hd_len (k : Kd) (xs : List MV) : ∃ r, k.mv xs = .tup (.str k.word :: r) ∧ r.length ≤ xs.length + 2 := by
  cases k <;> exact ⟨_, rfl, by simp⟩
theorem onceK_id {k : Kd} (h : ¬ k.word = "keep") : onceK k = k := by
  cases k with
  | one w s => exact if_neg h
  | _ => rfl
theorem onceK_word {k : Kd} {n : Nat} (h : k.ok n) : (onceK k).word = if k.word = "keep" then ("once" : Str) else k.word := by
  by_cases e : k.word = "keep"
  · rw [if_pos e]
    obtain ⟨s, rfl⟩ := word_keep h e
    have : onceK (.one "keep" s) = .one "once" s := by
      show (if ("keep" : Str) = "keep" then Kd.one "once" s else Kd.one "keep" s) = _
      exact if_pos rfl
    rw [this]; rfl
  · rw [if_neg e, onceK_id e]
theorem worded_ok {cl : Nat → Addr} {jp : Nat} {paths : List Pth} : ∀ (n : Nat) (t : T) (path : Pth) (S : Sto), t.dep ≤ n → t.Ok → t.size ≤ 100000 → path.length + t.dep ≤ 1000 → jp < S.n → S.g jp = .lst (paths.map pM) →
    Ret (m__law_worded cl n [t.mv, pM path, .ref jp, .str "once"] S) fun y S' => y = (chgA (fun q => decide (path ++ q ∈ paths)) t).mv ∧ Ext S S'
  | 0, t, path, S, hd, _, _, _, _, _ => by
    cases t with
    | node k ps => simp only [T.dep] at hd; omega
  | n + 1, .node k ps, path, S, hd, h, hs, hp, hj, gp => by
    have sz : (16777216 : Nat) ≤ sizeLine := by decide
    have hz : T.sizes ps ≤ 100000 := by simp only [T.size] at hs; omega
    have hlen := T.len_sizes ps
    have hml : (T.mvs ps).length = ps.length := by rw [T.mvs_map, List.length_map]
    simp only [T.dep] at hd hp
    rw [m__law_worded_s]
    walk_at "def"
    unfold b__law_worded
    obtain ⟨r, hr, hrl⟩ := hd_len k (T.mvs ps)
    have hmv : (T.node k ps).mv = .tup (.str k.word :: r) := hr
    let S1 : Pth → Bool := fun q => decide (path ++ q ∈ paths)
    let k' : Kd := if S1 [] then onceK k else k
    have hk' : chgA S1 (.node k ps) = .node k' (chgAL S1 0 ps) := rfl
    have hw' : k'.word = if path ∈ paths ∧ k.word = "keep" then ("once" : Str) else k.word := by
      show (if decide (path ++ [] ∈ paths) = true then onceK k else k).word = _
      rw [List.append_nil]
      by_cases h1 : path ∈ paths
      · rw [if_pos (decide_eq_true h1), onceK_word h.k]
        by_cases h2 : k.word = "keep" <;> simp [h1, h2]
      · rw [if_neg (by simp [h1])]; simp [h1]
    refine v_seq (v_asg (Ret.imp (Q := fun (x : MV) S' => x = .str k'.word ∧ S = S') ?_ ?_))
    · rw [hmv]
      refine w_ifV (w_andB (w_blM (w_op2 (w_var (x := pM path) rfl (w_var (x := .ref jp) rfl (w_inD (in_lst gp) ⟨_, rfl, ?_⟩))))))
      rw [hw']
      refine br_dec (fun h1 => ?_) (fun h1 => ?_)
      · walk_at "wq"
        refine br_dec (fun h2 => ?_) (fun h2 => ?_)
        · walk_at "wq"
          exact ⟨by rw [if_pos ⟨h1, h2⟩], rfl⟩
        · walk_at "wq"
          exact ⟨by rw [if_neg (fun z => h2 z.2)], rfl⟩
      · walk_at "wq"
        exact ⟨by rw [if_neg (fun z => h1 z.1)], rfl⟩
    rintro _ _ ⟨rfl, rfl⟩
    walk_at "wq"
    refine (lparts_ok h (by omega)).imp ?_
    rintro _ S2 ⟨j, rfl, gj, j1, j2, E2⟩
    walk_at "wq"
    refine Ret.imp (Q := fun acc S' => acc = T.mvs (chgAL S1 0 ps) ∧ Ext S2 S') ?_ ?_
    · refine w_lc0 (fun i acc S' => Ext S2 S' ∧ acc = T.mvs ((chgAL S1 0 ps).take i)) ⟨Ext.refl, rfl⟩ ?_ ?_
      · rintro i x acc S3 hx ⟨E3, rfl⟩
        obtain ⟨y, hy, rfl⟩ := prI_get hx
        rw [T.mvs_map, List.getElem?_map] at hy
        obtain ⟨t, ht, rfl⟩ := Option.map_eq_some_iff.1 hy
        have htm := List.mem_of_getElem? ht
        have hts := T.size_mem htm
        have htd := T.dep_mem htm
        have hcl := chgAL_get S1 0 ps i
        rw [ht, Nat.zero_add, Option.map_some] at hcl
        refine ⟨ck_l ((E3.2 _ j2).trans gj), _, rfl, w_yes (br_t ?_)⟩
        unfold pM
        walk_at "wq"
        refine w_addt (by rw [List.length_map, List.length_singleton]; omega) ?_
        walk_at "wq"
        have ih := worded_ok (cl := cl) (jp := jp) (paths := paths) n t (path ++ [(i : Int)]) S3 (by omega) (h.ps t htm) (by omega) (by rw [List.length_append, List.length_singleton]; omega) (Nat.lt_of_lt_of_le hj (Nat.le_trans E2.1 E3.1)) (((E2.trans E3).2 _ hj).trans gp)
        unfold pM at ih
        rw [List.map_append] at ih
        refine ih.imp ?_
        rintro _ S4 ⟨rfl, E4⟩
        refine ⟨by rw [T.mvs_map, List.length_map, List.length_take, chgAL_len]; omega, E3.trans E4, ?_⟩
        rw [take_snoc hcl, T.mvs_map, T.mvs_map, List.map_append]
        have e1 : (fun q => decide (path ++ [(i : Int)] ++ q ∈ paths)) = fun p => S1 ((i : Int) :: p) := by
          funext q
          show _ = decide (path ++ (i : Int) :: q ∈ paths)
          rw [List.append_assoc]; rfl
        rw [e1]; rfl
      · rintro acc S3 ⟨E3, rfl⟩
        rw [prI_len, hml, List.take_of_length_le (by rw [chgAL_len]; omega)]
        exact ⟨ck_l ((E3.2 _ j2).trans gj), rfl, E3⟩
    rintro acc S3 ⟨rfl, E3⟩
    walk_at "wq"
    refine (joined_ok (qs := chgAL S1 0 ps) h (by omega) (chgAL_len S1 0 ps) add_same (Nat.lt_succ_self _)).imp ?_
    rintro _ S4 ⟨rfl, E4⟩
    obtain ⟨r', hr', hrl'⟩ := hd_len k (T.mvs (chgAL S1 0 ps))
    have hmv' : (T.node k (chgAL S1 0 ps)).mv = .tup (.str k.word :: r') := hr'
    have hl' : (T.mvs (chgAL S1 0 ps)).length = ps.length := by rw [T.mvs_map, List.length_map, chgAL_len]
    rw [hmv']
    walk_at "wq"
    rw [cutM_from (by decide)]
    refine w_addt (by simp only [List.length_singleton, List.length_drop, List.length_cons, List.length_nil]; omega) ?_
    refine ⟨?_, ((E2.trans E3).add).trans E4⟩
    show MV.tup (.str k'.word :: r') = (chgA S1 (.node k ps)).mv
    rw [hk']
    show _ = k'.mv (T.mvs (chgAL S1 0 ps))
    by_cases hS : S1 [] = true
    · have e1 : k' = onceK k := if_pos hS
      rw [e1]; exact (onceK_mv hr').symm
    · have e1 : k' = k := if_neg hS
      rw [e1]; exact hr'.symm
end Law
end

section
namespace Law
open PySem L2 Mm
/-! the step of the pure proofs -/
local macro_rules
  | `(tactic| walk_at "wp side") => `(tactic| first | assumption | omega | decide)
local macro_rules
  | `(tactic| walk_at "wp1") => `(tactic| with_reducible first
    | refine Mm.v_seq ?_ | refine Mm.v_nx ?_ | refine Mm.v_asg ?_ | refine Mm.v_asgP ?_ | refine Mm.v_ret ?_ | refine Mm.v_retN ?_ | refine Mm.v_drop ?_ | refine Mm.v_set ?_ | refine Mm.v_aug ?_ | refine Mm.v_for ?_ | refine Mm.v_brk ?_ | refine Mm.v_ct ?_
    | refine Mm.w_con ?_ | refine Mm.w_op2 ?_ | refine Mm.w_op1 ?_ | refine Mm.w_opL ?_ | refine Mm.w_cons ?_ | refine Mm.w_nil ?_
    | refine Mm.w_add ?_ | refine Mm.w_sub ?_ | refine Mm.w_neg ?_ | refine Mm.w_lt ?_ | refine Mm.w_le ?_ | refine Mm.w_gt ?_ | refine Mm.w_ge ?_ | refine Mm.w_eqi ?_ | refine Mm.w_nei ?_ | refine Mm.w_eqs ?_ | refine Mm.w_nes ?_ | refine Mm.w_int ?_ | refine Mm.w_abs ?_ | refine Mm.w_isN ?_ | refine Mm.w_notN ?_ | refine Mm.w_min ?_ | refine Mm.w_max ?_
    | refine Mm.w_tru ?_ | refine Mm.w_blM ?_ | refine Mm.w_andB ?_ | refine Mm.w_orB ?_ | refine Mm.w_notB ?_ | refine Mm.w_ifV ?_ | refine Mm.w_andV ?_ | refine Mm.w_orV ?_ | refine Mm.w_notV ?_ | refine Mm.w_truB ?_ | refine Mm.w_truI ?_ | refine Mm.w_truN ?_ | refine Mm.w_truT ?_
    | refine Mm.w_dNewK ?_ | refine Mm.w_dNewT ?_ | refine Mm.w_iter ?_ | refine Mm.w_strS ?_ | refine Mm.w_inT ?_ | refine Mm.w_idxTM ?_ | refine Mm.v_setTM ?_ | refine Mm.v_par ?_ | refine Mm.w_met ?_ | refine Mm.w_itmM ?_ | refine Mm.w_enm ?_ | refine Mm.w_enm2 ?_ | refine Mm.w_zip ?_ | refine Mm.w_rev ?_ | refine Mm.w_bm ?_ | refine Mm.w_lc ?_ | refine Mm.w_yes ?_ | refine Mm.br_t ?_ | refine Mm.br_f ?_ | refine Mm.w_slc ?_ | refine Mm.w_pno ?_ | refine Mm.w_pso ?_ | refine Mm.w_lenT ?_ | refine Mm.w_tupT ?_ | refine Mm.w_lstT ?_ | refine Mm.w_cutT ?_)
local macro_rules
  | `(tactic| walk_at "sto") => `(tactic| first
    | with_reducible assumption
    | with_reducible exact Mm.put_same
    | with_reducible exact Mm.add_same
    | (with_reducible refine (Mm.put_ne (by first | assumption | exact Ne.symm (by assumption) | ((try dsimp only [Mm.Sto.add, Mm.Sto.put]); omega))).trans ?_; walk_at "sto")
    | (with_reducible refine (Mm.add_ne (by first | assumption | exact Ne.symm (by assumption) | ((try dsimp only [Mm.Sto.add, Mm.Sto.put]); omega))).trans ?_; walk_at "sto")
    | fail)
local macro_rules
  | `(tactic| walk_at "lk") => `(tactic| first | with_reducible exact Mm.lk_here | with_reducible exact Mm.lk_nil | with_reducible assumption | (with_reducible apply Mm.lk_next; (· decide +kernel); (· walk_at "lk")) | fail)
local macro_rules
  | `(tactic| walk_at "pf") => `(tactic| first | with_reducible exact Mm.pf_nil | with_reducible exact Mm.pf_here | (with_reducible apply Mm.pf_next; (· decide +kernel); (· walk_at "pf")) | fail)
local macro_rules
  | `(tactic| walk_at "vf") => `(tactic| (refine' Mm.v_fldv ?a1 ?a2 ?a3 ?a4 ?a5 ?a6 ?a7; (case a1 => rfl); (case a2 => rfl); (case a3 => exact Mm.add_same); (case a4 => simp); (case a5 => simp only [List.length_cons, List.length_nil]; decide); (case a6 => walk_at "pf"); rw [Mm.add_put]))
local macro_rules
  | `(tactic| walk_at "tb") => `(tactic| first | with_reducible exact Mm.tb_here | (with_reducible apply Mm.tb_next; (· simp); (· walk_at "tb")) | fail)
local macro_rules
  | `(tactic| walk_at "wp2") => `(tactic| first
    | ((with_reducible apply Mm.w_var); · rfl)
    | ((with_reducible apply Mm.ex_mk); · with_reducible refine Mm.rng1 (by (try simp only [List.length_map]); omega))
    | ((with_reducible apply Mm.ex_mk); · with_reducible refine Mm.rng2 (by (try simp only [List.length_map]); omega))
    | ((with_reducible apply Mm.ex_mk); · rfl)
    | ((with_reducible refine Mm.br_true ?_ ?_); · rfl)
    | ((with_reducible refine Mm.br_false ?_ ?_); · rfl)
    | ((with_reducible refine Mm.w_mod ?_ ?_); · walk_at "wp side")
    | ((with_reducible refine Mm.w_div ?_ ?_ ?_); (· walk_at "wp side"); (· (first | decide | assumption)))
    | ((with_reducible refine Mm.w_mul ?_ ?_); · exact .inl (.inr (by decide)))
    | ((with_reducible refine Mm.w_mul ?_ ?_); · exact .inl (.inl (by decide)))
    | ((with_reducible refine Mm.w_mul ?_ ?_); · exact .inl (.inl (by omega)))
    | ((with_reducible refine Mm.w_mul ?_ ?_); · exact .inl (.inr (by omega)))
    | ((with_reducible refine Mm.w_pow ?_ ?_); · decide)
    | ((with_reducible refine Mm.w_lstV ?_ ?_); · (simp only [List.length_cons, List.length_nil]; decide))
    | ((with_reducible refine Mm.w_tupV ?_ ?_); · (simp only [List.length_cons, List.length_nil]; decide))
    | ((with_reducible apply Mm.w_idxL); (· walk_at "sto"); (· first | exact Mm.atI0 | exact Mm.atI1 | exact Mm.atI2 | exact Mm.atIl | rfl))
    | ((with_reducible apply Mm.w_fld); (· walk_at "sto"); (· simp); (· walk_at "lk"))
    | ((with_reducible apply Mm.w_isI); (· walk_at "sto"); (· walk_at "tb"))
    | ((with_reducible apply Mm.w_idxC); (· walk_at "sto"); (· rfl))
    | ((with_reducible apply Mm.w_idxT); · first | exact Mm.atI0 | exact Mm.atI1 | exact Mm.atI2 | rfl)
    | ((with_reducible apply Mm.w_lenL); · walk_at "sto")
    | ((with_reducible apply Mm.w_lenC); · walk_at "sto")
    | ((with_reducible apply Mm.w_lenK); · walk_at "sto")
    | ((with_reducible apply Mm.w_tupL); · walk_at "sto")
    | ((with_reducible apply Mm.w_lstL); · walk_at "sto")
    | ((with_reducible apply Mm.w_cutL); · walk_at "sto")
    | ((with_reducible apply Mm.w_revL); · walk_at "sto")
    | ((with_reducible apply Mm.w_truL); · walk_at "sto")
    | ((with_reducible apply Mm.ex_mk); · exact Mm.it_lst (by walk_at "sto"))
    | ((with_reducible apply Mm.ex_mk); · exact Mm.it_con (by walk_at "sto"))
    | ((with_reducible apply Mm.ex_mk); · exact Mm.it_en2L (by walk_at "sto"))
    | ((with_reducible apply Mm.ex_mk); · exact Mm.it_en2C (by walk_at "sto"))
    | ((with_reducible apply Mm.ex_mk); · exact Mm.set_lst (by walk_at "sto") rfl)
    | ((with_reducible refine And.intro ?_ ?_); · exact Mm.ty_lst (by walk_at "sto"))
    | fail)
local macro_rules
  | `(tactic| walk_at "wq") => `(tactic| repeat' (first | (walk_at "wp1"; try dsimp only [List.set_cons_zero, List.set_cons_succ, Bool.not_true, Bool.not_false]) | (walk_at "wp2"; try dsimp only [Bool.not_true, Bool.not_false]) | fail))
local macro_rules
  | `(tactic| walk_at "wp") => `(tactic| repeat' (first | (with_reducible refine Mm.v_if ?_) | (walk_at "wp1"; try dsimp only [List.set_cons_zero, List.set_cons_succ, Bool.not_true, Bool.not_false]) | (walk_at "wp2"; try dsimp only [Bool.not_true, Bool.not_false]) | fail))
local macro_rules
  | `(tactic| walk_at "def") => `(tactic| (refine Mm.w_def rfl ?_; simp only [List.map_cons, List.map_nil, List.cons_append, List.nil_append, List.replicate, Nat.reduceSub, List.replicate_succ, List.replicate_zero]))
/-! the steps of the makers of inputs -/
local macro_rules
  | `(tactic| walk_at "gx") => `(tactic| first | with_reducible assumption | (with_reducible refine Law.GX.add ?_; walk_at "gx") | (with_reducible refine' Law.GX.putA ?a1 ?a2; (case a1 => walk_at "gx"); (case a2 => walk_at "gx")) | fail)
local macro_rules
  | `(tactic| walk_at "pk") => `(tactic| exact trivial)
local macro_rules
  | `(tactic| walk_at "tl") => `(tactic| with_unfolding_all exact of_decide_eq_true (p := _ ≤ 1000) rfl)
local macro_rules
  | `(tactic| walk_at "tm") => `(tactic| repeat' (with_reducible first
    | assumption
    | exact Law.TMs.nil | apply Law.TMs.cons
    | exact Law.AllM.nil | apply Law.AllM.cons
    | exact Law.StL.nil | apply Law.StL.cons | exact Law.InL.nil | apply Law.InL.cons
    | exact Law.RowL.nil | apply Law.RowL.cons
    | apply Law.TM.num | apply Law.TM.nam | apply Law.TM.tt | apply Law.TM.ff | apply Law.TM.no | apply Law.TM.ask
    | apply Law.TM.fn | apply Law.TM.dos | apply Law.TM.call | apply Law.TM.op | apply Law.TM.cond | apply Law.TM.wind | apply Law.TM.mark | apply Law.TM.shw
    | apply Law.TM.bnd (.inl rfl) | apply Law.TM.bnd (.inr rfl)
    | apply Law.TM.oneL (by assumption) (by decide +kernel) | apply Law.TMs.cutL (by assumption) (by decide +kernel)
    | apply Law.TM.one (.inl rfl) | apply Law.TM.one (.inr (.inl rfl)) | apply Law.TM.one (.inr (.inr (.inl rfl))) | apply Law.TM.one (.inr (.inr (.inr rfl)))
    | walk_at "pk"
    | walk_at "tl"
    | fail))
local macro_rules
  | `(tactic| walk_at "mx") => `(tactic| first | (simp only [Nat.max_le, Nat.add_zero, Nat.zero_add, Nat.add_le_add_iff_right]; done) | ((simp only [Nat.max_le, Nat.add_zero, Nat.zero_add, Nat.add_le_add_iff_right]); (repeat' apply And.intro) <;> omega) | omega)
local macro_rules
  | `(tactic| walk_at "ge") => `(tactic| (refine' ⟨Law.TM.mono ?h1 ?h2 ?h3, ?h4⟩; (case h1 => walk_at "tm"); (case h2 => walk_at "mx"); (case h3 => walk_at "mx"); (case h4 => walk_at "gx")))
local macro_rules
  | `(tactic| walk_at "call") => `(tactic| (with_reducible refine' Law.GX.drawQ ?a1 ?a2 ?a3 ?az; (case a1 => walk_at "gx"); (case a2 => first | decide | omega); (case a3 => first | decide | omega); (intro r S' r0 r1 g)))
local macro_rules
  | `(tactic| walk_at "call") => `(tactic| (with_reducible refine' Law.GX.pickSQ ?a1 ?a2 ?a3 ?a4 ?az; (case a1 => walk_at "gx"); (case a2 => walk_at "tm"; done); (case a3 => first | decide | (simp only [List.length_cons, List.length_nil]; omega)); (case a4 => first | decide | (simp only [List.length_cons, List.length_nil]; omega)); (intro s S' hs g)))
local macro_rules
  | `(tactic| walk_at "call") => `(tactic| (with_reducible refine' Law.GX.pickIQ ?a1 ?a2 ?a3 ?a4 ?az; (case a1 => walk_at "gx"); (case a2 => walk_at "tm"; done); (case a3 => first | decide | (simp only [List.length_cons, List.length_nil]; omega)); (case a4 => first | decide | (simp only [List.length_cons, List.length_nil]; omega)); (intro s S' hs g)))
local macro_rules
  | `(tactic| walk_at "call") => `(tactic| ((with_reducible refine' Law.w_inSt ?a1 ?az); (case a1 => walk_at "tm"; done)))
local macro_rules
  | `(tactic| walk_at "call") => `(tactic| ((with_reducible refine' Mm.w_addt ?a1 ?az); (case a1 => (simp only [List.length_cons, List.length_nil]; decide)); dsimp only [List.cons_append, List.nil_append]))
local macro_rules
  | `(tactic| walk_at "call") => `(tactic| ((with_reducible refine' Mm.w_addl ?a1 ?a2 ?a3 ?az); (case a1 => walk_at "sto"); (case a2 => walk_at "sto"); (case a3 => (simp only [List.length_cons, List.length_nil]; decide)); dsimp only [List.cons_append, List.nil_append]))
local macro_rules
  | `(tactic| walk_at "call") => `(tactic| ((with_reducible refine' Mm.w_append ?a1 ?a2 ?az); (case a1 => walk_at "sto"); (case a2 => (simp only [List.length_cons, List.length_nil]; decide)); dsimp only [List.cons_append, List.nil_append]))
local macro_rules
  | `(tactic| walk_at "gn") => `(tactic| repeat' (first
    | (with_reducible refine Mm.v_if ?_)
    | (walk_at "wp1"; try dsimp only [List.set_cons_zero, List.set_cons_succ, Bool.not_true, Bool.not_false])
    | (walk_at "wp2"; try dsimp only [Bool.not_true, Bool.not_false])
    | (with_reducible refine Mm.br_dec (fun e => ?_) (fun e => ?_))
    | walk_at "call"
    | walk_at "ge"
    | fail))
/-! ## the maker of trees of any form -/
/-- a maker with a room for forms -/
structure GR (X : List Nat) (S0 : Sto) (h c ro : Nat) (S : Sto) : Prop where
  g : GX X S0 h c S
  r : ∃ i : Int, S.g ro = .lst [.int i]
  lt : ro < S.n
  ne : ro ≠ h
  mem : ro ∈ X
section
variable {X : List Nat} {S0 S S' : Sto} {h c ro : Nat} {xs : List MV} {Q : MV → Sto → Prop} {cl : Nat → Addr}
theorem GR.but (G : GR X S0 h c ro S) (g : GX X S0 h c S') (b : But h S S') : GR X S0 h c ro S' := by
  obtain ⟨i, hi⟩ := G.r
  exact ⟨g, ⟨i, (b.2 ro G.ne).trans hi⟩, by rw [b.1]; exact G.lt, G.ne, G.mem⟩
theorem GR.drawQ {many : Int} (G : GR X S0 h c ro S) (h0 : 0 < many) (h1 : many < 2 ^ 62) (q : ∀ r S', 0 ≤ r → r < many → GR X S0 h c ro S' → But h S S' → Q (.int r) S') : Ret (m__law_draw [.ref h, .int many] S) Q :=
  (G.g.draw h0 h1).imp fun _ _ ⟨⟨r, r0, r1, e⟩, g, b⟩ => by subst e; exact q r _ r0 r1 (G.but g b) b
theorem GR.pickSQ {ss : List Str} (G : GR X S0 h c ro S) (hs : StL xs ss) (h0 : 0 < ss.length) (h1 : ss.length < 1000000) (q : ∀ s S', s ∈ ss → GR X S0 h c ro S' → Q (.str s) S') : Ret (m__law_pick [.ref h, .tup xs] S) Q :=
  (G.g.pickS hs h0 h1).imp fun _ _ ⟨⟨s, r0, e⟩, g, b⟩ => by subst e; exact q s _ r0 (G.but g b)
theorem GR.add {o : MO} (G : GR X S0 h c ro S) : GR X S0 h c ro (S.add o) := by
  obtain ⟨i, hi⟩ := G.r
  exact ⟨G.g.add, ⟨i, (add_ne (Nat.ne_of_lt G.lt)).trans hi⟩, Nat.lt_succ_of_lt G.lt, G.ne, G.mem⟩
theorem GR.putR {i : Int} (G : GR X S0 h c ro S) : GR X S0 h c ro (S.put ro (.lst [.int i])) := ⟨G.g.put G.mem G.ne, ⟨i, put_same⟩, G.lt, G.ne, G.mem⟩
theorem GR.putA {o : MO} {k : Nat} (G : GR X S0 h c ro S) (hk : S0.n ≤ k) (hr : ro < k) (hh : h < k) (hc : c < k) : GR X S0 h c ro (S.put k o) := by
  obtain ⟨i, hi⟩ := G.r
  exact ⟨⟨G.g.hd.put (by omega) (by omega), ⟨G.g.ex.1, fun j hj hx => (put_ne (by omega)).trans (G.g.ex.2 j hj hx)⟩, G.g.mem, G.g.out⟩, ⟨i, (put_ne (by omega)).trans hi⟩, G.lt, G.ne, G.mem⟩
/-- what a form of a drawn tree is -/
def PA (k : Kd) (n : Nat) : Prop := KSt k ∧ n ≤ 11
structure Nms (ns : List Str) : Prop where
  ne : ns ≠ []
  ok : ∀ s ∈ ns, PyData.strOk s = true
  few : ns.length ≤ 100
theorem leaf_ok {ns : List Str} (N : Nms ns) (G : GR X S0 h c ro S) : Ret (m__law_any_leaf cl [.ref h, .tup (ns.map .str)] S) fun x S' => TM PA 1 1 x ∧ GR X S0 h c ro S' := by
  have hpos : 0 < ns.length := List.length_pos_iff.2 N.ne
  have hfew := N.few
  unfold m__law_any_leaf
  walk_at "def"
  unfold b__law_any_leaf
  walk_at "wq"
  refine G.drawQ (by decide) (by decide) fun r S1 r0 r1 G1 _ => ?_
  walk_at "wq"
  refine v_if ?_
  walk_at "wq"
  refine br_dec (fun e => ?_) (fun e => ?_)
  · walk_at "wq"
    refine G1.pickSQ (StL.of ns) hpos (by omega) fun s S2 hs G2 => ?_
    walk_at "wq"
    exact ⟨TM.nam ⟨N.ok s hs, by omega⟩, G2⟩
  walk_at "wq"
  refine v_if ?_
  walk_at "wq"
  refine br_dec (fun e => ?_) (fun e => ?_)
  · walk_at "wq"
    refine G1.drawQ (by decide) (by decide) fun a S2 _ _ G2 _ => ?_
    walk_at "wq"
    refine G2.drawQ (by decide) (by decide) fun b S3 _ _ G3 _ => ?_
    walk_at "wq"
    refine G3.drawQ (by decide) (by decide) fun i S4 i0 i1 G4 _ => ?_
    have hi : ∃ z : Int, atI [MV.int 0, .int (10 ^ (9 : Int).toNat), .int a, .int b] i = some (.int z) := by
      obtain ⟨x, hx, _, hat⟩ := atI_mem (xs := [MV.int 0, .int (10 ^ (9 : Int).toNat), .int a, .int b]) i0 i1
      simp only [List.mem_cons, List.not_mem_nil, or_false] at hx
      rcases hx with rfl | rfl | rfl | rfl <;> exact ⟨_, hat⟩
    obtain ⟨z, hz⟩ := hi
    refine w_idxT hz ?_
    walk_at "wq"
    refine G4.drawQ (by decide) (by decide) fun d S5 _ _ G5 _ => ?_
    walk_at "wq"
    refine br_dec (fun e => ?_) (fun e => ?_)
    · walk_at "wq"
      exact ⟨TM.num ⟨trivial, by omega⟩, G5⟩
    · walk_at "wq"
      exact ⟨TM.num ⟨trivial, by omega⟩, G5⟩
  walk_at "wq"
  refine G1.drawQ (by decide) (by decide) fun i S2 i0 i1 G2 _ => ?_
  have p0 : ∀ {w : Str}, PA (.wd w) 0 := ⟨trivial, by omega⟩
  have hi : ∃ xs, atI [MV.tup [.tup [.str "true"], .tup [.str "false"], .tup [.str "none"]], .tup [.tup [.str "ask"], .tup [.str "none"], .tup [.str "true"]]] i = some (.tup xs) ∧ AllM PA 1 1 xs ∧ xs.length = 3 := by
    obtain ⟨x, hx, _, hat⟩ := atI_mem (xs := [MV.tup [.tup [.str "true"], .tup [.str "false"], .tup [.str "none"]], .tup [.tup [.str "ask"], .tup [.str "none"], .tup [.str "true"]]]) i0 i1
    simp only [List.mem_cons, List.not_mem_nil, or_false] at hx
    rcases hx with rfl | rfl
    · exact ⟨_, hat, .cons (TM.tt p0) (.cons (TM.ff p0) (.cons (TM.no p0) .nil)), rfl⟩
    · exact ⟨_, hat, .cons (TM.ask p0) (.cons (TM.no p0) (.cons (TM.tt p0) .nil)), rfl⟩
  obtain ⟨ys, hz, hA, hl⟩ := hi
  refine w_idxT hz ?_
  walk_at "wq"
  exact w_idxA hA (by omega) (by rw [hl]; omega) fun x t => ⟨t, G2⟩
theorem erase_map {al be : Type} (f : al → be) : ∀ (l : List al) (i : Nat), (l.map f).eraseIdx i = (l.eraseIdx i).map f
  | [], _ => rfl
  | a :: l, 0 => rfl
  | a :: l, i + 1 => by simp only [List.map_cons, List.eraseIdx_cons_succ, erase_map f l i]
theorem inL_strs {S : Sto} {a : Nat} {s : Str} {l : List Str} (g : S.g a = .lst (l.map .str)) : inO (.str s) (.ref a) S = some (decide (s ∈ l)) := by
  show (match S.g a with | .lst xs => inFl (.str s) xs | .con xs => inFl (.str s) xs | .dK kvs => _ | _ => _) = _
  rw [g]; exact inFl_strs s l
theorem names_ok {ns : List Str} {most : Int} (N : Nms ns) (h0 : 0 ≤ most) (h1 : most ≤ 100) (G : GR X S0 h c ro S) :
    Ret (m__law_any_names cl [.ref h, .tup (ns.map .str), .int most] S) fun x S' => (∃ ms : List Str, x = .tup (ms.map .str) ∧ (∀ s ∈ ms, s ∈ ns) ∧ (ms.length : Int) ≤ most) ∧ GR X S0 h c ro S' := by
  have sz : (16777216 : Nat) ≤ sizeLine := by decide
  have hfew := N.few
  have hl0 := G.g.lt
  have hl1 := G.g.ltc
  have hl2 := G.g.le
  have hlr := G.lt
  unfold m__law_any_names
  walk_at "def"
  unfold b__law_any_names
  walk_at "wq"
  refine v_loop0 (fun i e S' => GR X S0 h c ro S' ∧ S.n < S'.n ∧ ∃ (l : List Str) (x4 x5 x6 : Option MV), e = [some (.ref h), some (.tup (ns.map .str)), some (.int most), some (.ref S.n), x4, x5, x6] ∧ S'.g S.n = .lst (l.map .str) ∧ (∀ s ∈ l, s ∈ ns) ∧ l.length ≤ i) ⟨G.add, Nat.lt_succ_self _, [], _, _, _, rfl, add_same, fun s hs => (by cases hs), Nat.le_refl _⟩ ?_ ?_
  · rintro i x e S1 hx ⟨G1, n1, l, x4, x5, x6, rfl, g1, hm, hl⟩
    obtain ⟨s, hs, rfl, hsm⟩ := get_map hx
    have hi := (List.getElem?_eq_some_iff.1 hs).1
    refine ⟨ck_n, _, rfl, ?_⟩
    refine v_if ?_
    walk_at "wq"
    refine w_nin (inL_strs g1) ?_
    refine ⟨_, rfl, br_nd (fun e => ?_) (fun e => ?_)⟩
    · walk_at "wq"
      refine w_append g1 (by rw [List.length_map]; omega) ?_
      refine ⟨G1.putA (by omega) hlr hl0 hl1, n1, l ++ [s], _, _, _, rfl, by rw [put_same, List.map_append]; rfl, fun z hz => ?_, by rw [List.length_append, List.length_singleton]; omega⟩
      rcases List.mem_append.1 hz with hz | hz
      · exact hm z hz
      · rw [List.mem_singleton.1 hz]; exact hsm
    · walk_at "wq"
      exact ⟨G1, n1, l, _, _, _, rfl, g1, hm, by omega⟩
  · rintro e S1 ⟨G1, n1, l, x4, x5, x6, rfl, g1, hm, hl⟩
    rw [List.length_map] at hl
    refine ⟨ck_n, ?_⟩
    walk_at "wq"
    refine G1.drawQ (by omega) (by omega) fun r S2 r0 r1 G2 B2 => ?_
    have g2 := (B2.2 S.n (by omega)).trans g1
    have n2 : S.n < S2.n := by rw [B2.1]; exact n1
    walk_at "wq"
    rw [List.length_map]
    have hmany : ∃ m : Nat, (if (l.length : Int) < r then (l.length : Int) else r) = m ∧ m ≤ l.length ∧ (m : Int) ≤ most := by
      split
      · exact ⟨l.length, rfl, Nat.le_refl _, by omega⟩
      · exact ⟨r.toNat, by omega, by omega, by omega⟩
    obtain ⟨m, e1, hm1, hm2⟩ := hmany
    rw [e1]
    rw [Int.toNat_natCast]
    refine Ret.imp (Q := fun acc S' => GR X S0 h c ro S' ∧ ∃ ms : List Str, acc = ms.map .str ∧ (∀ s ∈ ms, s ∈ ns) ∧ ms.length = m) ?_ ?_
    · refine w_lc0 (fun i acc S' => GR X S0 h c ro S' ∧ S.n < S'.n ∧ ∃ ms l' : List Str, acc = ms.map .str ∧ (∀ s ∈ ms, s ∈ ns) ∧ ms.length = i ∧ S'.g S.n = .lst (l'.map .str) ∧ (∀ s ∈ l', s ∈ ns) ∧ l'.length + i = l.length) ⟨G2, n2, [], l, rfl, fun s hs => (by cases hs), rfl, g2, hm, rfl⟩ ?_ ?_
      · rintro i x acc S3 hx ⟨G3, n3, ms, l', rfl, a1, a2, g3, a3, a4⟩
        obtain ⟨hi, rfl⟩ := rngL_get hx
        refine ⟨ck_n, _, rfl, w_yes (br_t ?_)⟩
        simp only [wipeE, List.set_cons_zero, List.set_cons_succ, List.foldl_cons, List.foldl_nil]
        refine w_bm (w_var rfl ⟨ty_lst g3, ?_⟩)
        walk_at "wq"
        rw [List.length_map]
        refine G3.drawQ (by omega) (by omega) fun d S4 d0 d1 G4 B4 => ?_
        have g4 := (B4.2 S.n (by omega)).trans g3
        walk_at "wq"
        have hd : d.toNat < l'.length := by omega
        refine w_popAt (y := .str l'[d.toNat]) g4 ⟨d0, by omega⟩ (by rw [List.getElem?_map, List.getElem?_eq_getElem hd]; rfl) ?_
        refine ⟨by rw [List.length_map]; omega, G4.putA (by omega) hlr hl0 hl1, by rw [Sto.put_n, B4.1]; exact n3, ms ++ [l'[d.toNat]], l'.eraseIdx d.toNat, by rw [List.map_append]; rfl, fun s hs => ?_, by rw [List.length_append, List.length_singleton, a2], ?_, fun s hs => a3 s (List.mem_of_mem_eraseIdx hs), by rw [List.length_eraseIdx_of_lt hd]; omega⟩
        · rcases List.mem_append.1 hs with hs | hs
          · exact a1 s hs
          · rw [List.mem_singleton.1 hs]; exact a3 _ (List.getElem_mem hd)
        · rw [put_same, erase_map]
      · rintro acc S3 ⟨G3, n3, ms, l', rfl, a1, a2, g3, a3, a4⟩
        rw [rngL_len] at a2
        exact ⟨ck_n, G3, ms, rfl, a1, a2⟩
    rintro acc S3 ⟨G3, ms, rfl, a1, a2⟩
    walk_at "wq"
    exact ⟨⟨ms, rfl, a1, by omega⟩, G3.add⟩
end
end Law
end

section
namespace Law
open PySem L2 Mm
/-! the step of the pure proofs -/
local macro_rules
  | `(tactic| walk_at "wp side") => `(tactic| first | assumption | omega | decide)
local macro_rules
  | `(tactic| walk_at "wp1") => `(tactic| with_reducible first
    | refine Mm.v_seq ?_ | refine Mm.v_nx ?_ | refine Mm.v_asg ?_ | refine Mm.v_asgP ?_ | refine Mm.v_ret ?_ | refine Mm.v_retN ?_ | refine Mm.v_drop ?_ | refine Mm.v_set ?_ | refine Mm.v_aug ?_ | refine Mm.v_for ?_ | refine Mm.v_brk ?_ | refine Mm.v_ct ?_
    | refine Mm.w_con ?_ | refine Mm.w_op2 ?_ | refine Mm.w_op1 ?_ | refine Mm.w_opL ?_ | refine Mm.w_cons ?_ | refine Mm.w_nil ?_
    | refine Mm.w_add ?_ | refine Mm.w_sub ?_ | refine Mm.w_neg ?_ | refine Mm.w_lt ?_ | refine Mm.w_le ?_ | refine Mm.w_gt ?_ | refine Mm.w_ge ?_ | refine Mm.w_eqi ?_ | refine Mm.w_nei ?_ | refine Mm.w_eqs ?_ | refine Mm.w_nes ?_ | refine Mm.w_int ?_ | refine Mm.w_abs ?_ | refine Mm.w_isN ?_ | refine Mm.w_notN ?_ | refine Mm.w_min ?_ | refine Mm.w_max ?_
    | refine Mm.w_tru ?_ | refine Mm.w_blM ?_ | refine Mm.w_andB ?_ | refine Mm.w_orB ?_ | refine Mm.w_notB ?_ | refine Mm.w_ifV ?_ | refine Mm.w_andV ?_ | refine Mm.w_orV ?_ | refine Mm.w_notV ?_ | refine Mm.w_truB ?_ | refine Mm.w_truI ?_ | refine Mm.w_truN ?_ | refine Mm.w_truT ?_
    | refine Mm.w_dNewK ?_ | refine Mm.w_dNewT ?_ | refine Mm.w_iter ?_ | refine Mm.w_strS ?_ | refine Mm.w_inT ?_ | refine Mm.w_idxTM ?_ | refine Mm.v_setTM ?_ | refine Mm.v_par ?_ | refine Mm.w_met ?_ | refine Mm.w_itmM ?_ | refine Mm.w_enm ?_ | refine Mm.w_enm2 ?_ | refine Mm.w_zip ?_ | refine Mm.w_rev ?_ | refine Mm.w_bm ?_ | refine Mm.w_lc ?_ | refine Mm.w_yes ?_ | refine Mm.br_t ?_ | refine Mm.br_f ?_ | refine Mm.w_slc ?_ | refine Mm.w_pno ?_ | refine Mm.w_pso ?_ | refine Mm.w_lenT ?_ | refine Mm.w_tupT ?_ | refine Mm.w_lstT ?_ | refine Mm.w_cutT ?_)
local macro_rules
  | `(tactic| walk_at "sto") => `(tactic| first
    | with_reducible assumption
    | with_reducible exact Mm.put_same
    | with_reducible exact Mm.add_same
    | (with_reducible refine (Mm.put_ne (by first | assumption | exact Ne.symm (by assumption) | ((try dsimp only [Mm.Sto.add, Mm.Sto.put]); omega))).trans ?_; walk_at "sto")
    | (with_reducible refine (Mm.add_ne (by first | assumption | exact Ne.symm (by assumption) | ((try dsimp only [Mm.Sto.add, Mm.Sto.put]); omega))).trans ?_; walk_at "sto")
    | fail)
local macro_rules
  | `(tactic| walk_at "lk") => `(tactic| first | with_reducible exact Mm.lk_here | with_reducible exact Mm.lk_nil | with_reducible assumption | (with_reducible apply Mm.lk_next; (· decide +kernel); (· walk_at "lk")) | fail)
local macro_rules
  | `(tactic| walk_at "pf") => `(tactic| first | with_reducible exact Mm.pf_nil | with_reducible exact Mm.pf_here | (with_reducible apply Mm.pf_next; (· decide +kernel); (· walk_at "pf")) | fail)
local macro_rules
  | `(tactic| walk_at "vf") => `(tactic| (refine' Mm.v_fldv ?a1 ?a2 ?a3 ?a4 ?a5 ?a6 ?a7; (case a1 => rfl); (case a2 => rfl); (case a3 => exact Mm.add_same); (case a4 => simp); (case a5 => simp only [List.length_cons, List.length_nil]; decide); (case a6 => walk_at "pf"); rw [Mm.add_put]))
local macro_rules
  | `(tactic| walk_at "tb") => `(tactic| first | with_reducible exact Mm.tb_here | (with_reducible apply Mm.tb_next; (· simp); (· walk_at "tb")) | fail)
local macro_rules
  | `(tactic| walk_at "wp2") => `(tactic| first
    | ((with_reducible apply Mm.w_var); · rfl)
    | ((with_reducible apply Mm.ex_mk); · with_reducible refine Mm.rng1 (by (try simp only [List.length_map]); omega))
    | ((with_reducible apply Mm.ex_mk); · with_reducible refine Mm.rng2 (by (try simp only [List.length_map]); omega))
    | ((with_reducible apply Mm.ex_mk); · rfl)
    | ((with_reducible refine Mm.br_true ?_ ?_); · rfl)
    | ((with_reducible refine Mm.br_false ?_ ?_); · rfl)
    | ((with_reducible refine Mm.w_mod ?_ ?_); · walk_at "wp side")
    | ((with_reducible refine Mm.w_div ?_ ?_ ?_); (· walk_at "wp side"); (· (first | decide | assumption)))
    | ((with_reducible refine Mm.w_mul ?_ ?_); · exact .inl (.inr (by decide)))
    | ((with_reducible refine Mm.w_mul ?_ ?_); · exact .inl (.inl (by decide)))
    | ((with_reducible refine Mm.w_mul ?_ ?_); · exact .inl (.inl (by omega)))
    | ((with_reducible refine Mm.w_mul ?_ ?_); · exact .inl (.inr (by omega)))
    | ((with_reducible refine Mm.w_pow ?_ ?_); · decide)
    | ((with_reducible refine Mm.w_lstV ?_ ?_); · (simp only [List.length_cons, List.length_nil]; decide))
    | ((with_reducible refine Mm.w_tupV ?_ ?_); · (simp only [List.length_cons, List.length_nil]; decide))
    | ((with_reducible apply Mm.w_idxL); (· walk_at "sto"); (· first | exact Mm.atI0 | exact Mm.atI1 | exact Mm.atI2 | exact Mm.atIl | rfl))
    | ((with_reducible apply Mm.w_fld); (· walk_at "sto"); (· simp); (· walk_at "lk"))
    | ((with_reducible apply Mm.w_isI); (· walk_at "sto"); (· walk_at "tb"))
    | ((with_reducible apply Mm.w_idxC); (· walk_at "sto"); (· rfl))
    | ((with_reducible apply Mm.w_idxT); · first | exact Mm.atI0 | exact Mm.atI1 | exact Mm.atI2 | rfl)
    | ((with_reducible apply Mm.w_lenL); · walk_at "sto")
    | ((with_reducible apply Mm.w_lenC); · walk_at "sto")
    | ((with_reducible apply Mm.w_lenK); · walk_at "sto")
    | ((with_reducible apply Mm.w_tupL); · walk_at "sto")
    | ((with_reducible apply Mm.w_lstL); · walk_at "sto")
    | ((with_reducible apply Mm.w_cutL); · walk_at "sto")
    | ((with_reducible apply Mm.w_revL); · walk_at "sto")
    | ((with_reducible apply Mm.w_truL); · walk_at "sto")
    | ((with_reducible apply Mm.ex_mk); · exact Mm.it_lst (by walk_at "sto"))
    | ((with_reducible apply Mm.ex_mk); · exact Mm.it_con (by walk_at "sto"))
    | ((with_reducible apply Mm.ex_mk); · exact Mm.it_en2L (by walk_at "sto"))
    | ((with_reducible apply Mm.ex_mk); · exact Mm.it_en2C (by walk_at "sto"))
    | ((with_reducible apply Mm.ex_mk); · exact Mm.set_lst (by walk_at "sto") rfl)
    | ((with_reducible refine And.intro ?_ ?_); · exact Mm.ty_lst (by walk_at "sto"))
    | fail)
local macro_rules
  | `(tactic| walk_at "wq") => `(tactic| repeat' (first | (walk_at "wp1"; try dsimp only [List.set_cons_zero, List.set_cons_succ, Bool.not_true, Bool.not_false]) | (walk_at "wp2"; try dsimp only [Bool.not_true, Bool.not_false]) | fail))
local macro_rules
  | `(tactic| walk_at "wp") => `(tactic| repeat' (first | (with_reducible refine Mm.v_if ?_) | (walk_at "wp1"; try dsimp only [List.set_cons_zero, List.set_cons_succ, Bool.not_true, Bool.not_false]) | (walk_at "wp2"; try dsimp only [Bool.not_true, Bool.not_false]) | fail))
local macro_rules
  | `(tactic| walk_at "def") => `(tactic| (refine Mm.w_def rfl ?_; simp only [List.map_cons, List.map_nil, List.cons_append, List.nil_append, List.replicate, Nat.reduceSub, List.replicate_succ, List.replicate_zero]))
/-! the steps of the makers of inputs -/
local macro_rules
  | `(tactic| walk_at "gx") => `(tactic| first | with_reducible assumption | (with_reducible refine Law.GX.add ?_; walk_at "gx") | (with_reducible refine' Law.GX.putA ?a1 ?a2; (case a1 => walk_at "gx"); (case a2 => walk_at "gx")) | fail)
local macro_rules
  | `(tactic| walk_at "pk") => `(tactic| exact trivial)
local macro_rules
  | `(tactic| walk_at "tl") => `(tactic| with_unfolding_all exact of_decide_eq_true (p := _ ≤ 1000) rfl)
local macro_rules
  | `(tactic| walk_at "tm") => `(tactic| repeat' (with_reducible first
    | assumption
    | exact Law.TMs.nil | apply Law.TMs.cons
    | exact Law.AllM.nil | apply Law.AllM.cons
    | exact Law.StL.nil | apply Law.StL.cons | exact Law.InL.nil | apply Law.InL.cons
    | exact Law.RowL.nil | apply Law.RowL.cons
    | apply Law.TM.num | apply Law.TM.nam | apply Law.TM.tt | apply Law.TM.ff | apply Law.TM.no | apply Law.TM.ask
    | apply Law.TM.fn | apply Law.TM.dos | apply Law.TM.call | apply Law.TM.op | apply Law.TM.cond | apply Law.TM.wind | apply Law.TM.mark | apply Law.TM.shw
    | apply Law.TM.bnd (.inl rfl) | apply Law.TM.bnd (.inr rfl)
    | apply Law.TM.oneL (by assumption) (by decide +kernel) | apply Law.TMs.cutL (by assumption) (by decide +kernel)
    | apply Law.TM.one (.inl rfl) | apply Law.TM.one (.inr (.inl rfl)) | apply Law.TM.one (.inr (.inr (.inl rfl))) | apply Law.TM.one (.inr (.inr (.inr rfl)))
    | walk_at "pk"
    | walk_at "tl"
    | fail))
local macro_rules
  | `(tactic| walk_at "mx") => `(tactic| first | (simp only [Nat.max_le, Nat.add_zero, Nat.zero_add, Nat.add_le_add_iff_right]; done) | ((simp only [Nat.max_le, Nat.add_zero, Nat.zero_add, Nat.add_le_add_iff_right]); (repeat' apply And.intro) <;> omega) | omega)
local macro_rules
  | `(tactic| walk_at "ge") => `(tactic| (refine' ⟨Law.TM.mono ?h1 ?h2 ?h3, ?h4⟩; (case h1 => walk_at "tm"); (case h2 => walk_at "mx"); (case h3 => walk_at "mx"); (case h4 => walk_at "gx")))
local macro_rules
  | `(tactic| walk_at "call") => `(tactic| (with_reducible refine' Law.GX.drawQ ?a1 ?a2 ?a3 ?az; (case a1 => walk_at "gx"); (case a2 => first | decide | omega); (case a3 => first | decide | omega); (intro r S' r0 r1 g)))
local macro_rules
  | `(tactic| walk_at "call") => `(tactic| (with_reducible refine' Law.GX.pickSQ ?a1 ?a2 ?a3 ?a4 ?az; (case a1 => walk_at "gx"); (case a2 => walk_at "tm"; done); (case a3 => first | decide | (simp only [List.length_cons, List.length_nil]; omega)); (case a4 => first | decide | (simp only [List.length_cons, List.length_nil]; omega)); (intro s S' hs g)))
local macro_rules
  | `(tactic| walk_at "call") => `(tactic| (with_reducible refine' Law.GX.pickIQ ?a1 ?a2 ?a3 ?a4 ?az; (case a1 => walk_at "gx"); (case a2 => walk_at "tm"; done); (case a3 => first | decide | (simp only [List.length_cons, List.length_nil]; omega)); (case a4 => first | decide | (simp only [List.length_cons, List.length_nil]; omega)); (intro s S' hs g)))
local macro_rules
  | `(tactic| walk_at "call") => `(tactic| ((with_reducible refine' Law.w_inSt ?a1 ?az); (case a1 => walk_at "tm"; done)))
local macro_rules
  | `(tactic| walk_at "call") => `(tactic| ((with_reducible refine' Mm.w_addt ?a1 ?az); (case a1 => (simp only [List.length_cons, List.length_nil]; decide)); dsimp only [List.cons_append, List.nil_append]))
local macro_rules
  | `(tactic| walk_at "call") => `(tactic| ((with_reducible refine' Mm.w_addl ?a1 ?a2 ?a3 ?az); (case a1 => walk_at "sto"); (case a2 => walk_at "sto"); (case a3 => (simp only [List.length_cons, List.length_nil]; decide)); dsimp only [List.cons_append, List.nil_append]))
local macro_rules
  | `(tactic| walk_at "call") => `(tactic| ((with_reducible refine' Mm.w_append ?a1 ?a2 ?az); (case a1 => walk_at "sto"); (case a2 => (simp only [List.length_cons, List.length_nil]; decide)); dsimp only [List.cons_append, List.nil_append]))
local macro_rules
  | `(tactic| walk_at "gn") => `(tactic| repeat' (first
    | (with_reducible refine Mm.v_if ?_)
    | (walk_at "wp1"; try dsimp only [List.set_cons_zero, List.set_cons_succ, Bool.not_true, Bool.not_false])
    | (walk_at "wp2"; try dsimp only [Bool.not_true, Bool.not_false])
    | (with_reducible refine Mm.br_dec (fun e => ?_) (fun e => ?_))
    | walk_at "call"
    | walk_at "ge"
    | fail))
/-! the step of the tree proofs: words are known -/
local macro_rules
  | `(tactic| walk_at "in") => `(tactic| first | (refine Mm.w_inFl (b := true) (by decide +kernel) ?_) | (refine Mm.w_inFl (b := false) (by decide +kernel) ?_))
local macro_rules
  | `(tactic| walk_at "tr") => `(tactic| ((try walk_at "wp"); repeat' (first | (walk_at "in"; try walk_at "wp") | fail)))
section
variable {X : List Nat} {S0 S S' : Sto} {h c ro : Nat} {cl : Nat → Addr}
/-- how many forms and leaves at most -/
def Bd : Nat → Nat
  | 0 => 1
  | d + 1 => 40 + 11 * Bd d
/-- some trees, one behind the other -/
theorem anys_ok {r : List MV → Sto → Res MV} {D B m : Nat} {e : Sl} {i : Int} {ns : List Str} (hr : ∀ S, GR X S0 h c ro S → Ret (r [.ref h, .int (i - 1), .tup (ns.map .str), .ref ro] S) fun x S' => TM PA B D x ∧ GR X S0 h c ro S')
    (e0 : e[0]? = some (some (.ref h))) (e1 : e[1]? = some (some (.int i))) (e2 : e[2]? = some (some (.tup (ns.map .str)))) (e3 : e[3]? = some (some (.ref ro))) (hm : m ≤ 20) (G : GR X S0 h c ro S) :
    Ret (lcLoop [] (.nm 12) yesM (opL r (consM (varM 0) (consM (op2 subV (varM 1) (conM (.int 1))) (consM (varM 2) (consM (varM 3) nilM))))) e (rngL 0 m) [] S) fun acc S' => (acc.length = m ∧ TMs PA (m * B) D acc) ∧ GR X S0 h c ro S' := by
  have sz : (16777216 : Nat) ≤ sizeLine := by decide
  refine w_lc0 (fun n acc S' => (acc.length = n ∧ TMs PA (n * B) D acc) ∧ GR X S0 h c ro S') ⟨⟨rfl, TMs.nil.mono (Nat.zero_le _) (Nat.zero_le _)⟩, G⟩ ?_ ?_
  · rintro n x acc S1 hx ⟨⟨hl, ht⟩, G1⟩
    obtain ⟨hn, rfl⟩ := rngL_get hx
    refine ⟨ck_n, _, rfl, w_yes (br_t (w_opL (w_cons (w_var (x := .ref h) (by rw [List.getElem?_set_ne (by decide)]; exact e0) (w_cons (w_op2 (w_var (x := .int i) (by rw [List.getElem?_set_ne (by decide)]; exact e1) (w_con (w_sub (w_cons (w_var (x := .tup (ns.map .str)) (by rw [List.getElem?_set_ne (by decide)]; exact e2) (w_cons (w_var (x := .ref ro) (by rw [List.getElem?_set_ne (by decide)]; exact e3) (w_nil ?_))))))))))))))⟩
    refine (hr S1 G1).imp ?_
    rintro y S2 ⟨ty, G2⟩
    refine ⟨by omega, ⟨by rw [List.length_append, hl]; rfl, ?_⟩, G2⟩
    refine (ht.app (.cons ty .nil)).mono ?_ ?_
    · rw [Nat.succ_mul]; omega
    · simp
  · rintro acc S1 ⟨⟨hl, ht⟩, G1⟩
    rw [rngL_len] at hl ht
    exact ⟨ck_n, ⟨hl, ht⟩, G1⟩
/-- some rows -/
theorem arows_ok {m2 : EM} {D B : Nat} {e : Sl} {ms : List Str} (he : 11 < e.length) (hr : ∀ s S, GR X S0 h c ro S → Ret (m2 (e.set 11 (some (.str s))) S) fun x S' => TM PA B D x ∧ GR X S0 h c ro S') (hm : ms.length ≤ 20) (G : GR X S0 h c ro S) :
    Ret (lcLoop [] (.nm 11) yesM (opL tupV (consM (varM 11) (consM m2 nilM))) e (ms.map .str) [] S) fun acc S' => (∃ xs, RowL acc ms xs ∧ TMs PA (ms.length * B) D xs) ∧ GR X S0 h c ro S' := by
  have sz : (16777216 : Nat) ≤ sizeLine := by decide
  have snoc : ∀ {rs : List MV} {ss : List Str} {xs : List MV} {s : Str} {x : MV}, RowL rs ss xs → RowL (rs ++ [.tup [.str s, x]]) (ss ++ [s]) (xs ++ [x]) := by
    intro rs ss xs s x hh
    induction hh with
    | nil => exact .cons .nil
    | cons _ ih => exact .cons ih
  refine w_lc0 (fun n acc S' => (acc.length = n ∧ ∃ xs, RowL acc (ms.take n) xs ∧ TMs PA (n * B) D xs) ∧ GR X S0 h c ro S') ⟨⟨rfl, [], by simpa using RowL.nil, TMs.nil.mono (Nat.zero_le _) (Nat.zero_le _)⟩, G⟩ ?_ ?_
  · rintro n x acc S1 hx ⟨⟨hl, xs, hR, ht⟩, G1⟩
    obtain ⟨s, hs, rfl, _⟩ := get_map hx
    have hn := (List.getElem?_eq_some_iff.1 hs).1
    refine ⟨ck_n, _, rfl, w_yes (br_t (w_opL (w_cons (w_var (x := .str s) (List.getElem?_set_self he) (w_cons ?_)))))⟩
    refine (hr s S1 G1).imp ?_
    rintro y S2 ⟨ty, G2⟩
    refine w_nil (w_tupV (by simp only [List.length_cons, List.length_nil]; decide) ?_)
    refine ⟨by omega, ⟨by rw [List.length_append, hl]; rfl, xs ++ [y], by rw [take_snoc hs]; exact snoc hR, ?_⟩, G2⟩
    refine (ht.app (.cons ty .nil)).mono ?_ ?_
    · rw [Nat.succ_mul]; omega
    · simp
  · rintro acc S1 ⟨⟨hl, xs, hR, ht⟩, G1⟩
    rw [List.length_map] at hR ht
    rw [List.take_length] at hR
    exact ⟨ck_n, ⟨xs, hR, ht⟩, G1⟩
theorem Bd_pos : ∀ d, 1 ≤ Bd d
  | 0 => Nat.le_refl _
  | d + 1 => by simp only [Bd]; omega
theorem strs_eqv (ms : List Str) : PyData.eqv (.tuple (ms.map .str)) (.tuple []) = decide (ms = []) := by cases ms <;> rfl
theorem fl_strs (ms : List Str) : FlL (ms.map .str) (ms.map .str) := fll_map ms fun _ _ => fl_str
theorem any_ok {ns : List Str} (N : Nms ns) : ∀ (f d : Nat) (i : Int) (S : Sto), 2 * d + 1 ≤ f → i ≤ d → GR X S0 h c ro S →
    Ret (m__law_any cl f [.ref h, .int i, .tup (ns.map .str), .ref ro] S) fun x S' => TM PA (Bd d) (2 * d + 1) x ∧ GR X S0 h c ro S'
  | 0, d, i, S, hf, _, _ => by omega
  | f + 1, d, i, S, hf, hi, G => by
    have sz : (16777216 : Nat) ≤ sizeLine := by decide
    have hpos : 0 < ns.length := List.length_pos_iff.2 N.ne
    have hfew := N.few
    have leafE : ∀ S, GR X S0 h c ro S → Ret (m__law_any_leaf cl [.ref h, .tup (ns.map .str)] S) fun x S' => TM PA (Bd d) (2 * d + 1) x ∧ GR X S0 h c ro S' := fun S G =>
      (leaf_ok N G).imp fun x S' ⟨t, g⟩ => ⟨t.mono (Bd_pos d) (by omega), g⟩
    rw [m__law_any_s]
    walk_at "def"
    unfold b__law_any
    refine v_seq (v_if (w_orB ?_))
    walk_at "wq"
    refine br_dec (fun e => ?_) (fun e => ?_)
    · walk_at "wq"
      exact leafE S G
    obtain ⟨rm, hrm⟩ := G.r
    walk_at "wq"
    refine br_dec (fun e2 => ?_) (fun e2 => ?_)
    · walk_at "wq"
      exact leafE S G
    obtain ⟨d, rfl⟩ : ∃ d', d = d' + 1 := ⟨d - 1, by omega⟩
    have ihA : ∀ S, GR X S0 h c ro S → Ret (m__law_any cl f [.ref h, .int (i - 1), .tup (ns.map .str), .ref ro] S) fun x S' => TM PA (Bd d) (2 * d + 1) x ∧ GR X S0 h c ro S' := fun S G => any_ok N f d (i - 1) S (by omega) (by omega) G
    have ihF : ∀ (most : Int) S, 0 ≤ most → most ≤ 8 → GR X S0 h c ro S → Ret (m__law_any_fun cl f [.ref h, .int i, .tup (ns.map .str), .ref ro, .int most] S) fun x S' => TM PA (Bd d + 1) (2 * d + 2) x ∧ GR X S0 h c ro S' := fun most S m0 m1 G => by
      obtain ⟨f, rfl⟩ : ∃ f', f = f' + 1 := ⟨f - 1, by omega⟩
      have ihA' := any_ok N f d (i - 1)
      rw [m__law_any_fun_s]
      walk_at "def"
      unfold b__law_any_fun
      walk_at "wq"
      refine (names_ok N m0 (by omega) G).imp ?_
      rintro _ S1 ⟨⟨ms, rfl, h1, h2⟩, G1⟩
      walk_at "wq"
      refine (ihA' S1 (by omega) (by omega) G1).imp ?_
      rintro x S2 ⟨t, G2⟩
      walk_at "wq"
      exact ⟨(TM.fn (StL.of ms) (by omega) ⟨fun s hs => N.ok s (h1 s hs), by omega⟩ t).mono (by omega) (by omega), G2⟩
    have hB := Bd_pos d
    have hBd : Bd (d + 1) = 40 + 11 * Bd d := rfl
    walk_at "wq"
    have G1 : GR X S0 h c ro (S.put ro (.lst ([MV.int rm].set (Int.toNat 0) (.int (rm - 1))))) := G.putR
    generalize S.put ro (.lst ([MV.int rm].set (Int.toNat 0) (.int (rm - 1)))) = S1 at *
    refine' GR.pickSQ G1 ?a1 ?a2 ?a3 ?az
    case a1 => walk_at "tm"
    case a2 => decide
    case a3 => decide
    intro w S2 hw G2
    have fin : ∀ {n D : Nat} {x : MV} {S' : Sto}, TM PA n D x → n ≤ 40 + 11 * Bd d → D ≤ 2 * d + 3 → GR X S0 h c ro S' → TM PA (Bd (d + 1)) (2 * (d + 1) + 1) x ∧ GR X S0 h c ro S' := fun t h1 h2 g => ⟨t.mono (by omega) (by omega), g⟩
    simp only [List.mem_cons, List.not_mem_nil, or_false] at hw
    have hone : ∀ w : Str, (w = "set" ∨ w = "keep" ∨ w = "once" ∨ w = "take") → ∀ {s : Str} {S' : Sto} {x : MV}, s ∈ ns → TM PA (Bd d) (2 * d + 1) x → GR X S0 h c ro S' → TM PA (Bd (d + 1)) (2 * (d + 1) + 1) (.tup [.str w, .str s, x]) ∧ GR X S0 h c ro S' := fun w hw s S' x hs t g =>
      fin (TM.one hw ⟨N.ok s hs, by omega⟩ t) (by omega) (by rw [Nat.max_eq_left (Nat.zero_le _)]; omega) g
    rcases hw with rfl | rfl | rfl | rfl | rfl | rfl | rfl | rfl | rfl | rfl | rfl | rfl | rfl | rfl | rfl | rfl
    · -- fn
      walk_at "tr"
      exact (ihF 8 S2 (by decide) (by decide) G2).imp fun x S' ⟨t, g⟩ => fin t (by omega) (by omega) g
    · -- let
      walk_at "tr"
      refine (names_ok N (by decide) (by decide) G2).imp ?_
      rintro _ S3 ⟨⟨ms, rfl, h1, h2⟩, G3⟩
      refine v_seq (v_mid (fun e S' => S' = S3 ∧ ∃ bs : List Str, e = [some (.ref h), some (.int i), some (.tup (ns.map .str)), some (.ref ro), some (.str "let"), some (.tup (bs.map .str)), none, none, none, none, none, none, none] ∧ (∀ s ∈ bs, s ∈ ns) ∧ bs.length ≤ 3) ?_ ?_)
      · refine v_if ?_
        walk_at "wq"
        refine w_eqA (toD_fl (fl_tup (fl_strs ms))) (toD_fl (fl_tup fll_nil)) (sh_of (n := 1) (shd_tup (shl_map ms fun s hs => shd_str (N.ok s (h1 s hs))))) (by decide) ?_
        rw [strs_eqv]
        refine ⟨_, rfl, br_dec (fun e => ?_) (fun e => ?_)⟩
        · walk_at "wq"
          rw [cutM_to (by decide), ← List.map_take]
          exact ⟨rfl, ns.take 1, rfl, fun s hs => List.mem_of_mem_take hs, by rw [List.length_take]; have : (Int.toNat 1) = 1 := rfl; omega⟩
        · walk_at "wq"
          exact ⟨rfl, ms, rfl, h1, by omega⟩
      rintro e S4 ⟨rfl, bs, rfl, b1, b2⟩
      walk_at "tr"
      refine (arows_ok (B := Bd d) (D := 2 * d + 1) (ms := bs) (by simp [wipeE]) (fun s S' g => ?_) (by omega) G3).imp ?_
      · simp only [wipeE, List.foldl_cons, List.foldl_nil, List.set_cons_zero, List.set_cons_succ]
        walk_at "wq"
        exact ihA S' g
      rintro acc S5 ⟨⟨xs, hR, ts⟩, G5⟩
      walk_at "wq"
      refine (ihA _ G5.add).imp ?_
      rintro x S6 ⟨t, G6⟩
      walk_at "wq"
      have hmb : bs.length * Bd d ≤ 3 * Bd d := Nat.mul_le_mul_right _ b2
      exact fin (TM.bnd (.inl rfl) hR ts t ⟨fun s hs => N.ok s (b1 s hs), by omega⟩) (by omega) (by simp) G6
    · -- rec
      walk_at "tr"
      refine (names_ok N (by decide) (by decide) G2).imp ?_
      rintro _ S3 ⟨⟨ms, rfl, h1, h2⟩, G3⟩
      refine v_seq (v_mid (fun e S' => S' = S3 ∧ ∃ bs : List Str, e = [some (.ref h), some (.int i), some (.tup (ns.map .str)), some (.ref ro), some (.str "rec"), some (.tup (bs.map .str)), none, none, none, none, none, none, none] ∧ (∀ s ∈ bs, s ∈ ns) ∧ bs.length ≤ 3) ?_ ?_)
      · refine v_if ?_
        walk_at "wq"
        refine w_eqA (toD_fl (fl_tup (fl_strs ms))) (toD_fl (fl_tup fll_nil)) (sh_of (n := 1) (shd_tup (shl_map ms fun s hs => shd_str (N.ok s (h1 s hs))))) (by decide) ?_
        rw [strs_eqv]
        refine ⟨_, rfl, br_dec (fun e => ?_) (fun e => ?_)⟩
        · walk_at "wq"
          rw [cutM_to (by decide), ← List.map_take]
          exact ⟨rfl, ns.take 1, rfl, fun s hs => List.mem_of_mem_take hs, by rw [List.length_take]; have : (Int.toNat 1) = 1 := rfl; omega⟩
        · walk_at "wq"
          exact ⟨rfl, ms, rfl, h1, by omega⟩
      rintro e S4 ⟨rfl, bs, rfl, b1, b2⟩
      walk_at "tr"
      rw [cutM_to (by decide), ← List.map_take]
      have c2 : (bs.take (Int.toNat 2)).length ≤ 3 := by rw [List.length_take]; omega
      refine (arows_ok (B := Bd d + 1) (D := 2 * d + 2) (ms := bs.take (Int.toNat 2)) (by simp [wipeE]) (fun s S' g => ?_) (by omega) G3).imp ?_
      · simp only [wipeE, List.foldl_cons, List.foldl_nil, List.set_cons_zero, List.set_cons_succ]
        walk_at "wq"
        exact ihF 2 S' (by decide) (by decide) g
      rintro acc S5 ⟨⟨xs, hR, ts⟩, G5⟩
      walk_at "wq"
      refine (ihA _ G5.add).imp ?_
      rintro x S6 ⟨t, G6⟩
      walk_at "wq"
      have hmb : (bs.take (Int.toNat 2)).length * (Bd d + 1) ≤ 3 * (Bd d + 1) := Nat.mul_le_mul_right _ c2
      exact fin (TM.bnd (.inr rfl) hR ts t ⟨fun s hs => N.ok s (b1 s (List.mem_of_mem_take hs)), by omega⟩) (by omega) (by simp) G6
    · -- set
      walk_at "tr"
      refine G2.pickSQ (StL.of ns) hpos (by omega) fun s S3 hs G3 => ?_
      walk_at "wq"
      refine (ihA S3 G3).imp ?_
      rintro x S4 ⟨t, G4⟩
      walk_at "wq"
      exact hone _ (.inl rfl) hs t G4
    · -- if
      walk_at "tr"
      refine w_disp (w_pcons ?_)
      walk_at "wq"
      refine w_pcons ?_
      walk_at "wq"
      refine (G2.add).drawQ (by decide) (by decide) fun r S3 r0 r1 G3 B3 => ?_
      have g3 : S3.g S2.n = .dK [] := (B3.2 S2.n (by have := G2.g.lt; omega)).trans add_same
      have n3 : S2.n < S3.n := by rw [B3.1]; exact Nat.lt_succ_self _
      have hi : ∃ m : Nat, atI [MV.int 1, .int 2, .int 3, .int 10] r = some (.int m) ∧ 1 ≤ m ∧ m ≤ 10 := by
        obtain ⟨x, hx, _, hat⟩ := atI_mem (xs := [MV.int 1, .int 2, .int 3, .int 10]) r0 r1
        simp only [List.mem_cons, List.not_mem_nil, or_false] at hx
        rcases hx with rfl | rfl | rfl | rfl
        · exact ⟨1, hat, by decide⟩
        · exact ⟨2, hat, by decide⟩
        · exact ⟨3, hat, by decide⟩
        · exact ⟨10, hat, by decide⟩
      obtain ⟨m, hz, hm0, hm⟩ := hi
      refine w_idxT hz ?_
      refine w_pcons ?_
      walk_at "wq"
      refine w_pcons ?_
      walk_at "wq"
      refine w_pcons ?_
      walk_at "wq"
      refine w_pnil ⟨g3, (show 5 ≤ 15 by decide), ?_⟩
      walk_at "wq"
      have G4 : GR X S0 h c ro (S3.put S2.n (.dK (mergeM [] [(Sum.inr "if", .int 3), (Sum.inr "do", .int m), (Sum.inr "mark", .int 1), (Sum.inr "wind", .int 3), (Sum.inr "show", .int 1)]))) := G3.putA (by have := G2.g.le; omega) G2.lt G2.g.lt G2.g.ltc
      refine w_idxK (key := Sum.inr "if") (x := .int (3 : Nat)) put_same rfl (by rfl) ?_
      walk_at "wq"
      rw [Int.toNat_natCast]
      refine (anys_ok (m := 3) ihA rfl rfl rfl rfl (by omega) G4).imp ?_
      rintro acc S5 ⟨⟨hl, ts⟩, G5⟩
      have hmb : 3 * Bd d ≤ 10 * Bd d := Nat.mul_le_mul_right _ (by omega)
      walk_at "wq"
      obtain ⟨x, y, z, rfl⟩ : ∃ x y z, acc = [x, y, z] := by
        match acc, hl with
        | [x, y, z], _ => exact ⟨x, y, z, rfl⟩
      refine w_addt (by simp only [List.length_cons, List.length_nil]; decide) ?_
      exact fin (TM.cond ts ⟨trivial, by decide⟩) (by omega) (by omega) G5.add
    · -- do
      walk_at "tr"
      refine w_disp (w_pcons ?_)
      walk_at "wq"
      refine w_pcons ?_
      walk_at "wq"
      refine (G2.add).drawQ (by decide) (by decide) fun r S3 r0 r1 G3 B3 => ?_
      have g3 : S3.g S2.n = .dK [] := (B3.2 S2.n (by have := G2.g.lt; omega)).trans add_same
      have n3 : S2.n < S3.n := by rw [B3.1]; exact Nat.lt_succ_self _
      have hi : ∃ m : Nat, atI [MV.int 1, .int 2, .int 3, .int 10] r = some (.int m) ∧ 1 ≤ m ∧ m ≤ 10 := by
        obtain ⟨x, hx, _, hat⟩ := atI_mem (xs := [MV.int 1, .int 2, .int 3, .int 10]) r0 r1
        simp only [List.mem_cons, List.not_mem_nil, or_false] at hx
        rcases hx with rfl | rfl | rfl | rfl
        · exact ⟨1, hat, by decide⟩
        · exact ⟨2, hat, by decide⟩
        · exact ⟨3, hat, by decide⟩
        · exact ⟨10, hat, by decide⟩
      obtain ⟨m, hz, hm0, hm⟩ := hi
      refine w_idxT hz ?_
      refine w_pcons ?_
      walk_at "wq"
      refine w_pcons ?_
      walk_at "wq"
      refine w_pcons ?_
      walk_at "wq"
      refine w_pnil ⟨g3, (show 5 ≤ 15 by decide), ?_⟩
      walk_at "wq"
      have G4 : GR X S0 h c ro (S3.put S2.n (.dK (mergeM [] [(Sum.inr "if", .int 3), (Sum.inr "do", .int m), (Sum.inr "mark", .int 1), (Sum.inr "wind", .int 3), (Sum.inr "show", .int 1)]))) := G3.putA (by have := G2.g.le; omega) G2.lt G2.g.lt G2.g.ltc
      refine w_idxK (key := Sum.inr "do") (x := .int (m : Nat)) put_same rfl (by rfl) ?_
      walk_at "wq"
      rw [Int.toNat_natCast]
      refine (anys_ok (m := m) ihA rfl rfl rfl rfl (by omega) G4).imp ?_
      rintro acc S5 ⟨⟨hl, ts⟩, G5⟩
      have hmb : m * Bd d ≤ 10 * Bd d := Nat.mul_le_mul_right _ (by omega)
      walk_at "wq"
      exact fin (TM.dos ts ⟨trivial, by omega⟩) (by omega) (by omega) G5.add
    · -- call
      walk_at "tr"
      refine (ihA S2 G2).imp ?_
      rintro x S3 ⟨t, G3⟩
      walk_at "wq"
      refine G3.drawQ (by decide) (by decide) fun r S4 r0 r1 G4 _ => ?_
      have hi : ∃ m : Nat, atI [MV.int 0, .int 1, .int 2, .int 10] r = some (.int m) ∧ m ≤ 10 := by
        obtain ⟨x, hx, _, hat⟩ := atI_mem (xs := [MV.int 0, .int 1, .int 2, .int 10]) r0 r1
        simp only [List.mem_cons, List.not_mem_nil, or_false] at hx
        rcases hx with rfl | rfl | rfl | rfl
        · exact ⟨0, hat, by decide⟩
        · exact ⟨1, hat, by decide⟩
        · exact ⟨2, hat, by decide⟩
        · exact ⟨10, hat, by decide⟩
      obtain ⟨m, hz, hm⟩ := hi
      refine w_idxT hz ?_
      walk_at "wq"
      rw [Int.toNat_natCast]
      refine (anys_ok (m := m) ihA rfl rfl rfl rfl (by omega) G4).imp ?_
      rintro acc S5 ⟨⟨hl, ts⟩, G5⟩
      walk_at "wq"
      have hmb : m * Bd d ≤ 10 * Bd d := Nat.mul_le_mul_right _ hm
      exact fin (TM.call t ts ⟨trivial, by omega⟩) (by omega) (by simp) G5.add
    · -- op
      walk_at "tr"
      refine' GR.pickSQ G2 ?b1 ?b2 ?b3 ?bz
      case b1 => walk_at "tm"
      case b2 => decide
      case b3 => decide
      intro w S3 hw G3
      have hwk : PyData.strOk w = true := (by decide +kernel : ∀ v ∈ (["+", "-", "*", "quot", "rem", "<", "=", "same?", "pair", "left!", "right!", "left", "right", "pair?", "none?", "rest?", "fun?"] : List Str), PyData.strOk v = true) w hw
      walk_at "wq"
      refine' w_inSt ?c1 ?cz
      case c1 => walk_at "tm"
      refine ⟨_, rfl, br_dec (fun e => ?_) (fun e => ?_)⟩
      · walk_at "wq"
        refine (anys_ok (m := Int.toNat 1) ihA rfl rfl rfl rfl (by decide) G3).imp ?_
        rintro acc S5 ⟨⟨hl, ts⟩, G5⟩
        walk_at "wq"
        have hmb : Int.toNat 1 * Bd d ≤ 2 * Bd d := Nat.mul_le_mul_right _ (by decide)
        exact fin (TM.op ts ⟨hwk, by rw [hl]; decide⟩) (by omega) (by omega) G5.add
      · walk_at "wq"
        refine (anys_ok (m := Int.toNat 2) ihA rfl rfl rfl rfl (by decide) G3).imp ?_
        rintro acc S5 ⟨⟨hl, ts⟩, G5⟩
        walk_at "wq"
        have hmb : Int.toNat 2 * Bd d ≤ 2 * Bd d := Nat.mul_le_mul_right _ (by decide)
        exact fin (TM.op ts ⟨hwk, by rw [hl]; decide⟩) (by omega) (by omega) G5.add
    · -- op
      walk_at "tr"
      refine' GR.pickSQ G2 ?b1x ?b2x ?b3x ?bzx
      case b1x => walk_at "tm"
      case b2x => decide
      case b3x => decide
      intro w S3 hw G3
      have hwk : PyData.strOk w = true := (by decide +kernel : ∀ v ∈ (["+", "-", "*", "quot", "rem", "<", "=", "same?", "pair", "left!", "right!", "left", "right", "pair?", "none?", "rest?", "fun?"] : List Str), PyData.strOk v = true) w hw
      walk_at "wq"
      refine' w_inSt ?c1x ?czx
      case c1x => walk_at "tm"
      refine ⟨_, rfl, br_dec (fun e => ?_) (fun e => ?_)⟩
      · walk_at "wq"
        refine (anys_ok (m := Int.toNat 1) ihA rfl rfl rfl rfl (by decide) G3).imp ?_
        rintro acc S5 ⟨⟨hl, ts⟩, G5⟩
        walk_at "wq"
        have hmb : Int.toNat 1 * Bd d ≤ 2 * Bd d := Nat.mul_le_mul_right _ (by decide)
        exact fin (TM.op ts ⟨hwk, by rw [hl]; decide⟩) (by omega) (by omega) G5.add
      · walk_at "wq"
        refine (anys_ok (m := Int.toNat 2) ihA rfl rfl rfl rfl (by decide) G3).imp ?_
        rintro acc S5 ⟨⟨hl, ts⟩, G5⟩
        walk_at "wq"
        have hmb : Int.toNat 2 * Bd d ≤ 2 * Bd d := Nat.mul_le_mul_right _ (by decide)
        exact fin (TM.op ts ⟨hwk, by rw [hl]; decide⟩) (by omega) (by omega) G5.add
    · -- keep
      walk_at "tr"
      refine G2.pickSQ (StL.of ns) hpos (by omega) fun s S3 hs G3 => ?_
      walk_at "wq"
      refine (ihA S3 G3).imp ?_
      rintro x S4 ⟨t, G4⟩
      walk_at "wq"
      exact hone _ (.inr (.inl rfl)) hs t G4
    · -- once
      walk_at "tr"
      refine G2.pickSQ (StL.of ns) hpos (by omega) fun s S3 hs G3 => ?_
      walk_at "wq"
      refine (ihA S3 G3).imp ?_
      rintro x S4 ⟨t, G4⟩
      walk_at "wq"
      exact hone _ (.inr (.inr (.inl rfl))) hs t G4
    · -- take
      walk_at "tr"
      refine G2.pickSQ (StL.of ns) hpos (by omega) fun s S3 hs G3 => ?_
      walk_at "wq"
      refine (ihA S3 G3).imp ?_
      rintro x S4 ⟨t, G4⟩
      walk_at "wq"
      exact hone _ (.inr (.inr (.inr rfl))) hs t G4
    · -- mark
      walk_at "tr"
      refine w_disp (w_pcons ?_)
      walk_at "wq"
      refine w_pcons ?_
      walk_at "wq"
      refine (G2.add).drawQ (by decide) (by decide) fun r S3 r0 r1 G3 B3 => ?_
      have g3 : S3.g S2.n = .dK [] := (B3.2 S2.n (by have := G2.g.lt; omega)).trans add_same
      have n3 : S2.n < S3.n := by rw [B3.1]; exact Nat.lt_succ_self _
      have hi : ∃ m : Nat, atI [MV.int 1, .int 2, .int 3, .int 10] r = some (.int m) ∧ 1 ≤ m ∧ m ≤ 10 := by
        obtain ⟨x, hx, _, hat⟩ := atI_mem (xs := [MV.int 1, .int 2, .int 3, .int 10]) r0 r1
        simp only [List.mem_cons, List.not_mem_nil, or_false] at hx
        rcases hx with rfl | rfl | rfl | rfl
        · exact ⟨1, hat, by decide⟩
        · exact ⟨2, hat, by decide⟩
        · exact ⟨3, hat, by decide⟩
        · exact ⟨10, hat, by decide⟩
      obtain ⟨m, hz, hm0, hm⟩ := hi
      refine w_idxT hz ?_
      refine w_pcons ?_
      walk_at "wq"
      refine w_pcons ?_
      walk_at "wq"
      refine w_pcons ?_
      walk_at "wq"
      refine w_pnil ⟨g3, (show 5 ≤ 15 by decide), ?_⟩
      walk_at "wq"
      have G4 : GR X S0 h c ro (S3.put S2.n (.dK (mergeM [] [(Sum.inr "if", .int 3), (Sum.inr "do", .int m), (Sum.inr "mark", .int 1), (Sum.inr "wind", .int 3), (Sum.inr "show", .int 1)]))) := G3.putA (by have := G2.g.le; omega) G2.lt G2.g.lt G2.g.ltc
      refine w_idxK (key := Sum.inr "mark") (x := .int (1 : Nat)) put_same rfl (by rfl) ?_
      walk_at "wq"
      rw [Int.toNat_natCast]
      refine (anys_ok (m := 1) ihA rfl rfl rfl rfl (by omega) G4).imp ?_
      rintro acc S5 ⟨⟨hl, ts⟩, G5⟩
      have hmb : 1 * Bd d ≤ 10 * Bd d := Nat.mul_le_mul_right _ (by omega)
      walk_at "wq"
      obtain ⟨x, rfl⟩ := len1 hl
      refine w_addt (by simp only [List.length_cons, List.length_nil]; decide) ?_
      exact fin (TM.mark ts ⟨trivial, by decide⟩) (by omega) (by omega) G5.add
    · -- wind
      walk_at "tr"
      refine w_disp (w_pcons ?_)
      walk_at "wq"
      refine w_pcons ?_
      walk_at "wq"
      refine (G2.add).drawQ (by decide) (by decide) fun r S3 r0 r1 G3 B3 => ?_
      have g3 : S3.g S2.n = .dK [] := (B3.2 S2.n (by have := G2.g.lt; omega)).trans add_same
      have n3 : S2.n < S3.n := by rw [B3.1]; exact Nat.lt_succ_self _
      have hi : ∃ m : Nat, atI [MV.int 1, .int 2, .int 3, .int 10] r = some (.int m) ∧ 1 ≤ m ∧ m ≤ 10 := by
        obtain ⟨x, hx, _, hat⟩ := atI_mem (xs := [MV.int 1, .int 2, .int 3, .int 10]) r0 r1
        simp only [List.mem_cons, List.not_mem_nil, or_false] at hx
        rcases hx with rfl | rfl | rfl | rfl
        · exact ⟨1, hat, by decide⟩
        · exact ⟨2, hat, by decide⟩
        · exact ⟨3, hat, by decide⟩
        · exact ⟨10, hat, by decide⟩
      obtain ⟨m, hz, hm0, hm⟩ := hi
      refine w_idxT hz ?_
      refine w_pcons ?_
      walk_at "wq"
      refine w_pcons ?_
      walk_at "wq"
      refine w_pcons ?_
      walk_at "wq"
      refine w_pnil ⟨g3, (show 5 ≤ 15 by decide), ?_⟩
      walk_at "wq"
      have G4 : GR X S0 h c ro (S3.put S2.n (.dK (mergeM [] [(Sum.inr "if", .int 3), (Sum.inr "do", .int m), (Sum.inr "mark", .int 1), (Sum.inr "wind", .int 3), (Sum.inr "show", .int 1)]))) := G3.putA (by have := G2.g.le; omega) G2.lt G2.g.lt G2.g.ltc
      refine w_idxK (key := Sum.inr "wind") (x := .int (3 : Nat)) put_same rfl (by rfl) ?_
      walk_at "wq"
      rw [Int.toNat_natCast]
      refine (anys_ok (m := 3) ihA rfl rfl rfl rfl (by omega) G4).imp ?_
      rintro acc S5 ⟨⟨hl, ts⟩, G5⟩
      have hmb : 3 * Bd d ≤ 10 * Bd d := Nat.mul_le_mul_right _ (by omega)
      walk_at "wq"
      obtain ⟨x, y, z, rfl⟩ : ∃ x y z, acc = [x, y, z] := by
        match acc, hl with
        | [x, y, z], _ => exact ⟨x, y, z, rfl⟩
      refine w_addt (by simp only [List.length_cons, List.length_nil]; decide) ?_
      exact fin (TM.wind ts ⟨trivial, by decide⟩) (by omega) (by omega) G5.add
    · -- show
      walk_at "tr"
      refine w_disp (w_pcons ?_)
      walk_at "wq"
      refine w_pcons ?_
      walk_at "wq"
      refine (G2.add).drawQ (by decide) (by decide) fun r S3 r0 r1 G3 B3 => ?_
      have g3 : S3.g S2.n = .dK [] := (B3.2 S2.n (by have := G2.g.lt; omega)).trans add_same
      have n3 : S2.n < S3.n := by rw [B3.1]; exact Nat.lt_succ_self _
      have hi : ∃ m : Nat, atI [MV.int 1, .int 2, .int 3, .int 10] r = some (.int m) ∧ 1 ≤ m ∧ m ≤ 10 := by
        obtain ⟨x, hx, _, hat⟩ := atI_mem (xs := [MV.int 1, .int 2, .int 3, .int 10]) r0 r1
        simp only [List.mem_cons, List.not_mem_nil, or_false] at hx
        rcases hx with rfl | rfl | rfl | rfl
        · exact ⟨1, hat, by decide⟩
        · exact ⟨2, hat, by decide⟩
        · exact ⟨3, hat, by decide⟩
        · exact ⟨10, hat, by decide⟩
      obtain ⟨m, hz, hm0, hm⟩ := hi
      refine w_idxT hz ?_
      refine w_pcons ?_
      walk_at "wq"
      refine w_pcons ?_
      walk_at "wq"
      refine w_pcons ?_
      walk_at "wq"
      refine w_pnil ⟨g3, (show 5 ≤ 15 by decide), ?_⟩
      walk_at "wq"
      have G4 : GR X S0 h c ro (S3.put S2.n (.dK (mergeM [] [(Sum.inr "if", .int 3), (Sum.inr "do", .int m), (Sum.inr "mark", .int 1), (Sum.inr "wind", .int 3), (Sum.inr "show", .int 1)]))) := G3.putA (by have := G2.g.le; omega) G2.lt G2.g.lt G2.g.ltc
      refine w_idxK (key := Sum.inr "show") (x := .int (1 : Nat)) put_same rfl (by rfl) ?_
      walk_at "wq"
      rw [Int.toNat_natCast]
      refine (anys_ok (m := 1) ihA rfl rfl rfl rfl (by omega) G4).imp ?_
      rintro acc S5 ⟨⟨hl, ts⟩, G5⟩
      have hmb : 1 * Bd d ≤ 10 * Bd d := Nat.mul_le_mul_right _ (by omega)
      walk_at "wq"
      obtain ⟨x, rfl⟩ := len1 hl
      refine w_addt (by simp only [List.length_cons, List.length_nil]; decide) ?_
      exact fin (TM.shw ts ⟨trivial, by decide⟩) (by omega) (by omega) G5.add
    · -- call
      walk_at "tr"
      refine (ihA S2 G2).imp ?_
      rintro x S3 ⟨t, G3⟩
      walk_at "wq"
      refine G3.drawQ (by decide) (by decide) fun r S4 r0 r1 G4 _ => ?_
      have hi : ∃ m : Nat, atI [MV.int 0, .int 1, .int 2, .int 10] r = some (.int m) ∧ m ≤ 10 := by
        obtain ⟨x, hx, _, hat⟩ := atI_mem (xs := [MV.int 0, .int 1, .int 2, .int 10]) r0 r1
        simp only [List.mem_cons, List.not_mem_nil, or_false] at hx
        rcases hx with rfl | rfl | rfl | rfl
        · exact ⟨0, hat, by decide⟩
        · exact ⟨1, hat, by decide⟩
        · exact ⟨2, hat, by decide⟩
        · exact ⟨10, hat, by decide⟩
      obtain ⟨m, hz, hm⟩ := hi
      refine w_idxT hz ?_
      walk_at "wq"
      rw [Int.toNat_natCast]
      refine (anys_ok (m := m) ihA rfl rfl rfl rfl (by omega) G4).imp ?_
      rintro acc S5 ⟨⟨hl, ts⟩, G5⟩
      walk_at "wq"
      have hmb : m * Bd d ≤ 10 * Bd d := Nat.mul_le_mul_right _ hm
      exact fin (TM.call t ts ⟨trivial, by omega⟩) (by omega) (by simp) G5.add
end
end Law
end

section
namespace Law
open PySem L2 Mm
/-! the step of the pure proofs -/
local macro_rules
  | `(tactic| walk_at "wp side") => `(tactic| first | assumption | omega | decide)
local macro_rules
  | `(tactic| walk_at "wp1") => `(tactic| with_reducible first
    | refine Mm.v_seq ?_ | refine Mm.v_nx ?_ | refine Mm.v_asg ?_ | refine Mm.v_asgP ?_ | refine Mm.v_ret ?_ | refine Mm.v_retN ?_ | refine Mm.v_drop ?_ | refine Mm.v_set ?_ | refine Mm.v_aug ?_ | refine Mm.v_for ?_ | refine Mm.v_brk ?_ | refine Mm.v_ct ?_
    | refine Mm.w_con ?_ | refine Mm.w_op2 ?_ | refine Mm.w_op1 ?_ | refine Mm.w_opL ?_ | refine Mm.w_cons ?_ | refine Mm.w_nil ?_
    | refine Mm.w_add ?_ | refine Mm.w_sub ?_ | refine Mm.w_neg ?_ | refine Mm.w_lt ?_ | refine Mm.w_le ?_ | refine Mm.w_gt ?_ | refine Mm.w_ge ?_ | refine Mm.w_eqi ?_ | refine Mm.w_nei ?_ | refine Mm.w_eqs ?_ | refine Mm.w_nes ?_ | refine Mm.w_int ?_ | refine Mm.w_abs ?_ | refine Mm.w_isN ?_ | refine Mm.w_notN ?_ | refine Mm.w_min ?_ | refine Mm.w_max ?_
    | refine Mm.w_tru ?_ | refine Mm.w_blM ?_ | refine Mm.w_andB ?_ | refine Mm.w_orB ?_ | refine Mm.w_notB ?_ | refine Mm.w_ifV ?_ | refine Mm.w_andV ?_ | refine Mm.w_orV ?_ | refine Mm.w_notV ?_ | refine Mm.w_truB ?_ | refine Mm.w_truI ?_ | refine Mm.w_truN ?_ | refine Mm.w_truT ?_
    | refine Mm.w_dNewK ?_ | refine Mm.w_dNewT ?_ | refine Mm.w_iter ?_ | refine Mm.w_strS ?_ | refine Mm.w_inT ?_ | refine Mm.w_idxTM ?_ | refine Mm.v_setTM ?_ | refine Mm.v_par ?_ | refine Mm.w_met ?_ | refine Mm.w_itmM ?_ | refine Mm.w_enm ?_ | refine Mm.w_enm2 ?_ | refine Mm.w_zip ?_ | refine Mm.w_rev ?_ | refine Mm.w_bm ?_ | refine Mm.w_lc ?_ | refine Mm.w_yes ?_ | refine Mm.br_t ?_ | refine Mm.br_f ?_ | refine Mm.w_slc ?_ | refine Mm.w_pno ?_ | refine Mm.w_pso ?_ | refine Mm.w_lenT ?_ | refine Mm.w_tupT ?_ | refine Mm.w_lstT ?_ | refine Mm.w_cutT ?_)
local macro_rules
  | `(tactic| walk_at "sto") => `(tactic| first
    | with_reducible assumption
    | with_reducible exact Mm.put_same
    | with_reducible exact Mm.add_same
    | (with_reducible refine (Mm.put_ne (by first | assumption | exact Ne.symm (by assumption) | ((try dsimp only [Mm.Sto.add, Mm.Sto.put]); omega))).trans ?_; walk_at "sto")
    | (with_reducible refine (Mm.add_ne (by first | assumption | exact Ne.symm (by assumption) | ((try dsimp only [Mm.Sto.add, Mm.Sto.put]); omega))).trans ?_; walk_at "sto")
    | fail)
local macro_rules
  | `(tactic| walk_at "lk") => `(tactic| first | with_reducible exact Mm.lk_here | with_reducible exact Mm.lk_nil | with_reducible assumption | (with_reducible apply Mm.lk_next; (· decide +kernel); (· walk_at "lk")) | fail)
local macro_rules
  | `(tactic| walk_at "pf") => `(tactic| first | with_reducible exact Mm.pf_nil | with_reducible exact Mm.pf_here | (with_reducible apply Mm.pf_next; (· decide +kernel); (· walk_at "pf")) | fail)
local macro_rules
  | `(tactic| walk_at "vf") => `(tactic| (refine' Mm.v_fldv ?a1 ?a2 ?a3 ?a4 ?a5 ?a6 ?a7; (case a1 => rfl); (case a2 => rfl); (case a3 => exact Mm.add_same); (case a4 => simp); (case a5 => simp only [List.length_cons, List.length_nil]; decide); (case a6 => walk_at "pf"); rw [Mm.add_put]))
local macro_rules
  | `(tactic| walk_at "tb") => `(tactic| first | with_reducible exact Mm.tb_here | (with_reducible apply Mm.tb_next; (· simp); (· walk_at "tb")) | fail)
local macro_rules
  | `(tactic| walk_at "wp2") => `(tactic| first
    | ((with_reducible apply Mm.w_var); · rfl)
    | ((with_reducible apply Mm.ex_mk); · with_reducible refine Mm.rng1 (by (try simp only [List.length_map]); omega))
    | ((with_reducible apply Mm.ex_mk); · with_reducible refine Mm.rng2 (by (try simp only [List.length_map]); omega))
    | ((with_reducible apply Mm.ex_mk); · rfl)
    | ((with_reducible refine Mm.br_true ?_ ?_); · rfl)
    | ((with_reducible refine Mm.br_false ?_ ?_); · rfl)
    | ((with_reducible refine Mm.w_mod ?_ ?_); · walk_at "wp side")
    | ((with_reducible refine Mm.w_div ?_ ?_ ?_); (· walk_at "wp side"); (· (first | decide | assumption)))
    | ((with_reducible refine Mm.w_mul ?_ ?_); · exact .inl (.inr (by decide)))
    | ((with_reducible refine Mm.w_mul ?_ ?_); · exact .inl (.inl (by decide)))
    | ((with_reducible refine Mm.w_mul ?_ ?_); · exact .inl (.inl (by omega)))
    | ((with_reducible refine Mm.w_mul ?_ ?_); · exact .inl (.inr (by omega)))
    | ((with_reducible refine Mm.w_pow ?_ ?_); · decide)
    | ((with_reducible refine Mm.w_lstV ?_ ?_); · (simp only [List.length_cons, List.length_nil]; decide))
    | ((with_reducible refine Mm.w_tupV ?_ ?_); · (simp only [List.length_cons, List.length_nil]; decide))
    | ((with_reducible apply Mm.w_idxL); (· walk_at "sto"); (· first | exact Mm.atI0 | exact Mm.atI1 | exact Mm.atI2 | exact Mm.atIl | rfl))
    | ((with_reducible apply Mm.w_fld); (· walk_at "sto"); (· simp); (· walk_at "lk"))
    | ((with_reducible apply Mm.w_isI); (· walk_at "sto"); (· walk_at "tb"))
    | ((with_reducible apply Mm.w_idxC); (· walk_at "sto"); (· rfl))
    | ((with_reducible apply Mm.w_idxT); · first | exact Mm.atI0 | exact Mm.atI1 | exact Mm.atI2 | rfl)
    | ((with_reducible apply Mm.w_lenL); · walk_at "sto")
    | ((with_reducible apply Mm.w_lenC); · walk_at "sto")
    | ((with_reducible apply Mm.w_lenK); · walk_at "sto")
    | ((with_reducible apply Mm.w_tupL); · walk_at "sto")
    | ((with_reducible apply Mm.w_lstL); · walk_at "sto")
    | ((with_reducible apply Mm.w_cutL); · walk_at "sto")
    | ((with_reducible apply Mm.w_revL); · walk_at "sto")
    | ((with_reducible apply Mm.w_truL); · walk_at "sto")
    | ((with_reducible apply Mm.ex_mk); · exact Mm.it_lst (by walk_at "sto"))
    | ((with_reducible apply Mm.ex_mk); · exact Mm.it_con (by walk_at "sto"))
    | ((with_reducible apply Mm.ex_mk); · exact Mm.it_en2L (by walk_at "sto"))
    | ((with_reducible apply Mm.ex_mk); · exact Mm.it_en2C (by walk_at "sto"))
    | ((with_reducible apply Mm.ex_mk); · exact Mm.set_lst (by walk_at "sto") rfl)
    | ((with_reducible refine And.intro ?_ ?_); · exact Mm.ty_lst (by walk_at "sto"))
    | fail)
local macro_rules
  | `(tactic| walk_at "wq") => `(tactic| repeat' (first | (walk_at "wp1"; try dsimp only [List.set_cons_zero, List.set_cons_succ, Bool.not_true, Bool.not_false]) | (walk_at "wp2"; try dsimp only [Bool.not_true, Bool.not_false]) | fail))
local macro_rules
  | `(tactic| walk_at "wp") => `(tactic| repeat' (first | (with_reducible refine Mm.v_if ?_) | (walk_at "wp1"; try dsimp only [List.set_cons_zero, List.set_cons_succ, Bool.not_true, Bool.not_false]) | (walk_at "wp2"; try dsimp only [Bool.not_true, Bool.not_false]) | fail))
local macro_rules
  | `(tactic| walk_at "def") => `(tactic| (refine Mm.w_def rfl ?_; simp only [List.map_cons, List.map_nil, List.cons_append, List.nil_append, List.replicate, Nat.reduceSub, List.replicate_succ, List.replicate_zero]))
/-! the steps of the makers of inputs -/
local macro_rules
  | `(tactic| walk_at "gx") => `(tactic| first | with_reducible assumption | (with_reducible refine Law.GX.add ?_; walk_at "gx") | (with_reducible refine' Law.GX.putA ?a1 ?a2; (case a1 => walk_at "gx"); (case a2 => walk_at "gx")) | fail)
local macro_rules
  | `(tactic| walk_at "pk") => `(tactic| exact trivial)
local macro_rules
  | `(tactic| walk_at "tl") => `(tactic| with_unfolding_all exact of_decide_eq_true (p := _ ≤ 1000) rfl)
local macro_rules
  | `(tactic| walk_at "tm") => `(tactic| repeat' (with_reducible first
    | assumption
    | exact Law.TMs.nil | apply Law.TMs.cons
    | exact Law.AllM.nil | apply Law.AllM.cons
    | exact Law.StL.nil | apply Law.StL.cons | exact Law.InL.nil | apply Law.InL.cons
    | exact Law.RowL.nil | apply Law.RowL.cons
    | apply Law.TM.num | apply Law.TM.nam | apply Law.TM.tt | apply Law.TM.ff | apply Law.TM.no | apply Law.TM.ask
    | apply Law.TM.fn | apply Law.TM.dos | apply Law.TM.call | apply Law.TM.op | apply Law.TM.cond | apply Law.TM.wind | apply Law.TM.mark | apply Law.TM.shw
    | apply Law.TM.bnd (.inl rfl) | apply Law.TM.bnd (.inr rfl)
    | apply Law.TM.oneL (by assumption) (by decide +kernel) | apply Law.TMs.cutL (by assumption) (by decide +kernel)
    | apply Law.TM.one (.inl rfl) | apply Law.TM.one (.inr (.inl rfl)) | apply Law.TM.one (.inr (.inr (.inl rfl))) | apply Law.TM.one (.inr (.inr (.inr rfl)))
    | walk_at "pk"
    | walk_at "tl"
    | fail))
local macro_rules
  | `(tactic| walk_at "mx") => `(tactic| first | (simp only [Nat.max_le, Nat.add_zero, Nat.zero_add, Nat.add_le_add_iff_right]; done) | ((simp only [Nat.max_le, Nat.add_zero, Nat.zero_add, Nat.add_le_add_iff_right]); (repeat' apply And.intro) <;> omega) | omega)
local macro_rules
  | `(tactic| walk_at "ge") => `(tactic| (refine' ⟨Law.TM.mono ?h1 ?h2 ?h3, ?h4⟩; (case h1 => walk_at "tm"); (case h2 => walk_at "mx"); (case h3 => walk_at "mx"); (case h4 => walk_at "gx")))
local macro_rules
  | `(tactic| walk_at "call") => `(tactic| (with_reducible refine' Law.GX.drawQ ?a1 ?a2 ?a3 ?az; (case a1 => walk_at "gx"); (case a2 => first | decide | omega); (case a3 => first | decide | omega); (intro r S' r0 r1 g)))
local macro_rules
  | `(tactic| walk_at "call") => `(tactic| (with_reducible refine' Law.GX.pickSQ ?a1 ?a2 ?a3 ?a4 ?az; (case a1 => walk_at "gx"); (case a2 => walk_at "tm"; done); (case a3 => first | decide | (simp only [List.length_cons, List.length_nil]; omega)); (case a4 => first | decide | (simp only [List.length_cons, List.length_nil]; omega)); (intro s S' hs g)))
local macro_rules
  | `(tactic| walk_at "call") => `(tactic| (with_reducible refine' Law.GX.pickIQ ?a1 ?a2 ?a3 ?a4 ?az; (case a1 => walk_at "gx"); (case a2 => walk_at "tm"; done); (case a3 => first | decide | (simp only [List.length_cons, List.length_nil]; omega)); (case a4 => first | decide | (simp only [List.length_cons, List.length_nil]; omega)); (intro s S' hs g)))
local macro_rules
  | `(tactic| walk_at "call") => `(tactic| ((with_reducible refine' Law.w_inSt ?a1 ?az); (case a1 => walk_at "tm"; done)))
local macro_rules
  | `(tactic| walk_at "call") => `(tactic| ((with_reducible refine' Mm.w_addt ?a1 ?az); (case a1 => (simp only [List.length_cons, List.length_nil]; decide)); dsimp only [List.cons_append, List.nil_append]))
local macro_rules
  | `(tactic| walk_at "call") => `(tactic| ((with_reducible refine' Mm.w_addl ?a1 ?a2 ?a3 ?az); (case a1 => walk_at "sto"); (case a2 => walk_at "sto"); (case a3 => (simp only [List.length_cons, List.length_nil]; decide)); dsimp only [List.cons_append, List.nil_append]))
local macro_rules
  | `(tactic| walk_at "call") => `(tactic| ((with_reducible refine' Mm.w_append ?a1 ?a2 ?az); (case a1 => walk_at "sto"); (case a2 => (simp only [List.length_cons, List.length_nil]; decide)); dsimp only [List.cons_append, List.nil_append]))
local macro_rules
  | `(tactic| walk_at "gn") => `(tactic| repeat' (first
    | (with_reducible refine Mm.v_if ?_)
    | (walk_at "wp1"; try dsimp only [List.set_cons_zero, List.set_cons_succ, Bool.not_true, Bool.not_false])
    | (walk_at "wp2"; try dsimp only [Bool.not_true, Bool.not_false])
    | (with_reducible refine Mm.br_dec (fun e => ?_) (fun e => ?_))
    | walk_at "call"
    | walk_at "ge"
    | fail))
theorem PA_st : ∀ k n, PA k n → KSt k := fun _ _ h => h.1
theorem PA_once : ∀ k n, PA k n → PA (onceK k) n := fun k n h => by
  by_cases e : ∃ s, k = .one "keep" s
  · obtain ⟨s, rfl⟩ := e
    have : onceK (.one "keep" s) = .one "once" s := by
      show (if ("keep" : Str) = "keep" then Kd.one "once" s else Kd.one "keep" s) = _
      exact if_pos rfl
    rw [this]; exact h
  · have : onceK k = k := by
      cases k with
      | one w s => exact if_neg fun z => e ⟨s, by rw [z]⟩
      | _ => rfl
    rw [this]; exact h
theorem PA_one : ∀ s n, PA (.one "keep" s) n → PA (.one "once" s) n := fun _ _ h => h
theorem pre_nil (l : List Pth) : pre [] l = l.map pM := rfl
section
variable {S : Sto} {Q : MV → Sto → Prop}
theorem tr_sh {t : T} (h : OkP PA t) (hd : t.dep ≤ 20) : SeqAt.shaped t.d = true := sh_of (n := 60) ((T.sh PA_st t h).mono (by omega))
theorem tr_ne {t : T} (h : OkP PA t) (hd : t.dep ≤ 20) (q : Q (.bl false) S) : Ret (neV t.mv t.mv S) Q := w_neS (toD_fl (T.fl t)) (toD_fl (T.fl t)) (tr_sh h hd) q
theorem tr_eq {t : T} (h : OkP PA t) (hd : t.dep ≤ 20) (q : Q (.bl true) S) : Ret (Mm.eqV t.mv t.mv S) Q := w_eqS (toD_fl (T.fl t)) (toD_fl (T.fl t)) (tr_sh h hd) q
theorem pt_ne {ps : List Pth} (q : Q (.bl false) S) : Ret (neV (.tup (ps.map pM)) (.tup (ps.map pM)) S) Q := w_neS (toD_fl (fl_tup (fl_paths ps))) (toD_fl (fl_tup (fl_paths ps))) (sh_of (shd_tup (sh_paths ps))) q
theorem p_ne {p : Pth} (q : Q (.bl false) S) : Ret (neV (pM p) (pM p) S) Q := w_neS (toD_fl (p_fl p)) (toD_fl (p_fl p)) (sh_of (p_sh p)) q
theorem p_eq {p : Pth} (q : Q (.bl true) S) : Ret (Mm.eqV (pM p) (pM p) S) Q := w_eqS (toD_fl (p_fl p)) (toD_fl (p_fl p)) (sh_of (p_sh p)) q
theorem pl_ne {ps : List Pth} {a b : Nat} (ga : S.g a = .lst (ps.map pM)) (gb : S.g b = .lst (ps.map pM)) (q : Q (.bl false) S) : Ret (neV (.ref a) (.ref b) S) Q := w_neS (toD_lst ga (fl_paths ps)) (toD_lst gb (fl_paths ps)) (sh_of (shd_lst (sh_paths ps))) q
theorem filt_ok {a b k : Nat} {ls ks : List Pth} {e : Sl} (ga : S.g a = .lst (ls.map pM)) (gb : S.g b = .lst (ks.map pM)) (hk : e[k]? = some (some (.ref b))) (h16 : 16 < e.length) (hne : k ≠ 16) (hl : ls.length ≤ 1000000) :
    Ret (lcLoop [(a, ls.map pM)] (.nm 16) (blM (op2 notInDV (varM 16) (varM k))) (varM 16) e (ls.map pM) [] S) fun acc S' => S' = S ∧ acc = (ls.filter fun p => !decide (p ∈ ks)).map pM := by
  have sz : (1000001 : Nat) ≤ sizeLine := by decide
  refine w_lc0 (fun n acc S' => S' = S ∧ acc = ((ls.take n).filter fun p => !decide (p ∈ ks)).map pM) ⟨rfl, rfl⟩ ?_ ?_
  · rintro n x acc S' hx ⟨rfl, rfl⟩
    obtain ⟨p, hp, rfl, _⟩ := get_map hx
    have hn := (List.getElem?_eq_some_iff.1 hp).1
    refine ⟨ck_l ga, _, rfl, w_blM (w_op2 (w_var (x := pM p) (List.getElem?_set_self h16) (w_var (x := .ref b) (by rw [List.getElem?_set_ne (Ne.symm hne)]; exact hk) (w_ninD (in_lst gb) ⟨_, rfl, fun h => ?_, fun h => ?_⟩))))⟩
    · refine w_var (x := pM p) (List.getElem?_set_self h16) ?_
      refine ⟨?_, rfl, ?_⟩
      · have := List.length_filter_le (fun p => !decide (p ∈ ks)) (ls.take n)
        rw [List.length_map]
        rw [List.length_take] at this
        omega
      · rw [take_snoc hp, List.filter_append, List.map_append, List.filter_cons, if_pos h]; rfl
    · refine ⟨rfl, ?_⟩
      rw [take_snoc hp, List.filter_append, List.filter_cons, if_neg (by rw [h]; decide)]; simp
  · rintro acc S' ⟨rfl, rfl⟩
    rw [List.length_map, List.take_length]
    exact ⟨ck_l ga, rfl, rfl⟩
end
theorem dfilt_ok {S : Sto} {b : Nat} {ks : List Pth} {e : Sl} (H : Hd S 2 1) (gb : S.g b = .lst (ks.map pM)) (hb : b ≠ 2) (h1 : e[1]? = some (some (.ref 2))) (h16 : 16 < e.length) (hl : ks.length ≤ 1000000) :
    Ret (lcLoop [(b, ks.map pM)] (.nm 16) (blM (op2 Mm.eqV (opL m__law_draw (consM (varM 1) (consM (conM (.int 2)) nilM))) (conM (.int 0)))) (varM 16) e (ks.map pM) [] S) fun acc S' => (∃ ps : List Pth, acc = ps.map pM ∧ (∀ p ∈ ps, p ∈ ks) ∧ ps.length ≤ ks.length) ∧ Hd S' 2 1 ∧ But 2 S S' := by
  have sz : (1000001 : Nat) ≤ sizeLine := by decide
  refine w_lc0 (fun n acc S' => (∃ ps : List Pth, acc = ps.map pM ∧ (∀ p ∈ ps, p ∈ ks) ∧ ps.length ≤ n) ∧ Hd S' 2 1 ∧ But 2 S S') ⟨⟨[], rfl, fun p hp => (by cases hp), Nat.le_refl _⟩, H, ⟨rfl, fun _ _ => rfl⟩⟩ ?_ ?_
  · rintro n x acc S' hx ⟨⟨ps, rfl, a1, a2⟩, H', B⟩
    obtain ⟨p, hp, rfl, hm⟩ := get_map hx
    have hn := (List.getElem?_eq_some_iff.1 hp).1
    refine ⟨ck_l ((B.2 b hb).trans gb), _, rfl, w_blM (w_op2 (w_opL (w_cons (w_var (x := .ref 2) (by rw [List.getElem?_set_ne (by decide)]; exact h1) (w_cons (w_con (w_nil ?_)))))))⟩
    refine (draw H' (by decide) (by decide)).imp ?_
    rintro _ S2 ⟨⟨r, r0, r1, rfl⟩, H2, B2⟩
    walk_at "wq"
    refine br_dec (fun h => ?_) (fun h => ?_)
    · refine w_var (x := pM p) (List.getElem?_set_self h16) ?_
      refine ⟨by rw [List.length_map]; omega, ⟨ps ++ [p], by rw [List.map_append]; rfl, fun q hq => ?_, by rw [List.length_append, List.length_singleton]; omega⟩, H2, B.trans B2⟩
      rcases List.mem_append.1 hq with hq | hq
      · exact a1 q hq
      · rw [List.mem_singleton.1 hq]; exact hm
    · exact ⟨⟨ps, rfl, a1, by omega⟩, H2, B.trans B2⟩
  · rintro acc S' ⟨⟨ps, rfl, a1, a2⟩, H', B⟩
    rw [List.length_map] at a2
    exact ⟨ck_l ((B.2 b hb).trans gb), ⟨ps, rfl, a1, a2⟩, H', B⟩
theorem given_ok {S : Sto} {b : Nat} {ps : List Pth} {e : Sl} (H : Hd S 2 1) (hS : 4 ≤ S.n) (gb : S.g b = .lst (ps.map pM)) (hb : b ≠ 2) (hbn : b < S.n) (h1 : e[1]? = some (some (.ref 2))) (h16 : 16 < e.length) (hl : ps.length ≤ 1000000) :
    Ret (lcLoop [(b, ps.map pM)] (.nm 16) yesM (ifV (blM (op2 Mm.eqV (opL m__law_draw (consM (varM 1) (consM (conM (.int 2)) nilM))) (conM (.int 0)))) (opL lstOf (consM (varM 16) nilM)) (varM 16)) e (ps.map pM) [] S)
      fun acc S' => (acc.length = ps.length ∧ ∀ (i : Nat) (p : Pth), ps[i]? = some p → ∃ x, acc[i]? = some x ∧ PathAt S' x p) ∧ Hd S' 2 1 ∧ ExtH 2 S S' := by
  have sz : (1000001 : Nat) ≤ sizeLine := by decide
  refine Ret.imp (Q := fun acc S' => (acc.length = ps.length ∧ ∀ (i : Nat) (p : Pth), ps[i]? = some p → i < ps.length → ∃ x, acc[i]? = some x ∧ (x = pM p ∨ ∃ a, x = .ref a ∧ 4 ≤ a ∧ a < S'.n ∧ S'.g a = .lst (p.map .int))) ∧ Hd S' 2 1 ∧ ExtH 2 S S') ?_ ?_
  · refine w_lc0 (fun n acc S' => (acc.length = n ∧ ∀ (i : Nat) (p : Pth), ps[i]? = some p → i < n → ∃ x, acc[i]? = some x ∧ (x = pM p ∨ ∃ a, x = .ref a ∧ 4 ≤ a ∧ a < S'.n ∧ S'.g a = .lst (p.map .int))) ∧ Hd S' 2 1 ∧ ExtH 2 S S') ⟨⟨rfl, fun i p _ hi => absurd hi (Nat.not_lt_zero _)⟩, H, ExtH.refl⟩ ?_ ?_
    · rintro n x acc S' hx ⟨⟨a1, a2⟩, H', B⟩
      obtain ⟨p, hp, rfl, hm⟩ := get_map hx
      have hn := (List.getElem?_eq_some_iff.1 hp).1
      refine ⟨ck_l ((B.2 b hbn hb).trans gb), _, rfl, w_yes (br_t (w_ifV (w_blM (w_op2 (w_opL (w_cons (w_var (x := .ref 2) (by rw [List.getElem?_set_ne (by decide)]; exact h1) (w_cons (w_con (w_nil ?_))))))))))⟩
      refine (draw H' (by decide) (by decide)).imp ?_
      rintro _ S2 ⟨⟨r, r0, r1, rfl⟩, H2, B2⟩
      have old : ∀ (o : Option MO) (S3 : Sto) (y : MV), (S3 = S2 ∨ ∃ o, S3 = S2.add o) → (y = pM p ∨ ∃ a, y = .ref a ∧ 4 ≤ a ∧ a < S3.n ∧ S3.g a = .lst (p.map .int)) → (acc ++ [y]).length = n + 1 ∧ ∀ (i : Nat) (p : Pth), ps[i]? = some p → i < n + 1 → ∃ x, (acc ++ [y])[i]? = some x ∧ (x = pM p ∨ ∃ a, x = .ref a ∧ 4 ≤ a ∧ a < S3.n ∧ S3.g a = .lst (p.map .int)) := by
        intro _ S3 y hS3 hy
        refine ⟨by rw [List.length_append, a1]; rfl, fun i q hq hi => ?_⟩
        by_cases hin : i < n
        · obtain ⟨x, h2, h3⟩ := a2 i q hq hin
          refine ⟨x, by rw [List.getElem?_append_left (by omega)]; exact h2, h3.imp id ?_⟩
          rintro ⟨a, e1, c1, c2, c3⟩
          have d1 : a < S2.n := by rw [B2.1]; exact c2
          have d2 : S2.g a = .lst (q.map .int) := (B2.2 a (by omega)).trans c3
          rcases hS3 with rfl | ⟨o, rfl⟩
          · exact ⟨a, e1, c1, d1, d2⟩
          · exact ⟨a, e1, c1, Nat.lt_succ_of_lt d1, (add_ne (Nat.ne_of_lt d1)).trans d2⟩
        · have : i = n := by omega
          subst this
          rw [hp] at hq; cases hq
          exact ⟨y, by rw [← a1]; simp, hy⟩
      walk_at "wq"
      refine br_dec (fun h => ?_) (fun h => ?_)
      · refine w_opL (w_cons (w_var (x := pM p) (List.getElem?_set_self h16) (w_nil (w_lstT ?_))))
        exact ⟨by omega, old none _ _ (.inr ⟨_, rfl⟩) (.inr ⟨_, rfl, by have := B.1; have := B2.1; omega, Nat.lt_succ_self _, add_same⟩), H2.add, (B.trans B2.h).add⟩
      · refine w_var (x := pM p) (List.getElem?_set_self h16) ?_
        exact ⟨by omega, old none _ _ (.inl rfl) (.inl rfl), H2, B.trans B2.h⟩
    · rintro acc S' ⟨⟨a1, a2⟩, H', B⟩
      rw [List.length_map] at a1 a2
      exact ⟨ck_l ((B.2 b hbn hb).trans gb), ⟨a1, a2⟩, H', B⟩
  · rintro acc S' ⟨⟨a1, a2⟩, H', B⟩
    refine ⟨⟨a1, fun i p hp => ?_⟩, H', B⟩
    obtain ⟨x, h1, h2⟩ := a2 i p hp (List.getElem?_eq_some_iff.1 hp).1
    exact ⟨x, h1, h2.imp id fun ⟨a, e1, _, c2, c3⟩ => ⟨a, e1, c2, c3⟩⟩
theorem tups_ok {S : Sto} {b : Nat} {ps : List Pth} {xs : List MV} {e : Sl} (gb : S.g b = .lst xs) (hxl : xs.length = ps.length) (hx : ∀ (i : Nat) (p : Pth), ps[i]? = some p → ∃ x, xs[i]? = some x ∧ PathAt S x p) (h16 : 16 < e.length) (hl : ps.length ≤ 1000000) :
    Ret (lcLoop [(b, xs)] (.nm 16) yesM (opL tupOf (consM (varM 16) nilM)) e xs [] S) fun acc S' => S' = S ∧ acc = ps.map pM := by
  have sz : (1000001 : Nat) ≤ sizeLine := by decide
  refine w_lc0 (fun n acc S' => S' = S ∧ acc = (ps.take n).map pM) ⟨rfl, rfl⟩ ?_ ?_
  · rintro n x acc S' hxn ⟨rfl, rfl⟩
    have hn : n < ps.length := by rw [← hxl]; exact (List.getElem?_eq_some_iff.1 hxn).1
    have hp := List.getElem?_eq_getElem hn
    obtain ⟨y, h1, h2⟩ := hx n _ hp
    rw [hxn] at h1; cases h1
    refine ⟨ck_l gb, _, rfl, w_yes (br_t (w_opL (w_cons (w_var (x := x) (List.getElem?_set_self h16) (w_nil (w_tupP h2 ?_))))))⟩
    exact ⟨by rw [List.length_map, List.length_take]; omega, rfl, by rw [take_snoc hp, List.map_append]; rfl⟩
  · rintro acc S' ⟨rfl, rfl⟩
    rw [hxl, List.take_length]
    exact ⟨ck_l gb, rfl, rfl⟩
end Law
end

section
namespace Law
open PySem L2 Mm
/-! the step of the pure proofs -/
local macro_rules
  | `(tactic| walk_at "wp side") => `(tactic| first | assumption | omega | decide)
local macro_rules
  | `(tactic| walk_at "wp1") => `(tactic| with_reducible first
    | refine Mm.v_seq ?_ | refine Mm.v_nx ?_ | refine Mm.v_asg ?_ | refine Mm.v_asgP ?_ | refine Mm.v_ret ?_ | refine Mm.v_retN ?_ | refine Mm.v_drop ?_ | refine Mm.v_set ?_ | refine Mm.v_aug ?_ | refine Mm.v_for ?_ | refine Mm.v_brk ?_ | refine Mm.v_ct ?_
    | refine Mm.w_con ?_ | refine Mm.w_op2 ?_ | refine Mm.w_op1 ?_ | refine Mm.w_opL ?_ | refine Mm.w_cons ?_ | refine Mm.w_nil ?_
    | refine Mm.w_add ?_ | refine Mm.w_sub ?_ | refine Mm.w_neg ?_ | refine Mm.w_lt ?_ | refine Mm.w_le ?_ | refine Mm.w_gt ?_ | refine Mm.w_ge ?_ | refine Mm.w_eqi ?_ | refine Mm.w_nei ?_ | refine Mm.w_eqs ?_ | refine Mm.w_nes ?_ | refine Mm.w_int ?_ | refine Mm.w_abs ?_ | refine Mm.w_isN ?_ | refine Mm.w_notN ?_ | refine Mm.w_min ?_ | refine Mm.w_max ?_
    | refine Mm.w_tru ?_ | refine Mm.w_blM ?_ | refine Mm.w_andB ?_ | refine Mm.w_orB ?_ | refine Mm.w_notB ?_ | refine Mm.w_ifV ?_ | refine Mm.w_andV ?_ | refine Mm.w_orV ?_ | refine Mm.w_notV ?_ | refine Mm.w_truB ?_ | refine Mm.w_truI ?_ | refine Mm.w_truN ?_ | refine Mm.w_truT ?_
    | refine Mm.w_dNewK ?_ | refine Mm.w_dNewT ?_ | refine Mm.w_iter ?_ | refine Mm.w_strS ?_ | refine Mm.w_inT ?_ | refine Mm.w_idxTM ?_ | refine Mm.v_setTM ?_ | refine Mm.v_par ?_ | refine Mm.w_met ?_ | refine Mm.w_itmM ?_ | refine Mm.w_enm ?_ | refine Mm.w_enm2 ?_ | refine Mm.w_zip ?_ | refine Mm.w_rev ?_ | refine Mm.w_bm ?_ | refine Mm.w_lc ?_ | refine Mm.w_yes ?_ | refine Mm.br_t ?_ | refine Mm.br_f ?_ | refine Mm.w_slc ?_ | refine Mm.w_pno ?_ | refine Mm.w_pso ?_ | refine Mm.w_lenT ?_ | refine Mm.w_tupT ?_ | refine Mm.w_lstT ?_ | refine Mm.w_cutT ?_)
local macro_rules
  | `(tactic| walk_at "sto") => `(tactic| first
    | with_reducible assumption
    | with_reducible exact Mm.put_same
    | with_reducible exact Mm.add_same
    | (with_reducible refine (Mm.put_ne (by first | assumption | exact Ne.symm (by assumption) | ((try dsimp only [Mm.Sto.add, Mm.Sto.put]); omega))).trans ?_; walk_at "sto")
    | (with_reducible refine (Mm.add_ne (by first | assumption | exact Ne.symm (by assumption) | ((try dsimp only [Mm.Sto.add, Mm.Sto.put]); omega))).trans ?_; walk_at "sto")
    | fail)
local macro_rules
  | `(tactic| walk_at "lk") => `(tactic| first | with_reducible exact Mm.lk_here | with_reducible exact Mm.lk_nil | with_reducible assumption | (with_reducible apply Mm.lk_next; (· decide +kernel); (· walk_at "lk")) | fail)
local macro_rules
  | `(tactic| walk_at "pf") => `(tactic| first | with_reducible exact Mm.pf_nil | with_reducible exact Mm.pf_here | (with_reducible apply Mm.pf_next; (· decide +kernel); (· walk_at "pf")) | fail)
local macro_rules
  | `(tactic| walk_at "vf") => `(tactic| (refine' Mm.v_fldv ?a1 ?a2 ?a3 ?a4 ?a5 ?a6 ?a7; (case a1 => rfl); (case a2 => rfl); (case a3 => exact Mm.add_same); (case a4 => simp); (case a5 => simp only [List.length_cons, List.length_nil]; decide); (case a6 => walk_at "pf"); rw [Mm.add_put]))
local macro_rules
  | `(tactic| walk_at "tb") => `(tactic| first | with_reducible exact Mm.tb_here | (with_reducible apply Mm.tb_next; (· simp); (· walk_at "tb")) | fail)
local macro_rules
  | `(tactic| walk_at "wp2") => `(tactic| first
    | ((with_reducible apply Mm.w_var); · rfl)
    | ((with_reducible apply Mm.ex_mk); · with_reducible refine Mm.rng1 (by (try simp only [List.length_map]); omega))
    | ((with_reducible apply Mm.ex_mk); · with_reducible refine Mm.rng2 (by (try simp only [List.length_map]); omega))
    | ((with_reducible apply Mm.ex_mk); · rfl)
    | ((with_reducible refine Mm.br_true ?_ ?_); · rfl)
    | ((with_reducible refine Mm.br_false ?_ ?_); · rfl)
    | ((with_reducible refine Mm.w_mod ?_ ?_); · walk_at "wp side")
    | ((with_reducible refine Mm.w_div ?_ ?_ ?_); (· walk_at "wp side"); (· (first | decide | assumption)))
    | ((with_reducible refine Mm.w_mul ?_ ?_); · exact .inl (.inr (by decide)))
    | ((with_reducible refine Mm.w_mul ?_ ?_); · exact .inl (.inl (by decide)))
    | ((with_reducible refine Mm.w_mul ?_ ?_); · exact .inl (.inl (by omega)))
    | ((with_reducible refine Mm.w_mul ?_ ?_); · exact .inl (.inr (by omega)))
    | ((with_reducible refine Mm.w_pow ?_ ?_); · decide)
    | ((with_reducible refine Mm.w_lstV ?_ ?_); · (simp only [List.length_cons, List.length_nil]; decide))
    | ((with_reducible refine Mm.w_tupV ?_ ?_); · (simp only [List.length_cons, List.length_nil]; decide))
    | ((with_reducible apply Mm.w_idxL); (· walk_at "sto"); (· first | exact Mm.atI0 | exact Mm.atI1 | exact Mm.atI2 | exact Mm.atIl | rfl))
    | ((with_reducible apply Mm.w_fld); (· walk_at "sto"); (· simp); (· walk_at "lk"))
    | ((with_reducible apply Mm.w_isI); (· walk_at "sto"); (· walk_at "tb"))
    | ((with_reducible apply Mm.w_idxC); (· walk_at "sto"); (· rfl))
    | ((with_reducible apply Mm.w_idxT); · first | exact Mm.atI0 | exact Mm.atI1 | exact Mm.atI2 | rfl)
    | ((with_reducible apply Mm.w_lenL); · walk_at "sto")
    | ((with_reducible apply Mm.w_lenC); · walk_at "sto")
    | ((with_reducible apply Mm.w_lenK); · walk_at "sto")
    | ((with_reducible apply Mm.w_tupL); · walk_at "sto")
    | ((with_reducible apply Mm.w_lstL); · walk_at "sto")
    | ((with_reducible apply Mm.w_cutL); · walk_at "sto")
    | ((with_reducible apply Mm.w_revL); · walk_at "sto")
    | ((with_reducible apply Mm.w_truL); · walk_at "sto")
    | ((with_reducible apply Mm.ex_mk); · exact Mm.it_lst (by walk_at "sto"))
    | ((with_reducible apply Mm.ex_mk); · exact Mm.it_con (by walk_at "sto"))
    | ((with_reducible apply Mm.ex_mk); · exact Mm.it_en2L (by walk_at "sto"))
    | ((with_reducible apply Mm.ex_mk); · exact Mm.it_en2C (by walk_at "sto"))
    | ((with_reducible apply Mm.ex_mk); · exact Mm.set_lst (by walk_at "sto") rfl)
    | ((with_reducible refine And.intro ?_ ?_); · exact Mm.ty_lst (by walk_at "sto"))
    | fail)
local macro_rules
  | `(tactic| walk_at "wq") => `(tactic| repeat' (first | (walk_at "wp1"; try dsimp only [List.set_cons_zero, List.set_cons_succ, Bool.not_true, Bool.not_false]) | (walk_at "wp2"; try dsimp only [Bool.not_true, Bool.not_false]) | fail))
local macro_rules
  | `(tactic| walk_at "wp") => `(tactic| repeat' (first | (with_reducible refine Mm.v_if ?_) | (walk_at "wp1"; try dsimp only [List.set_cons_zero, List.set_cons_succ, Bool.not_true, Bool.not_false]) | (walk_at "wp2"; try dsimp only [Bool.not_true, Bool.not_false]) | fail))
local macro_rules
  | `(tactic| walk_at "def") => `(tactic| (refine Mm.w_def rfl ?_; simp only [List.map_cons, List.map_nil, List.cons_append, List.nil_append, List.replicate, Nat.reduceSub, List.replicate_succ, List.replicate_zero]))
/-! the steps of the makers of inputs -/
local macro_rules
  | `(tactic| walk_at "gx") => `(tactic| first | with_reducible assumption | (with_reducible refine Law.GX.add ?_; walk_at "gx") | (with_reducible refine' Law.GX.putA ?a1 ?a2; (case a1 => walk_at "gx"); (case a2 => walk_at "gx")) | fail)
local macro_rules
  | `(tactic| walk_at "pk") => `(tactic| exact trivial)
local macro_rules
  | `(tactic| walk_at "tl") => `(tactic| with_unfolding_all exact of_decide_eq_true (p := _ ≤ 1000) rfl)
local macro_rules
  | `(tactic| walk_at "tm") => `(tactic| repeat' (with_reducible first
    | assumption
    | exact Law.TMs.nil | apply Law.TMs.cons
    | exact Law.AllM.nil | apply Law.AllM.cons
    | exact Law.StL.nil | apply Law.StL.cons | exact Law.InL.nil | apply Law.InL.cons
    | exact Law.RowL.nil | apply Law.RowL.cons
    | apply Law.TM.num | apply Law.TM.nam | apply Law.TM.tt | apply Law.TM.ff | apply Law.TM.no | apply Law.TM.ask
    | apply Law.TM.fn | apply Law.TM.dos | apply Law.TM.call | apply Law.TM.op | apply Law.TM.cond | apply Law.TM.wind | apply Law.TM.mark | apply Law.TM.shw
    | apply Law.TM.bnd (.inl rfl) | apply Law.TM.bnd (.inr rfl)
    | apply Law.TM.oneL (by assumption) (by decide +kernel) | apply Law.TMs.cutL (by assumption) (by decide +kernel)
    | apply Law.TM.one (.inl rfl) | apply Law.TM.one (.inr (.inl rfl)) | apply Law.TM.one (.inr (.inr (.inl rfl))) | apply Law.TM.one (.inr (.inr (.inr rfl)))
    | walk_at "pk"
    | walk_at "tl"
    | fail))
local macro_rules
  | `(tactic| walk_at "mx") => `(tactic| first | (simp only [Nat.max_le, Nat.add_zero, Nat.zero_add, Nat.add_le_add_iff_right]; done) | ((simp only [Nat.max_le, Nat.add_zero, Nat.zero_add, Nat.add_le_add_iff_right]); (repeat' apply And.intro) <;> omega) | omega)
local macro_rules
  | `(tactic| walk_at "ge") => `(tactic| (refine' ⟨Law.TM.mono ?h1 ?h2 ?h3, ?h4⟩; (case h1 => walk_at "tm"); (case h2 => walk_at "mx"); (case h3 => walk_at "mx"); (case h4 => walk_at "gx")))
local macro_rules
  | `(tactic| walk_at "call") => `(tactic| (with_reducible refine' Law.GX.drawQ ?a1 ?a2 ?a3 ?az; (case a1 => walk_at "gx"); (case a2 => first | decide | omega); (case a3 => first | decide | omega); (intro r S' r0 r1 g)))
local macro_rules
  | `(tactic| walk_at "call") => `(tactic| (with_reducible refine' Law.GX.pickSQ ?a1 ?a2 ?a3 ?a4 ?az; (case a1 => walk_at "gx"); (case a2 => walk_at "tm"; done); (case a3 => first | decide | (simp only [List.length_cons, List.length_nil]; omega)); (case a4 => first | decide | (simp only [List.length_cons, List.length_nil]; omega)); (intro s S' hs g)))
local macro_rules
  | `(tactic| walk_at "call") => `(tactic| (with_reducible refine' Law.GX.pickIQ ?a1 ?a2 ?a3 ?a4 ?az; (case a1 => walk_at "gx"); (case a2 => walk_at "tm"; done); (case a3 => first | decide | (simp only [List.length_cons, List.length_nil]; omega)); (case a4 => first | decide | (simp only [List.length_cons, List.length_nil]; omega)); (intro s S' hs g)))
local macro_rules
  | `(tactic| walk_at "call") => `(tactic| ((with_reducible refine' Law.w_inSt ?a1 ?az); (case a1 => walk_at "tm"; done)))
local macro_rules
  | `(tactic| walk_at "call") => `(tactic| ((with_reducible refine' Mm.w_addt ?a1 ?az); (case a1 => (simp only [List.length_cons, List.length_nil]; decide)); dsimp only [List.cons_append, List.nil_append]))
local macro_rules
  | `(tactic| walk_at "call") => `(tactic| ((with_reducible refine' Mm.w_addl ?a1 ?a2 ?a3 ?az); (case a1 => walk_at "sto"); (case a2 => walk_at "sto"); (case a3 => (simp only [List.length_cons, List.length_nil]; decide)); dsimp only [List.cons_append, List.nil_append]))
local macro_rules
  | `(tactic| walk_at "call") => `(tactic| ((with_reducible refine' Mm.w_append ?a1 ?a2 ?az); (case a1 => walk_at "sto"); (case a2 => (simp only [List.length_cons, List.length_nil]; decide)); dsimp only [List.cons_append, List.nil_append]))
local macro_rules
  | `(tactic| walk_at "gn") => `(tactic| repeat' (first
    | (with_reducible refine Mm.v_if ?_)
    | (walk_at "wp1"; try dsimp only [List.set_cons_zero, List.set_cons_succ, Bool.not_true, Bool.not_false])
    | (walk_at "wp2"; try dsimp only [Bool.not_true, Bool.not_false])
    | (with_reducible refine Mm.br_dec (fun e => ?_) (fun e => ?_))
    | walk_at "call"
    | walk_at "ge"
    | fail))
noncomputable def b_tail (cl : Nat → Addr) : SM := (seqM (asgM (.nm 9) (lcM (iterM (varM 7)) (.nm 16) yesM (ifV (blM (op2 eqV (opL m__law_draw (consM (varM 1) (consM (conM (.int 2)) nilM))) (conM (.int 0)))) (opL lstOf (consM (varM 16) nilM)) (varM 16)) [16]))
 (seqM (ifM (orB (blM (op2 neV (opL (m_with_once cl) (consM (varM 4) (consM (varM 9) nilM))) (varM 8))) (orB (blM (op2 neV (lcM (iterM (varM 9)) (.nm 16) yesM (opL tupOf (consM (varM 16) nilM)) [16]) (varM 7))) (blM (op2 neV (opL (m_with_once cl) (consM (varM 4) (consM (opL tupOf (consM (varM 7) nilM)) nilM))) (varM 8)))))
 (retM (conM (.bl false)))
 nextM)
 (seqM (asgM (.nm 10) (opL (m_keep_paths cl) (consM (varM 8) nilM)))
 (seqM (ifM (orB (blM (op2 neV (varM 10) (opL tupOf (consM (lcM (iterM (varM 5)) (.nm 16) (blM (op2 notInDV (varM 16) (varM 7))) (varM 16) [16]) nilM)))) (blM (op2 neV (opL (m_with_once cl) (consM (varM 4) (consM (opL lstV nilM) nilM))) (varM 4))))
 (retM (conM (.bl false)))
 nextM)
 (seqM (asgM (.nm 11) (lcM (iterM (opL (m__law_paths cl 24) (consM (varM 4) (consM (opL tupV nilM) nilM)))) (.nm 16) (blM (op2 notInDV (varM 16) (varM 5))) (varM 16) [16]))
 (seqM (asgM (.nm 12) (ifV (blM (op2 gtV (opL lenV (consM (varM 11) nilM)) (conM (.int 0)))) (opL lstV (consM (op2 idxV (varM 11) (opL m__law_draw (consM (varM 1) (consM (opL lenV (consM (varM 11) nilM)) nilM)))) nilM)) (opL lstV nilM)))
 (seqM (asgM (.nm 12) (op2 addV (varM 12) (opL lstV (consM (op2 repTV (opL tupV (consM (conM (.int 0)) nilM)) (conM (.int 31))) (consM (opL tupV (consM (op1 negV (conM (.int 1))) nilM)) (consM (opL tupV (consM (conM (.int 11)) nilM)) (consM (ifV (blM (op2 gtV (opL lenV (consM (varM 5) nilM)) (conM (.int 0)))) (op2 addV (op2 idxV (varM 5) (conM (.int 0))) (opL tupV (consM (conM (.int 99)) nilM))) (opL tupV (consM (conM (.int 99)) nilM))) nilM)))))))
 (seqM (asgM (.nm 13) (op2 idxV (varM 12) (opL m__law_draw (consM (varM 1) (consM (opL lenV (consM (varM 12) nilM)) nilM)))))
 (seqM (asgM (.nm 14) (op2 idxV (varM 12) (opL m__law_draw (consM (varM 1) (consM (opL lenV (consM (varM 12) nilM)) nilM)))))
 (seqM (asgM (.nm 15) (opL m__law_draw (consM (varM 1) (consM (op2 addV (opL lenV (consM (varM 7) nilM)) (conM (.int 1))) nilM))))
 (seqM (ifM (blM (op2 neV (opL (m__law_refused cl) (consM (varM 4) (consM (op2 addV (op2 addV (op2 addV (slcM (varM 7) none (some (varM 15))) (opL lstV (consM (opL lstOf (consM (varM 13) nilM)) nilM))) (slcM (varM 7) (some (varM 15)) none)) (opL lstV (consM (varM 14) nilM))) nilM))) (varM 13)))
 (retM (conM (.bl false)))
 nextM)
 (retM (andV (op2 eqV (opL (m_with_once cl) (consM (varM 4) (consM (varM 7) nilM))) (varM 8)) (orV (op2 eqV (varM 7) (opL lstV nilM)) (op2 eqV (opL (m__law_refused cl) (consM (varM 8) (consM (varM 7) nilM))) (op2 idxV (varM 7) (conM (.int 0))))))))))))))))))
structure LK (b5 a7 : Nat) (ks ps : List Pth) (S : Sto) : Prop where
  hd : Hd S 2 1
  n4 : 4 ≤ S.n
  n5 : b5 < S.n
  n7 : a7 < S.n
  g5 : S.g b5 = .lst (ks.map pM)
  g7 : S.g a7 = .lst (ps.map pM)
  d5 : b5 ≠ 2
  d7 : a7 ≠ 2
theorem LK.ext {b5 a7 : Nat} {ks ps : List Pth} {S S' : Sto} (h : LK b5 a7 ks ps S) (E : Mm.Ext S S') : LK b5 a7 ks ps S' := ⟨h.hd.ext E, Nat.le_trans h.n4 E.1, Nat.lt_of_lt_of_le h.n5 E.1, Nat.lt_of_lt_of_le h.n7 E.1, (E.2 _ h.n5).trans h.g5, (E.2 _ h.n7).trans h.g7, h.d5, h.d7⟩
theorem LK.extH {b5 a7 : Nat} {ks ps : List Pth} {S S' : Sto} (h : LK b5 a7 ks ps S) (H' : Hd S' 2 1) (E : ExtH 2 S S') : LK b5 a7 ks ps S' := ⟨H', Nat.le_trans h.n4 E.1, Nat.lt_of_lt_of_le h.n5 E.1, Nat.lt_of_lt_of_le h.n7 E.1, (E.2 _ h.n5 h.d5).trans h.g5, (E.2 _ h.n7 h.d7).trans h.g7, h.d5, h.d7⟩
theorem LK.add {b5 a7 : Nat} {ks ps : List Pth} {S : Sto} {o : MO} (h : LK b5 a7 ks ps S) : LK b5 a7 ks ps (S.add o) := h.ext Ext.refl.add
theorem LK.but {b5 a7 : Nat} {ks ps : List Pth} {S S' : Sto} (h : LK b5 a7 ks ps S) (H' : Hd S' 2 1) (B : But 2 S S') : LK b5 a7 ks ps S' := h.extH H' B.h
theorem nk_long {t : T} {p : Pth} (hd : t.dep ≤ 10) (h : 11 ≤ p.length) : p ∉ keepsA t := fun z => by
  have := sel_short z
  omega
theorem nk_big {t : T} {p : Pth} {c : Int} (ht : OkP PA t) (hc : c ∈ p) (h : c < 0 ∨ 11 ≤ c) : p ∉ keepsA t := fun z => by
  obtain ⟨u, hu, _⟩ := (sel_mem_at p t).1 z
  have := at_few (m := 11) (fun k n (z : PA k n) => z.2) p t u ht hu c hc
  omega
theorem p_at {ps : List Pth} {S : Sto} : ∀ (i : Nat) (p : Pth), ps[i]? = some p → ∃ x, (ps.map pM)[i]? = some x ∧ PathAt S x p := fun i p h => ⟨pM p, by rw [List.getElem?_map, h]; rfl, .inl rfl⟩
theorem at_pM {os : List Pth} {r : Int} (h0 : 0 ≤ r) (h1 : r < os.length) : ∃ q ∈ os, atI (os.map pM) r = some (pM q) := by
  obtain ⟨x, hx, h2, h3⟩ := atI_mem (xs := os.map pM) h0 (by rw [List.length_map]; exact h1)
  obtain ⟨q, hq, rfl⟩ := List.mem_map.1 hx
  exact ⟨q, hq, h3⟩
def PL (S : Sto) (xs : List MV) (ps : List Pth) : Prop := xs.length = ps.length ∧ ∀ (i : Nat) (p : Pth), ps[i]? = some p → ∃ x, xs[i]? = some x ∧ PathAt S x p
theorem PL.app {S : Sto} {xs ys : List MV} {ps qs : List Pth} (h1 : PL S xs ps) (h2 : PL S ys qs) : PL S (xs ++ ys) (ps ++ qs) := by
  refine ⟨by rw [List.length_append, List.length_append, h1.1, h2.1], fun i p hp => ?_⟩
  have l1 := h1.1
  by_cases h : i < ps.length
  · rw [List.getElem?_append_left h] at hp
    obtain ⟨x, a, b⟩ := h1.2 i p hp
    exact ⟨x, by rw [List.getElem?_append_left (by omega)]; exact a, b⟩
  · rw [List.getElem?_append_right (by omega)] at hp
    obtain ⟨x, a, b⟩ := h2.2 _ p hp
    exact ⟨x, by rw [List.getElem?_append_right (by omega), l1]; exact a, b⟩
theorem PL.map {S : Sto} {ps : List Pth} : PL S (ps.map pM) ps := ⟨by simp, p_at⟩
theorem PL.one {S : Sto} {x : MV} {p : Pth} (h : PathAt S x p) : PL S [x] [p] := ⟨rfl, fun i q hq => by
  cases i with
  | zero => cases hq; exact ⟨x, rfl, h⟩
  | succ i => cases hq⟩
theorem ins_at {ps : List Pth} {m : Nat} {bad aga : Pth} (h : m ≤ ps.length) : (ps.take m ++ [bad] ++ ps.drop m ++ [aga])[m]? = some bad ∧ ∀ (i : Nat) (p : Pth), i < m → (ps.take m ++ [bad] ++ ps.drop m ++ [aga])[i]? = some p → p ∈ ps := by
  have l : (ps.take m).length = m := by rw [List.length_take]; omega
  rw [List.append_assoc, List.append_assoc]
  refine ⟨by rw [List.getElem?_append_right (by omega), l, Nat.sub_self]; rfl, fun i p hi hp => ?_⟩
  rw [List.getElem?_append_left (by omega)] at hp
  exact List.mem_of_mem_take (List.mem_of_getElem? hp)
theorem nil_eqv (ps : List Pth) : PyData.eqv (.list (ps.map pD)) (.list (([] : List Pth).map pD)) = decide (ps = []) := by cases ps <;> rfl
theorem law_tail {cl : Nat → Addr} {S : Sto} {b5 a7 : Nat} {t w : T} {ps : List Pth} {n2 n3 : MV} (K : LK b5 a7 (keepsA t) ps S) (hps : ∀ p ∈ ps, p ∈ keepsA t) (hpl : ps.length ≤ 20001) (ht : OkP PA t) (hd : t.dep ≤ 10) (hs : t.size ≤ 20000) (hw : w = chgA (fun q => decide (q ∈ ps)) t) (wP : OkP PA w) (wK : keepsA w = (keepsA t).filter fun p => !decide (p ∈ ps)) (wd : w.dep = t.dep) (ws : w.size = t.size) :
    RetS (b_tail cl [some (.ref 0), some (.ref 2), some n2, some n3, some t.mv, some (.ref b5), some (.tup ((keepsA t).map pM)), some (.ref a7), some w.mv, none, none, none, none, none, none, none, none] S) (fun _ _ => MV.non = MV.bl true) { rt := fun x _ => x = .bl true } := by
  have sz : (16777216 : Nat) ≤ sizeLine := by decide
  have hkl : (keepsA t).length ≤ t.size := sel_len isKeep t
  unfold b_tail
  have g7 := K.g7
  walk_at "wq"
  refine (given_ok K.hd K.n4 g7 K.d7 K.n7 rfl (by simp [wipeE]) (by omega)).imp ?_
  rintro gs S1 ⟨⟨gl, gx⟩, H1, E1⟩
  replace K := (K.extH H1 E1).add (o := .lst gs)
  have Pz2 : Pz (S1.add (.lst gs)) (.ref S1.n) ps := Pz.lst (Nat.lt_succ_self _) add_same gl (fun i p hp => let ⟨x, h1, h2⟩ := gx i p hp; ⟨x, h1, h2.ext Ext.refl.add⟩)
  have gg : (S1.add (.lst gs)).g S1.n = .lst gs := add_same
  have gn : S1.n < (S1.add (.lst gs)).n := Nat.lt_succ_self _
  replace gx := fun (i : Nat) (p : Pth) (hp : ps[i]? = some p) => (let ⟨x, h1, h2⟩ := gx i p hp; ⟨x, h1, h2.ext Ext.refl.add⟩ : ∃ x, gs[i]? = some x ∧ PathAt (S1.add (.lst gs)) x p)
  walk_at "wq"
  generalize S1.add (.lst gs) = S2 at *
  generalize S1.n = b9 at *
  clear g7 E1 H1
  refine v_if (w_orB (w_blM ?_))
  walk_at "wq"
  refine (once_ok (hP := PA_st) (hC := PA_once) (hO := PA_one) ht (by omega) (by omega) Pz2 hps).imp ?_
  rintro _ S3 ⟨rfl, E3⟩
  rw [← hw]
  replace K := K.ext E3
  replace gg := (E3.2 _ gn).trans gg
  replace gx := fun (i : Nat) (p : Pth) (hp : ps[i]? = some p) => (let ⟨x, h1, h2⟩ := gx i p hp; ⟨x, h1, h2.ext E3⟩ : ∃ x, gs[i]? = some x ∧ PathAt S3 x p)
  walk_at "wq"
  refine tr_ne wP (by omega) ?_
  walk_at "wq"
  refine (tups_ok gg gl gx (by simp [wipeE]) (by omega)).imp ?_
  rintro _ S4 ⟨rfl, rfl⟩
  replace K := K.add (o := .lst (ps.map pM))
  have g7 := K.g7
  walk_at "wq"
  refine pl_ne add_same g7 ?_
  walk_at "wq"
  refine (once_ok (hP := PA_st) (hC := PA_once) (hO := PA_one) ht (by omega) (by omega) (Pz.tup (by simp) p_at) hps).imp ?_
  rintro _ S5 ⟨rfl, E5⟩
  rw [← hw]
  replace K := K.ext E5
  walk_at "wq"
  refine tr_ne wP (by omega) ?_
  walk_at "wq"
  clear gg gx g7 Pz2 gn gl
  refine (keep_paths_ok wP.ok (by omega) (by omega)).imp ?_
  rintro _ S6 ⟨rfl, E6⟩
  rw [wK]
  replace K := K.ext E6
  have g5 := K.g5
  have g7 := K.g7
  walk_at "wq"
  refine v_if (w_orB (w_blM ?_))
  walk_at "wq"
  refine (filt_ok (k := 7) g5 g7 rfl (by simp [wipeE]) (by decide) (by omega)).imp ?_
  rintro _ S7 ⟨rfl, rfl⟩
  replace K := K.add (o := .lst (((keepsA t).filter fun p => !decide (p ∈ ps)).map pM))
  walk_at "wq"
  refine pt_ne ?_
  walk_at "wq"
  replace K := K.add (o := .lst [])
  refine (once_ok (hP := PA_st) (hC := PA_once) (hO := PA_one) (ps := []) ht (by omega) (by omega) (Pz.lst (Nat.lt_succ_self _) add_same rfl fun i p hp => by cases hp) (fun p hp => by cases hp)).imp ?_
  rintro _ S8 ⟨rfl, E8⟩
  replace K := K.ext E8
  have hno : (fun q : Pth => decide (q ∈ ([] : List Pth))) = fun _ => false := by funext q; simp
  rw [hno, chgA_no]
  walk_at "wq"
  refine tr_ne ht (by omega) ?_
  walk_at "wq"
  clear g5 g7 hno
  refine (lpaths_ok 24 t [] _ (by omega) ht.ok (by omega) (by simp; omega)).imp ?_
  rintro _ S9 ⟨b, rfl, gb, ba, bb, E9⟩
  rw [pre_nil] at gb
  replace K := K.ext E9
  have g5 := K.g5
  have hpal : (pathsA t).length ≤ t.size := sel_len (fun _ => true) t
  walk_at "wq"
  refine (filt_ok (k := 5) gb g5 rfl (by simp [wipeE]) (by decide) (by omega)).imp ?_
  rintro _ S10 ⟨rfl, rfl⟩
  have hon : ∀ p ∈ (pathsA t).filter (fun p => !decide (p ∈ keepsA t)), p ∉ keepsA t := fun p hp => by simpa using (List.mem_filter.1 hp).2
  have hol := Nat.le_trans (List.length_filter_le (fun p => !decide (p ∈ keepsA t)) (pathsA t)) hpal
  generalize (pathsA t).filter (fun p => !decide (p ∈ keepsA t)) = os at *
  have d11 : S10.n ≠ 2 := by have := K.n4; omega
  replace K := K.add (o := .lst (os.map pM))
  have g11 : (S10.add (.lst (os.map pM))).g S10.n = .lst (os.map pM) := add_same
  clear gb g5 ba bb
  generalize S10.n = b11 at *
  generalize S10.add (.lst (os.map pM)) = S11 at *
  clear E3 E5 E6 E8 E9
  generalize (MV.tup (List.map pM (List.filter (fun p => !decide (p ∈ ps)) (keepsA t)))) = n10
  refine v_seq (v_mid (fun e S => LK b5 a7 (keepsA t) ps S ∧ ∃ (a : Nat) (qs : List Pth), e = [some (.ref 0), some (.ref 2), some n2, some n3, some t.mv, some (.ref b5), some (.tup ((keepsA t).map pM)), some (.ref a7), some w.mv, some (.ref b9), some n10, some (.ref b11), some (.ref a), none, none, none, none] ∧ a < S.n ∧ a ≠ 2 ∧ S.g a = .lst (qs.map pM) ∧ (∀ p ∈ qs, p ∉ keepsA t) ∧ qs.length ≤ 1) ?_ ?_)
  · walk_at "wq"
    refine br_dec (fun e => ?_) (fun e => ?_)
    · have e : 0 < os.length := by simpa using e
      walk_at "wq"
      refine (draw K.hd (by rw [List.length_map]; omega) (by rw [List.length_map]; omega)).imp ?_
      rintro _ S12 ⟨⟨r, r0, r1, rfl⟩, H12, B12⟩
      rw [List.length_map] at r1
      have g12 := (B12.2 _ d11).trans g11
      have K := K.but H12 B12
      obtain ⟨q, hq, hqa⟩ := at_pM r0 r1
      walk_at "wq"
      refine w_idxL g12 hqa ?_
      walk_at "wq"
      have := K.n4
      exact ⟨K.add, S12.n, [q], rfl, Nat.lt_succ_self _, by omega, add_same, fun p hp => (by rw [List.mem_singleton.1 hp]; exact hon q hq), by simp⟩
    · walk_at "wq"
      have := K.n4
      exact ⟨K.add, S11.n, [], rfl, Nat.lt_succ_self _, by omega, add_same, fun p hp => (by cases hp), by simp⟩
  clear K g11 d11 hon hol hpal
  rintro e S12 ⟨K, a, qs, rfl, an, a2, ga, hq, hql⟩
  refine v_seq (v_mid (fun e S => LK b5 a7 (keepsA t) ps S ∧ ∃ (a : Nat) (qs : List Pth), e = [some (.ref 0), some (.ref 2), some n2, some n3, some t.mv, some (.ref b5), some (.tup ((keepsA t).map pM)), some (.ref a7), some w.mv, some (.ref b9), some n10, some (.ref b11), some (.ref a), none, none, none, none] ∧ a < S.n ∧ a ≠ 2 ∧ S.g a = .lst (qs.map pM) ∧ (∀ p ∈ qs, p ∉ keepsA t) ∧ 0 < qs.length ∧ qs.length ≤ 10) ?_ ?_)
  · have kn := K.n4
    have k31 : List.replicate 31 (0 : Int) ∉ keepsA t := nk_long hd (by simp)
    have k1 : [(-1 : Int)] ∉ keepsA t := nk_big (c := -1) ht (by simp) (by omega)
    have k11 : [(11 : Int)] ∉ keepsA t := nk_big (c := 11) ht (by simp) (by omega)
    walk_at "wq"
    refine w_repT (by simp) ?_
    have g5 := K.g5
    walk_at "wq"
    refine br_dec (fun e => ?_) (fun e => ?_)
    · have e : 0 < (keepsA t).length := by simpa using e
      obtain ⟨q, hqm, hqa⟩ := at_pM (os := keepsA t) (r := 0) (by omega) (by omega)
      have hql2 := sel_short hqm
      have e4 : pM (q ++ [99]) = .tup (q.map .int ++ [.int 99]) := by show MV.tup _ = _; rw [List.map_append]; rfl
      have k99 : q ++ [(99 : Int)] ∉ keepsA t := nk_big (c := 99) ht (by simp) (by omega)
      walk_at "wq"
      refine w_idxL g5 hqa ?_
      walk_at "wq"
      refine w_addt (a := q.map MV.int) (b := [.int 99]) (by simp; omega) ?_
      rw [← e4]
      walk_at "wq"
      refine w_addl (xs := qs.map pM) (ys := [pM (List.replicate 31 0), pM [-1], pM [11], pM (q ++ [99])]) ((add_ne (by omega)).trans ga) add_same (by simp; omega) ?_
      refine ⟨K.add.add, S12.n + 1, qs ++ [List.replicate 31 0, [-1], [11], q ++ [99]], rfl, Nat.lt_succ_self _, by omega, by rw [List.map_append]; exact add_same, fun p hp => ?_, by simp, by simp; omega⟩
      rcases List.mem_append.1 hp with hp | hp
      · exact hq p hp
      · simp only [List.mem_cons, List.not_mem_nil, or_false] at hp
        rcases hp with rfl | rfl | rfl | rfl <;> assumption
    · have k99 : [(99 : Int)] ∉ keepsA t := nk_big (c := 99) ht (by simp) (by omega)
      walk_at "wq"
      refine w_addl (xs := qs.map pM) (ys := [pM (List.replicate 31 0), pM [-1], pM [11], pM [99]]) ((add_ne (by omega)).trans ga) add_same (by simp; omega) ?_
      refine ⟨K.add.add, S12.n + 1, qs ++ [List.replicate 31 0, [-1], [11], [99]], rfl, Nat.lt_succ_self _, by omega, by rw [List.map_append]; exact add_same, fun p hp => ?_, by simp, by simp; omega⟩
      rcases List.mem_append.1 hp with hp | hp
      · exact hq p hp
      · simp only [List.mem_cons, List.not_mem_nil, or_false] at hp
        rcases hp with rfl | rfl | rfl | rfl <;> assumption
  clear K an a2 ga hq hql
  rintro e S13 ⟨K, a, qs, rfl, an, a2, ga, hq, hq0, hql⟩
  walk_at "wq"
  rw [List.length_map]
  refine (draw K.hd (by omega) (by omega)).imp ?_
  rintro _ S14 ⟨⟨r, r0, r1, rfl⟩, H14, B14⟩
  replace ga := (B14.2 _ a2).trans ga
  replace K := K.but H14 B14
  obtain ⟨bad, hbm, hba⟩ := at_pM r0 r1
  walk_at "wq"
  refine w_idxL ga hba ?_
  walk_at "wq"
  rw [List.length_map]
  refine (draw K.hd (by omega) (by omega)).imp ?_
  rintro _ S15 ⟨⟨r', r0', r1', rfl⟩, H15, B15⟩
  replace ga := (B15.2 _ a2).trans ga
  replace K := K.but H15 B15
  obtain ⟨aga, ham, haa⟩ := at_pM r0' r1'
  walk_at "wq"
  refine w_idxL ga haa ?_
  have g7 := K.g7
  walk_at "wq"
  rw [List.length_map]
  refine (draw K.hd (by omega) (by omega)).imp ?_
  rintro _ S16 ⟨⟨m, m0, m1, rfl⟩, H16, B16⟩
  replace K := K.but H16 B16
  have g7 := K.g7
  have hbad := hq _ hbm
  have haga := hq _ ham
  clear hba haa r0 r1 r0' r1' B14 B15 B16 H14 H15 H16 ga
  walk_at "wq"
  refine v_if ?_
  walk_at "wq"
  refine w_lstT (xs := bad.map MV.int) ?_
  obtain ⟨S18, hS18⟩ : ∃ S18, S18 = (S16.add (.lst (cutM (ps.map pM) none (some m)))).add (.lst (bad.map MV.int)) := ⟨_, rfl⟩
  have n18 : S18.n = S16.n + 2 := by rw [hS18]; rfl
  have ga : S18.g S16.n = .lst ((ps.take m.toNat).map pM) := by rw [hS18, cutM_to m0, List.map_take]; exact (add_ne (by rw [Sto.add_n]; omega)).trans add_same
  have gb : S18.g (S16.n + 1) = .lst (bad.map MV.int) := by rw [hS18]; exact add_same
  have K18 : LK b5 a7 (keepsA t) ps S18 := by rw [hS18]; exact K.add.add
  rw [show (MV.ref (S16.add (.lst (cutM (ps.map pM) none (some m)))).n) = .ref (S16.n + 1) from rfl, ← hS18]
  clear hS18 g7
  walk_at "wq"
  refine w_addl (xs := (ps.take m.toNat).map pM) (ys := [.ref (S16.n + 1)]) ((add_ne (by omega)).trans ga) add_same (by simp; omega) ?_
  replace K18 := (K18.add (o := .lst [.ref (S16.n + 1)])).add (o := .lst ((ps.take m.toNat).map pM ++ [.ref (S16.n + 1)]))
  have g7 := K18.g7
  walk_at "wq"
  refine w_addl (xs := (ps.take m.toNat).map pM ++ [.ref (S16.n + 1)]) (ys := (ps.drop m.toNat).map pM) ((add_ne (by simp only [Sto.add_n]; omega)).trans add_same) (by rw [cutM_from m0, ← List.map_drop]; exact add_same) (by simp; omega) ?_
  replace K18 := (K18.add (o := .lst (cutM (ps.map pM) (some m) none))).add (o := .lst ((ps.take m.toNat).map pM ++ [.ref (S16.n + 1)] ++ (ps.drop m.toNat).map pM))
  have gb := (add_ne (o := .lst ((ps.take m.toNat).map pM ++ [.ref (S16.n + 1)] ++ (ps.drop m.toNat).map pM)) (by simp only [Sto.add_n]; omega)).trans ((add_ne (o := .lst (cutM (ps.map pM) (some m) none)) (by simp only [Sto.add_n]; omega)).trans ((add_ne (o := .lst ((ps.take m.toNat).map pM ++ [.ref (S16.n + 1)])) (by simp only [Sto.add_n]; omega)).trans ((add_ne (o := .lst [.ref (S16.n + 1)]) (by omega)).trans gb)))
  have gl19 := add_same (S := ((S18.add (.lst [.ref (S16.n + 1)])).add (.lst ((ps.take m.toNat).map pM ++ [.ref (S16.n + 1)]))).add (.lst (cutM (ps.map pM) (some m) none))) (o := .lst ((ps.take m.toNat).map pM ++ [.ref (S16.n + 1)] ++ (ps.drop m.toNat).map pM))
  have gn19 : (((S18.add (.lst [.ref (S16.n + 1)])).add (.lst ((ps.take m.toNat).map pM ++ [.ref (S16.n + 1)]))).add (.lst (cutM (ps.map pM) (some m) none))).n < ((((S18.add (.lst [.ref (S16.n + 1)])).add (.lst ((ps.take m.toNat).map pM ++ [.ref (S16.n + 1)]))).add (.lst (cutM (ps.map pM) (some m) none))).add (.lst ((ps.take m.toNat).map pM ++ [.ref (S16.n + 1)] ++ (ps.drop m.toNat).map pM))).n := Nat.lt_succ_self _
  clear ga g7
  have gbn : S16.n + 1 < ((((S18.add (.lst [.ref (S16.n + 1)])).add (.lst ((ps.take m.toNat).map pM ++ [.ref (S16.n + 1)]))).add (.lst (cutM (ps.map pM) (some m) none))).add (.lst ((ps.take m.toNat).map pM ++ [.ref (S16.n + 1)] ++ (ps.drop m.toNat).map pM))).n := by simp only [Sto.add_n]; omega
  clear n18
  generalize (((S18.add (.lst [.ref (S16.n + 1)])).add (.lst ((ps.take m.toNat).map pM ++ [.ref (S16.n + 1)]))).add (.lst (cutM (ps.map pM) (some m) none))).n = b19 at *
  generalize (((S18.add (.lst [.ref (S16.n + 1)])).add (.lst ((ps.take m.toNat).map pM ++ [.ref (S16.n + 1)]))).add (.lst (cutM (ps.map pM) (some m) none))).add (.lst ((ps.take m.toNat).map pM ++ [.ref (S16.n + 1)] ++ (ps.drop m.toNat).map pM)) = S19 at *
  generalize S16.n + 1 = b18 at *
  walk_at "wq"
  refine w_addl (ys := [pM aga]) ((add_ne (by omega)).trans gl19) add_same (by simp; omega) ?_
  replace K18 := (K18.add (o := .lst [pM aga])).add (o := .lst ((ps.take m.toNat).map pM ++ [.ref b18] ++ (ps.drop m.toNat).map pM ++ [pM aga]))
  have gb := (add_ne (o := .lst ((ps.take m.toNat).map pM ++ [.ref b18] ++ (ps.drop m.toNat).map pM ++ [pM aga])) (by simp only [Sto.add_n]; omega)).trans ((add_ne (o := .lst [pM aga]) (by omega)).trans gb)
  have gl20 := add_same (S := S19.add (.lst [pM aga])) (o := .lst ((ps.take m.toNat).map pM ++ [.ref b18] ++ (ps.drop m.toNat).map pM ++ [pM aga]))
  have gbn : b18 < ((S19.add (.lst [pM aga])).add (.lst ((ps.take m.toNat).map pM ++ [.ref b18] ++ (ps.drop m.toNat).map pM ++ [pM aga]))).n := by simp only [Sto.add_n]; omega
  have gn20 : (S19.add (.lst [pM aga])).n < ((S19.add (.lst [pM aga])).add (.lst ((ps.take m.toNat).map pM ++ [.ref b18] ++ (ps.drop m.toNat).map pM ++ [pM aga]))).n := Nat.lt_succ_self _
  walk_at "wq"
  have hPL : PL ((S19.add (.lst [pM aga])).add (.lst ((ps.take m.toNat).map pM ++ [.ref b18] ++ (ps.drop m.toNat).map pM ++ [pM aga]))) ((ps.take m.toNat).map pM ++ [.ref b18] ++ (ps.drop m.toNat).map pM ++ [pM aga]) (ps.take m.toNat ++ [bad] ++ ps.drop m.toNat ++ [aga]) := ((PL.map.app (PL.one (.inr ⟨b18, rfl, gbn, gb⟩))).app PL.map).app (PL.one (.inl rfl))
  obtain ⟨i0, i1⟩ := ins_at (ps := ps) (m := m.toNat) (bad := bad) (aga := aga) (by omega)
  refine (refused_ok ht.ok (by omega) (by omega) (Pz.lst gn20 gl20 hPL.1 hPL.2) i0 hbad fun i p hi hp => hps p (i1 i p hi hp)).imp ?_
  rintro _ S20 ⟨rfl, E20⟩
  replace K18 := K18.ext E20
  walk_at "wq"
  refine p_ne ?_
  walk_at "wq"
  refine (once_ok (hP := PA_st) (hC := PA_once) (hO := PA_one) ht (by omega) (by omega) (Pz.lst K18.n7 K18.g7 (by simp) p_at) hps).imp ?_
  rintro _ S21 ⟨rfl, E21⟩
  replace K18 := K18.ext E21
  rw [← hw]
  walk_at "wq"
  refine tr_eq wP (by omega) ?_
  walk_at "wq"
  have K22 := K18.add (o := .lst [])
  refine w_eqA (toD_lst K22.g7 (fl_paths ps)) (toD_lst (xs := []) add_same (fl_paths [])) (sh_of (shd_lst (sh_paths ps))) (sh_of (shd_lst (sh_paths []))) ?_
  rw [nil_eqv]
  have g7 := K22.g7
  cases ps with
  | nil => exact ⟨fun _ => rfl, fun h => absurd h (by decide)⟩
  | cons p qs =>
    rw [decide_eq_false (by simp)]
    walk_at "wq"
    refine (refused_ok (m := 0) (p0 := p) wP.ok (by omega) (by omega) (Pz.lst K22.n7 g7 (by simp) p_at) rfl (fun z => ?_) fun i p hi hp => absurd hi (Nat.not_lt_zero i)).imp ?_
    · rw [wK] at z
      simp at z
    rintro _ S23 ⟨rfl, E23⟩
    have g7 := (K22.ext E23).g7
    walk_at "wq"
    refine p_eq ?_
    rfl
theorem law_ok (cl : Nat → Addr) : Mm.LawOk (m_law cl) := by
  intro ns hl _
  suffices h : Ret (m_law cl [.ref 0] (S0 ns)) fun x _ => x = .bl true by
    obtain ⟨x, S', e, rfl⟩ := h.eq
    exact ⟨S', e⟩
  have sz : (16777216 : Nat) ≤ sizeLine := by decide
  unfold m_law
  walk_at "def"
  unfold b_law
  walk_at "wq"
  refine (hand_ok hl).imp ?_
  rintro _ S1 ⟨rfl, H1, n1⟩
  walk_at "wq"
  have N : Nms ["a", "b", "kept", "v0"] := ⟨by simp, by decide +kernel, by decide⟩
  have G1 : GR [2, S1.n] (S1.add (.lst [.int 14])) 2 1 S1.n (S1.add (.lst [.int 14])) := ⟨⟨H1.add, .refl, List.mem_cons_self, by rw [n1]; decide⟩, ⟨14, add_same⟩, Nat.lt_succ_self _, by omega, by simp⟩
  refine (any_ok N 24 3 3 _ (by decide) (by decide) G1).imp ?_
  rintro _ S2 ⟨⟨t0, rfl, ht0, hs0, hd0⟩, G2⟩
  have H2 := G2.g.hd
  have n2 : 4 ≤ S2.n := by have := G2.g.le; rw [Sto.add_n, n1] at this; exact this
  clear G1 G2 H1 n1
  generalize S1.n = ro at *
  walk_at "wq"
  refine v_mid (fun e S => Hd S 2 1 ∧ 4 ≤ S.n ∧ ∃ t, e = [some (.ref 0), some (.ref 2), some (strsM ["a", "b", "kept", "v0"]), some t0.mv, some t.mv, none, none, none, none, none, none, none, none, none, none, none, none] ∧ OkP PA t ∧ t.dep ≤ 10 ∧ t.size ≤ 20000) ?_ ?_
  · refine v_if ?_
    walk_at "wq"
    refine (draw H2 (by decide) (by decide)).imp ?_
    rintro _ S3 ⟨⟨r, r0, r1, rfl⟩, H3, B3⟩
    walk_at "wq"
    refine br_dec (fun e => ?_) (fun e => ?_)
    · walk_at "wq"
      refine ⟨H3, by rw [B3.1]; exact n2, .node (.one "keep" "b") [.node .dos [.node (.num 3) [], .node (.one "keep" "a") [t0], t0]], rfl, ?_, ?_, ?_⟩
      · have hk : ∀ {s : Str} {u : T}, PyData.strOk s = true → OkP PA u → OkP PA (.node (.one "keep" s) [u]) := fun hs hu => .mk ⟨rfl, .inr (.inl rfl)⟩ ⟨hs, show 1 ≤ 11 by decide⟩ fun v hv => by rw [List.mem_singleton.1 hv]; exact hu
        refine hk (by decide +kernel) (.mk trivial ⟨trivial, show 3 ≤ 11 by decide⟩ fun v hv => ?_)
        simp only [List.mem_cons, List.not_mem_nil, or_false] at hv
        rcases hv with rfl | rfl | rfl
        · exact .mk rfl ⟨trivial, by decide⟩ fun v hv => by cases hv
        · exact hk (by decide +kernel) ht0
        · exact ht0
      · simp only [T.dep, T.deps]; omega
      · have : Bd 3 = 6651 := rfl
        simp only [T.size, T.sizes]; omega
    · walk_at "wq"
      have : Bd 3 = 6651 := rfl
      exact ⟨H3, by rw [B3.1]; exact n2, t0, rfl, ht0, by omega, by omega⟩
  clear H2 n2 hs0 hd0 ht0
  rintro e S3 ⟨H3, n3, t, rfl, ht, hd, hs⟩
  have hP := ht.ok
  walk_at "wq"
  refine (lkeeps_ok 24 t [] S3 (by omega) hP (by omega) (by simp; omega)).imp ?_
  rintro _ S4 ⟨b5, rfl, g5, b5a, b5b, E4⟩
  rw [pre_nil] at g5
  have H4 := H3.ext E4
  walk_at "wq"
  refine (keep_paths_ok hP (by omega) (by omega)).imp ?_
  rintro _ S5 ⟨rfl, E5⟩
  have H5 := H4.ext E5
  have g5 := (E5.2 _ b5b).trans g5
  have b5b : b5 < S5.n := Nat.lt_of_lt_of_le b5b E5.1
  have h52 : b5 ≠ 2 := by omega
  walk_at "wq"
  refine v_if (w_orB (w_blM ?_))
  walk_at "wq"
  refine pt_ne ?_
  walk_at "wq"
  refine w_isi (n := "tuple") (b := true) rfl (by decide +kernel) ?_
  walk_at "wq"
  have hkl := sel_len isKeep t
  have hkl : (keepsA t).length ≤ t.size := hkl
  refine (dfilt_ok (ks := keepsA t) H5 g5 h52 rfl (by simp [wipeE]) (by omega)).imp ?_
  rintro _ S6 ⟨⟨ps0, rfl, p1, p2⟩, H6, B6⟩
  have g5 := (B6.2 b5 h52).trans g5
  have b5b : b5 < S6.n := by rw [B6.1]; exact b5b
  have n6 : 4 ≤ S6.n := by have := E4.1; have := E5.1; have := B6.1; omega
  walk_at "wq"
  refine v_mid (fun e S => Hd S 2 1 ∧ S6.n < S.n ∧ S.g b5 = .lst ((keepsA t).map pM) ∧ ∃ ps : List Pth, e = [some (.ref 0), some (.ref 2), some (strsM ["a", "b", "kept", "v0"]), some t0.mv, some t.mv, some (.ref b5), some (.tup ((keepsA t).map pM)), some (.ref S6.n), none, none, none, none, none, none, none, none, none] ∧ S.g S6.n = .lst (ps.map pM) ∧ (∀ p ∈ ps, p ∈ keepsA t) ∧ ps.length ≤ 20001) ?_ ?_
  · have H7 : Hd (S6.add (.lst (ps0.map pM))) 2 1 := H6.add
    have g5' : (S6.add (.lst (ps0.map pM))).g b5 = .lst ((keepsA t).map pM) := (add_ne (Nat.ne_of_lt b5b)).trans g5
    refine v_if ?_
    walk_at "wq"
    rw [List.length_map]
    refine br_dec (fun e => ?_) (fun e => ?_)
    · walk_at "wq"
      refine (draw H7 (by decide) (by decide)).imp ?_
      rintro _ S8 ⟨⟨r, r0, r1, rfl⟩, H8, B8⟩
      have g8 : S8.g S6.n = .lst (ps0.map pM) := (B8.2 _ (by omega)).trans add_same
      have g58 := (B8.2 b5 h52).trans g5'
      walk_at "wq"
      refine br_dec (fun e => ?_) (fun e => ?_)
      · obtain ⟨q, qs, rfl⟩ : ∃ q qs, ps0 = q :: qs := by
          cases ps0 with
          | nil => simp at *
          | cons q qs => exact ⟨q, qs, rfl⟩
        refine v_drop (w_bm (w_var rfl ⟨ty_lst g8, ?_⟩))
        walk_at "wq"
        walk_at "wq"
        refine w_append g8 (by rw [List.length_map]; omega) ?_
        refine ⟨H8.put (by omega) (by omega), by rw [Sto.put_n, B8.1]; exact Nat.lt_succ_self _, (put_ne (by omega)).trans g58, q :: qs ++ [q], rfl, by rw [put_same, List.map_append]; rfl, fun p hp => ?_, by rw [List.length_append, List.length_singleton]; omega⟩
        rcases List.mem_append.1 hp with hp | hp
        · exact p1 p hp
        · rw [List.mem_singleton.1 hp]; exact p1 q List.mem_cons_self
      · walk_at "wq"
        exact ⟨H8, by rw [B8.1]; exact Nat.lt_succ_self _, g58, ps0, rfl, g8, p1, by omega⟩
    · walk_at "wq"
      exact ⟨H7, Nat.lt_succ_self _, g5', ps0, rfl, add_same, p1, by omega⟩
  clear H6 B6 p1 p2
  rintro e S7 ⟨H7, n7, g5, ps, rfl, g7, hps, hpl⟩
  generalize S6.n = a7 at *
  have hSe : ∀ q : Pth, decide (([] : Pth) ++ q ∈ ps) = decide (q ∈ ps) := fun q => rfl
  walk_at "wq"
  refine (worded_ok 24 t [] S7 (by omega) hP (by omega) (by simp; omega) n7 g7).imp ?_
  rintro _ S8 ⟨rfl, E8⟩
  simp only [List.nil_append]
  have hdue := chgA_ok (fun q => decide (q ∈ ps)) t hP
  have hdueP := chgP PA_once (fun q => decide (q ∈ ps)) t ht
  have hdueK := keeps_chg (fun q => decide (q ∈ ps)) t
  obtain ⟨w, hw⟩ : ∃ w, w = chgA (fun q => decide (q ∈ ps)) t := ⟨_, rfl⟩
  rw [← hw] at hdue hdueP hdueK ⊢
  have H8 := H7.ext E8
  have g5 := (E8.2 _ (by omega)).trans g5
  have g7 := (E8.2 _ n7).trans g7
  have n8 : a7 < S8.n := Nat.lt_of_lt_of_le n7 E8.1
  exact law_tail ⟨H8, by omega, by omega, n8, g5, g7, h52, by omega⟩ hps hpl ht hd hs hw hdueP hdueK hdue.2.2 hdue.2.1
end Law
end

open PySem PySem.W PyProof.Rows
theorem PySem.Challenge.cw_goonagain_k26_once_in_the_place_of_keep_holds : PySem.Challenge.rw_goonagain_k26_once_in_the_place_of_keep.Holds := by
  w_on; o_law; k_head; (case hw => w_witness2)
  k_fill
  refine Mm.walkG2 (l := PySem.Challenge.rw_goonagain_k26_once_in_the_place_of_keep) (k := 29) rfl rfl ⟨rfl, by decide, by decide⟩ (fun w h Y => PySem.W.kIn_of Y) ?F
  case F =>
    intro w mg fa h KX G hmg
    refine' Law.all_mk KX G hmg Law.law_ok ?yy_ka0 ?yy_ka1 ?yy_xe0 ?yy_xt0 ?yy_xd0 ?yy_xs_1_0 ?yy_xe1 ?yy_xt1 ?yy_xd1 ?yy_xp1 ?yy_xs_1_1 ?yy_xl1 ?yy_xb1 ?yy_xa1 ?yy_xk1 ?yy_xf_path_1 ?yy_xg1 ?yy_xh1 ?yy_xv1 ?yy_xw1 ?yy_iy ?yy_iz ?yy_xr0 ?yy_xq0 ?yy_xo0 ?yy_xi1 ?yy_ls0 ?yy_cs0 ?yy_ks0 ?yy_tys0 ?yy_a0 ?yy_l0 ?yy_c0 ?yy_k0 ?yy_a1 ?yy_l1 ?yy_c1 ?yy_k1 ?yy_a2 ?yy_l2 ?yy_c2 ?yy_k2 ?yy_a3 ?yy_l3 ?yy_c3 ?yy_k3 ?yy_a4 ?yy_l4 ?yy_c4 ?yy_k4 ?yy_a5 ?yy_l5 ?yy_c5 ?yy_k5 ?yy_a6 ?yy_l6 ?yy_c6 ?yy_k6 ?yy_a7 ?yy_l7 ?yy_c7 ?yy_k7 ?yy_a8 ?yy_l8 ?yy_c8 ?yy_k8 ?yy_a9 ?yy_l9 ?yy_c9 ?yy_k9 ?yy_a10 ?yy_l10 ?yy_c10 ?yy_k10 ?yy_a11 ?yy_l11 ?yy_c11 ?yy_k11 ?yy_a12 ?yy_l12 ?yy_c12 ?yy_k12 ?yy_a13 ?yy_l13 ?yy_c13 ?yy_k13 ?yy_a14 ?yy_l14 ?yy_c14 ?yy_k14 ?yy_a15 ?yy_l15 ?yy_c15 ?yy_k15 ?yy_a16 ?yy_l16 ?yy_c16 ?yy_k16 ?yy_a17 ?yy_l17 ?yy_c17 ?yy_k17 ?yy_a18 ?yy_l18 ?yy_c18 ?yy_k18 ?yy_a19 ?yy_l19 ?yy_c19 ?yy_k19 ?yy_a20 ?yy_l20 ?yy_c20 ?yy_k20 ?yy_a21 ?yy_l21 ?yy_c21 ?yy_k21 ?yy_z_tuple ?yy_z_zip ?yy_z_len ?yy_z_list ?yy_z_enumerate ?yy_z_int ?yy_z_abs ?yy_z_min ?yy_z_range ?yy_z_isinstance
    (case yy_ka0 => k_is)
    (case yy_ka1 => k_is)
    (case yy_xe0 => k_is)
    (case yy_xt0 => k_is)
    (case yy_xd0 => k_is)
    (case yy_xs_1_0 => first | rfl | k_is)
    (case yy_xe1 => k_is)
    (case yy_xt1 => k_is)
    (case yy_xd1 => k_is)
    (case yy_xp1 => first | k_is | rfl | decide +kernel)
    (case yy_xs_1_1 => first | rfl | k_is)
    (case yy_xl1 => k_is)
    (case yy_xb1 => decide +kernel)
    (case yy_xa1 => k_is)
    (case yy_xk1 => k_is)
    (case yy_xf_path_1 => k_is)
    (case yy_xg1 => k_is)
    (case yy_xh1 => k_is)
    (case yy_xv1 => k_is)
    (case yy_xw1 => k_is)
    (case yy_iy => k_is)
    (case yy_iz => k_is)
    (case yy_xr0 => k_is)
    (case yy_xq0 => k_is)
    (case yy_xo0 => k_is)
    (case yy_xi1 => k_is)
    (case yy_ls0 => k_is)
    (case yy_cs0 => k_is)
    (case yy_ks0 => k_is)
    (case yy_tys0 => k_is)
    (case yy_a0 => k_is)
    (case yy_l0 => k_is)
    (case yy_c0 => k_is)
    (case yy_k0 => k_is)
    (case yy_a1 => k_is)
    (case yy_l1 => k_is)
    (case yy_c1 => k_is)
    (case yy_k1 => k_is)
    (case yy_a2 => k_is)
    (case yy_l2 => k_is)
    (case yy_c2 => k_is)
    (case yy_k2 => k_is)
    (case yy_a3 => k_is)
    (case yy_l3 => k_is)
    (case yy_c3 => k_is)
    (case yy_k3 => k_is)
    (case yy_a4 => k_is)
    (case yy_l4 => k_is)
    (case yy_c4 => k_is)
    (case yy_k4 => k_is)
    (case yy_a5 => k_is)
    (case yy_l5 => k_is)
    (case yy_c5 => k_is)
    (case yy_k5 => k_is)
    (case yy_a6 => k_is)
    (case yy_l6 => k_is)
    (case yy_c6 => k_is)
    (case yy_k6 => k_is)
    (case yy_a7 => k_is)
    (case yy_l7 => k_is)
    (case yy_c7 => k_is)
    (case yy_k7 => k_is)
    (case yy_a8 => k_is)
    (case yy_l8 => k_is)
    (case yy_c8 => k_is)
    (case yy_k8 => k_is)
    (case yy_a9 => k_is)
    (case yy_l9 => k_is)
    (case yy_c9 => k_is)
    (case yy_k9 => k_is)
    (case yy_a10 => k_is)
    (case yy_l10 => k_is)
    (case yy_c10 => k_is)
    (case yy_k10 => k_is)
    (case yy_a11 => k_is)
    (case yy_l11 => k_is)
    (case yy_c11 => k_is)
    (case yy_k11 => k_is)
    (case yy_a12 => k_is)
    (case yy_l12 => k_is)
    (case yy_c12 => k_is)
    (case yy_k12 => k_is)
    (case yy_a13 => k_is)
    (case yy_l13 => k_is)
    (case yy_c13 => k_is)
    (case yy_k13 => k_is)
    (case yy_a14 => k_is)
    (case yy_l14 => k_is)
    (case yy_c14 => k_is)
    (case yy_k14 => k_is)
    (case yy_a15 => k_is)
    (case yy_l15 => k_is)
    (case yy_c15 => k_is)
    (case yy_k15 => k_is)
    (case yy_a16 => k_is)
    (case yy_l16 => k_is)
    (case yy_c16 => k_is)
    (case yy_k16 => k_is)
    (case yy_a17 => k_is)
    (case yy_l17 => k_is)
    (case yy_c17 => k_is)
    (case yy_k17 => k_is)
    (case yy_a18 => k_is)
    (case yy_l18 => k_is)
    (case yy_c18 => k_is)
    (case yy_k18 => k_is)
    (case yy_a19 => k_is)
    (case yy_l19 => k_is)
    (case yy_c19 => k_is)
    (case yy_k19 => k_is)
    (case yy_a20 => k_is)
    (case yy_l20 => k_is)
    (case yy_c20 => k_is)
    (case yy_k20 => k_is)
    (case yy_a21 => k_is)
    (case yy_l21 => k_is)
    (case yy_c21 => k_is)
    (case yy_k21 => k_is)
    (case yy_z_tuple => k_is)
    (case yy_z_zip => k_is)
    (case yy_z_len => k_is)
    (case yy_z_list => k_is)
    (case yy_z_enumerate => k_is)
    (case yy_z_int => k_is)
    (case yy_z_abs => k_is)
    (case yy_z_min => k_is)
    (case yy_z_range => k_is)
    (case yy_z_isinstance => k_is)
