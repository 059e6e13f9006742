import PyProof.Rows.All
import Wide.All
import OpenK.AllK
import Wide.FinOn
import HandS.ForMost
import HandS.ForExc
import HandS.More
import HandS.Slots
import HandS.Wide
import HandS.ExcInit
import HandS.Walk
import HandS.IsInst
import HandS.SlotsOwn
import HandS.TupAny
import HandS.Lambda
import HandS.Ends
import KE.KExcSuper
import HandS.ExcSuper
import HandS.ExcValue
import HandS.ExcField
import HandS.TryMany
import KE.KExcIs
import PySem.Challenge.RW_crosswebs_k00_words_and_errors
set_option Elab.async false
set_option linter.all false
set_option maxRecDepth 100000
set_option maxHeartbeats 4000000
/-! Y1: plain data, a store, results; how they lie in the layer's heap. -/
namespace Y
open PySem PySem.Spec PyProof.Rows L2

inductive D where
  | non | bl (b : Bool) | int (i : Int) | str (x : List Nat) | tup (l : List D) | loc (n : Nat) | cls (n : Nat) | scr (l : List Int)
  deriving Inhabited

inductive Cell where
  | lst (l : List D)
  | dct (lk : Nat) (l : List (D × D))
  | ins (c : Nat) (l : List (Option D))
  | dice
  /-- an exception that was not raised: its class, its fields -/
  | exv (c : Nat) (fs : List (Str × D))

structure Sto where
  n : Nat
  c : List Cell
def Sto.get (S : Sto) (i : Nat) : Option Cell := if i < S.n then S.c[S.n - 1 - i]? else none
def Sto.set (S : Sto) (i : Nat) (x : Cell) : Sto := if i < S.n then ⟨S.n, S.c.set (S.n - 1 - i) x⟩ else S
def Sto.new (S : Sto) (x : Cell) : Sto := ⟨S.n + 1, x :: S.c⟩
theorem Sto.get_new (S : Sto) (x : Cell) (i : Nat) : (S.new x).get i = if i = S.n then some x else S.get i := by
  unfold Sto.new Sto.get
  by_cases h : i = S.n
  · subst h
    simp
  · rw [if_neg h]
    by_cases h2 : i < S.n
    · have e1 : i < S.n + 1 := by omega
      have e : S.n + 1 - 1 - i = (S.n - 1 - i) + 1 := by omega
      simp only [e1, h2, if_true, e, List.getElem?_cons_succ]
    · have e1 : ¬ i < S.n + 1 := by omega
      simp only [e1, h2, if_false]
theorem Sto.get_lt {S : Sto} {i : Nat} {x : Cell} (h : S.get i = some x) : i < S.n := by
  unfold Sto.get at h
  split at h
  · assumption
  · cases h
theorem Sto.get_set_self {S : Sto} {i : Nat} {x y : Cell} (h : S.get i = some x) : (S.set i y).get i = some y := by
  have hl := Sto.get_lt h
  unfold Sto.get at h ⊢
  unfold Sto.set
  rw [if_pos hl] at h ⊢
  simp only [hl, if_true]
  obtain ⟨h1, _⟩ := List.getElem?_eq_some_iff.mp h
  exact List.getElem?_set_self h1
theorem Sto.get_set_ne {S : Sto} {i j : Nat} {y : Cell} (h : j ≠ i) : (S.set i y).get j = S.get j := by
  unfold Sto.set
  split
  · rename_i hi
    unfold Sto.get
    split
    · rename_i hj
      simp only [hj, if_true]
      exact List.getElem?_set_ne (by simp only at hj; omega)
    · rename_i hj
      simp only [hj, if_false]
  · rfl
theorem Sto.set_n (S : Sto) (i : Nat) (y : Cell) : (S.set i y).n = S.n := by
  unfold Sto.set
  split <;> rfl

/-- an exception: its class's number and what it keeps -/
structure Ex where
  cls : Nat
  fs : List (Str × D)

inductive Res (α : Type) where
  | ok (a : α) (S : Sto)
  | exc (x : Ex) (S : Sto)
  | stuck
  /-- any number below t -/
  | pick (t : Nat) (f : Nat → Res α)
def Res.bind {α β : Type} (r : Res α) (k : α → Sto → Res β) : Res β := match r with
  | .ok a S => k a S
  | .exc x S => .exc x S
  | .stuck => .stuck
  | .pick t f => .pick t fun r => (f r).bind k

abbrev SD := List (Option D)
abbrev ME := SD → Sto → Res D
abbrev MT := SD → Sto → Res Bool
abbrev MA := SD → Sto → Res (List D)
abbrev MF := List D → Sto → Res D

/-! ### the relation -/
structure Glo where
  K : PySem.W.Frag
  ca : Nat → Value
abbrev Rho := Nat → Option Addr
/-- the script: known to its object, or an object of the module -/
def ScrAt (K : PySem.W.Frag) (H : Hp) (a : Addr) (l : List Int) : Prop := (∃ o, H a = some (.frz o (.lst (l.map V.int)))) ∨ ∀ H' : Hp, SqL K H' a (l.map V.int)
theorem ScrAt.seq {K : PySem.W.Frag} {H : Hp} {a : Addr} {l : List Int} (h : ScrAt K H a l) : SqL K H a (l.map V.int) := by
  rcases h with ⟨o, h⟩ | h
  · exact .inl (.inr ⟨o, h⟩)
  · exact h H
theorem ScrAt.of {K : PySem.W.Frag} {H : Hp} {a : Addr} {l : List Int} (hO : Only H) (h : SqL K H a (l.map V.int)) : ScrAt K H a l := by
  rcases h with (h | ⟨o, h⟩) | h
  · rcases hO a with z | ⟨o, xs, z⟩
    · rw [z] at h
      cases h
    · rw [z] at h
      cases h
  · exact .inl ⟨o, h⟩
  · exact .inr fun _ => .inr h

mutual
def RelD (G : Glo) (ρ : Rho) (H : Hp) : D → V → Prop
  | .non, v => v = .non
  | .bl b, v => v = .bl b
  | .int i, v => v = .int i
  | .str x, v => v = .str ⟨x.toArray⟩
  | .tup l, v => ∃ a xs, v = .ref a ∧ SqT G.K H a xs ∧ RelDs G ρ H l xs
  | .loc n, v => ∃ a, ρ n = some a ∧ v = .ref a
  | .cls n, v => RelV v (G.ca n)
  | .scr l, v => ∃ a, v = .ref a ∧ ScrAt G.K H a l
def RelDs (G : Glo) (ρ : Rho) (H : Hp) : List D → List V → Prop
  | [], xs => xs = []
  | d :: r, xs => ∃ v ys, xs = v :: ys ∧ RelD G ρ H d v ∧ RelDs G ρ H r ys
end

/-- the heap has grown: tuples, and what is known to an object, stay -/
structure Le (G : Glo) (ρ : Rho) (H : Hp) (ρ' : Rho) (H' : Hp) : Prop where
  rho : ∀ i a, ρ i = some a → ρ' i = some a
  tp : ∀ a xs, H a = some (.tup xs) → H' a = some (.tup xs)
  fz : ∀ a o u, H a = some (.frz o u) → H' a = some (.frz o u)
theorem Le.refl {G : Glo} {ρ : Rho} {H : Hp} : Le G ρ H ρ H := ⟨fun _ _ h => h, fun _ _ h => h, fun _ _ _ h => h⟩
theorem Le.trans {G : Glo} {ρ ρ1 ρ2 : Rho} {H H1 H2 : Hp} (a : Le G ρ H ρ1 H1) (b : Le G ρ1 H1 ρ2 H2) : Le G ρ H ρ2 H2 :=
  ⟨fun i x h => b.rho i x (a.rho i x h), fun x xs h => b.tp x xs (a.tp x xs h), fun x o u h => b.fz x o u (a.fz x o u h)⟩
theorem Le.tup {G : Glo} {ρ ρ' : Rho} {H H' : Hp} (le : Le G ρ H ρ' H') : ∀ a xs, SqT G.K H a xs → SqT G.K H' a xs := fun a xs h => by
  rcases h with (h | ⟨ob, h⟩) | h
  · exact .inl (.inl (le.tp _ _ h))
  · exact .inl (.inr ⟨ob, le.fz _ _ _ h⟩)
  · exact .inr h
theorem Le.scr {G : Glo} {ρ ρ' : Rho} {H H' : Hp} (le : Le G ρ H ρ' H') : ∀ a l, ScrAt G.K H a l → ScrAt G.K H' a l := fun a l h => by
  rcases h with ⟨ob, h⟩ | h
  · exact .inl ⟨ob, le.fz _ _ _ h⟩
  · exact .inr h

structure Lw (G : Glo) (ρ : Rho) (H : Hp) (ρ' : Rho) (H' : Hp) : Prop where
  rho : ∀ i a, ρ i = some a → ρ' i = some a
  tup : ∀ a xs, SqT G.K H a xs → SqT G.K H' a xs
  scr : ∀ a l, ScrAt G.K H a l → ScrAt G.K H' a l
theorem Le.lw {G : Glo} {ρ ρ' : Rho} {H H' : Hp} (le : Le G ρ H ρ' H') : Lw G ρ H ρ' H' := ⟨le.rho, le.tup, le.scr⟩
mutual
theorem RelD.monoW {G : Glo} {ρ ρ' : Rho} {H H' : Hp} (le : Lw G ρ H ρ' H') : ∀ {d : D} {v : V}, RelD G ρ H d v → RelD G ρ' H' d v
  | .non, _, h => by simpa only [RelD] using h
  | .bl _, _, h => by simpa only [RelD] using h
  | .int _, _, h => by simpa only [RelD] using h
  | .str _, _, h => by simpa only [RelD] using h
  | .tup l, v, h => by
    simp only [RelD] at h ⊢
    obtain ⟨a, xs, e, hs, hr⟩ := h
    exact ⟨a, xs, e, le.tup a xs hs, RelDs.monoW le hr⟩
  | .loc n, v, h => by
    simp only [RelD] at h ⊢
    obtain ⟨a, e, h⟩ := h
    exact ⟨a, le.rho _ _ e, h⟩
  | .cls _, _, h => by simpa only [RelD] using h
  | .scr _, _, h => by
    simp only [RelD] at h ⊢
    obtain ⟨a, e, h⟩ := h
    exact ⟨a, e, le.scr _ _ h⟩
theorem RelDs.monoW {G : Glo} {ρ ρ' : Rho} {H H' : Hp} (le : Lw G ρ H ρ' H') : ∀ {l : List D} {xs : List V}, RelDs G ρ H l xs → RelDs G ρ' H' l xs
  | [], _, h => by simpa only [RelDs] using h
  | d :: r, xs, h => by
    simp only [RelDs] at h ⊢
    obtain ⟨v, ys, e, h1, h2⟩ := h
    exact ⟨v, ys, e, RelD.monoW le h1, RelDs.monoW le h2⟩
end
theorem RelD.mono {G : Glo} {ρ ρ' : Rho} {H H' : Hp} (le : Le G ρ H ρ' H') {d : D} {v : V} (h : RelD G ρ H d v) : RelD G ρ' H' d v := RelD.monoW le.lw h
theorem RelDs.mono {G : Glo} {ρ ρ' : Rho} {H H' : Hp} (le : Le G ρ H ρ' H') {l : List D} {xs : List V} (h : RelDs G ρ H l xs) : RelDs G ρ' H' l xs := RelDs.monoW le.lw h
section
variable {G : Glo} {ρ : Rho} {H : Hp}
theorem RelDs.nil : RelDs G ρ H [] [] := by simp only [RelDs]
theorem RelDs.cons {d : D} {v : V} {l : List D} {xs : List V} (h : RelD G ρ H d v) (t : RelDs G ρ H l xs) : RelDs G ρ H (d :: l) (v :: xs) := by
  simp only [RelDs]
  exact ⟨v, xs, rfl, h, t⟩
theorem RelDs.length : ∀ {l : List D} {xs : List V}, RelDs G ρ H l xs → l.length = xs.length
  | [], _, h => by
    simp only [RelDs] at h
    subst h
    rfl
  | d :: r, xs, h => by
    simp only [RelDs] at h
    obtain ⟨v, ys, rfl, h1, h2⟩ := h
    simp only [List.length_cons, RelDs.length h2]
theorem RelDs.get : ∀ {l : List D} {xs : List V} {i : Nat} {d : D}, RelDs G ρ H l xs → l[i]? = some d → ∃ v, xs[i]? = some v ∧ RelD G ρ H d v
  | [], _, _, _, _, e => by simp at e
  | d :: r, xs, i, d', h, e => by
    simp only [RelDs] at h
    obtain ⟨v, ys, rfl, h1, h2⟩ := h
    cases i with
    | zero =>
      simp only [List.getElem?_cons_zero, Option.some.injEq] at e ⊢
      subst e
      exact ⟨v, rfl, h1⟩
    | succ i =>
      simp only [List.getElem?_cons_succ] at e ⊢
      exact RelDs.get h2 e
theorem RelDs.append : ∀ {l m : List D} {xs ys : List V}, RelDs G ρ H l xs → RelDs G ρ H m ys → RelDs G ρ H (l ++ m) (xs ++ ys)
  | [], _, _, _, h, h2 => by
    simp only [RelDs] at h
    subst h
    exact h2
  | d :: r, m, xs, ys, h, h2 => by
    simp only [RelDs] at h
    obtain ⟨v, zs, rfl, h1, h3⟩ := h
    exact .cons h1 (RelDs.append h3 h2)
theorem RelDs.one {d : D} {v : V} (h : RelD G ρ H d v) : RelDs G ρ H [d] [v] := .cons h .nil
theorem RelDs.set {d : D} {v : V} (h : RelD G ρ H d v) : ∀ {l : List D} {xs : List V} (i : Nat), RelDs G ρ H l xs → RelDs G ρ H (l.set i d) (xs.set i v)
  | [], _, i, t => by
    simp only [RelDs] at t
    subst t
    exact .nil
  | e :: r, xs, i, t => by
    simp only [RelDs] at t
    obtain ⟨w, ys, rfl, h1, h2⟩ := t
    cases i with
    | zero => exact .cons h h2
    | succ i => exact .cons h1 (RelDs.set h i h2)
theorem RelDs.take : ∀ {l : List D} {xs : List V} (n : Nat), RelDs G ρ H l xs → RelDs G ρ H (l.take n) (xs.take n)
  | [], _, n, t => by
    simp only [RelDs] at t
    subst t
    simp only [List.take_nil]
    exact .nil
  | e :: r, xs, n, t => by
    simp only [RelDs] at t
    obtain ⟨w, ys, rfl, h1, h2⟩ := t
    cases n with
    | zero => exact .nil
    | succ n => exact .cons h1 (RelDs.take n h2)
theorem RelDs.drop : ∀ {l : List D} {xs : List V} (n : Nat), RelDs G ρ H l xs → RelDs G ρ H (l.drop n) (xs.drop n)
  | [], _, n, t => by
    simp only [RelDs] at t
    subst t
    simp only [List.drop_nil]
    exact .nil
  | e :: r, xs, n, t => by
    simp only [RelDs] at t
    obtain ⟨w, ys, rfl, h1, h2⟩ := t
    cases n with
    | zero => exact .cons h1 h2
    | succ n => exact RelDs.drop n h2
theorem RelDs.ints : ∀ (ns : List Int), RelDs G ρ H (ns.map D.int) (ns.map V.int)
  | [] => .nil
  | n :: r => .cons (by simp only [RelD]) (RelDs.ints r)
theorem RelD.tup' {l : List D} {a : Addr} {xs : List V} (h : SqT G.K H a xs) (t : RelDs G ρ H l xs) : RelD G ρ H (.tup l) (.ref a) := by
  simp only [RelD]
  exact ⟨a, xs, rfl, h, t⟩
theorem RelD.loc' {n : Nat} {a : Addr} (h : ρ n = some a) : RelD G ρ H (.loc n) (.ref a) := by
  simp only [RelD]
  exact ⟨a, h, rfl⟩
end

/-! ### keys -/
def keyD : D → Option Key
  | .int i => some (.inl i)
  | .str x => some (.inr ⟨x.toArray⟩)
  | _ => none
def keysD : List D → Option (List Key)
  | [] => some []
  | d :: r => match keyD d, keysD r with
    | some k, some ks => some (k :: ks)
    | _, _ => none
def keyT : D → Option (List Key)
  | .tup l => keysD l
  | _ => none

/-- a dict whose keys are ints and texts, by its first one -/
def isK : List (D × D) → Bool
  | [] => true
  | p :: _ => (keyD p.1).isSome
def PairK {κ : Type} (kf : D → Option κ) (G : Glo) (ρ : Rho) (H : Hp) : List (D × D) → List (κ × V) → Prop
  | [], ys => ys = []
  | p :: r, ys => ∃ k v zs, ys = (k, v) :: zs ∧ kf p.1 = some k ∧ RelD G ρ H p.2 v ∧ PairK kf G ρ H r zs
theorem PairK.monoW {κ : Type} {kf : D → Option κ} {G : Glo} {ρ ρ' : Rho} {H H' : Hp} (le : Lw G ρ H ρ' H') : ∀ {l : List (D × D)} {ys : List (κ × V)}, PairK kf G ρ H l ys → PairK kf G ρ' H' l ys
  | [], _, h => h
  | p :: r, ys, h => by
    obtain ⟨k, v, zs, e, h1, h2, h3⟩ := h
    exact ⟨k, v, zs, e, h1, RelD.monoW le h2, PairK.monoW le h3⟩
theorem PairK.mono {κ : Type} {kf : D → Option κ} {G : Glo} {ρ ρ' : Rho} {H H' : Hp} (le : Le G ρ H ρ' H') {l : List (D × D)} {ys : List (κ × V)} (h : PairK kf G ρ H l ys) : PairK kf G ρ' H' l ys := PairK.monoW le.lw h

def RelSl (G : Glo) (ρ : Rho) (H : Hp) (l : List (Option D)) (vs : List (Option V)) : Prop := ∀ (i : Nat) (d : D), l[i]? = some (some d) → ∃ v, vs[i]? = some (some v) ∧ RelD G ρ H d v
theorem RelSl.monoW {G : Glo} {ρ ρ' : Rho} {H H' : Hp} (le : Lw G ρ H ρ' H') {l : List (Option D)} {vs : List (Option V)} (h : RelSl G ρ H l vs) : RelSl G ρ' H' l vs := fun i d e =>
  let ⟨v, e1, r⟩ := h i d e
  ⟨v, e1, RelD.monoW le r⟩
theorem RelSl.mono {G : Glo} {ρ ρ' : Rho} {H H' : Hp} (le : Le G ρ H ρ' H') {l : List (Option D)} {vs : List (Option V)} (h : RelSl G ρ H l vs) : RelSl G ρ' H' l vs := RelSl.monoW le.lw h

/-- a dict as it stands: unlocked (0), or known to an object while it is walked -/
def DctAt (H : Hp) (a : Addr) (lk : Nat) (u : HO) : Prop := match lk with
  | 0 => H a = some u
  | _ => ∃ o, H a = some (.frz o u)
def CellOk (G : Glo) (ρ : Rho) (H : Hp) (a : Addr) : Cell → Prop
  | .lst l => ∃ xs, H a = some (.lst xs) ∧ RelDs G ρ H l xs
  | .dct lk l => (∃ kvs, DctAt H a lk (.dK kvs) ∧ PairK keyD G ρ H l kvs) ∨ (l ≠ [] ∧ ∃ kvs, DctAt H a lk (.dT kvs) ∧ PairK keyT G ρ H l kvs)
  | .ins c l => ∃ C dx vs, G.ca c = .ref C ∧ SlX.Slt H a C dx vs ∧ RelSl G ρ H l vs
  | .dice => ∃ x y z : Int, H a = some (.lst [.int x, .int y, .int z])
  | .exv c fs => ∃ C d, G.ca c = .ref C ∧ H a = some (exo a C d) ∧ ((d = none ∧ fs = []) ∨ ∃ dx gs, d = some dx ∧ H dx = some (.xd gs) ∧ ∀ f e, fs.lookup f = some e → ∃ v, gs.lookup f = some v ∧ RelD G ρ H e v)

structure Rep (G : Glo) (ρ : Rho) (S : Sto) (H : Hp) : Prop where
  cell : ∀ i c, S.get i = some c → ∃ a, ρ i = some a ∧ CellOk G ρ H a c
  inj : ∀ i j a, ρ i = some a → ρ j = some a → i = j
  top : ∀ i, S.n ≤ i → ρ i = none
  dom : ∀ i a, ρ i = some a → ∃ o, H a = some o

/-! ### the heap changes -/
/-- what may be written by a store of ours, or is new: nothing of it is a tuple or the script -/
def Wr : Option HO → Prop
  | none => True
  | some (.lst _) => True
  | some (.dK _) => True
  | some (.dT _) => True
  | some (.ins _ _ _) => True
  | some (.ext _) => True
  | some (.own _) => True
  | some (.xd _) => True
  | some (.tbl _) => True
  | _ => False
section
variable {G : Glo} {ρ : Rho} {H : Hp}
theorem Le.upd {p : Addr} {o : HO} (w : Wr (H p)) : Le G ρ H ρ (upd H p o) := ⟨fun _ _ h => h, fun a xs h => by
  have ne : a ≠ p := fun z => by
    rw [← z, h] at w
    exact w
  rw [upd_ne ne]
  exact h, fun a ob u h => by
  have ne : a ≠ p := fun z => by
    rw [← z, h] at w
    exact w
  rw [upd_ne ne]
  exact h⟩
def ext (ρ : Rho) (n : Nat) (p : Addr) : Rho := fun i => if i = n then some p else ρ i
theorem ext_same {n : Nat} {p : Addr} : ext ρ n p n = some p := by
  unfold ext
  rw [if_pos rfl]
theorem ext_ne {n i : Nat} {p : Addr} (h : i ≠ n) : ext ρ n p i = ρ i := by
  unfold ext
  rw [if_neg h]
theorem Le.ext {n : Nat} {p : Addr} (hn : ρ n = none) : Le G ρ H (ext ρ n p) H := ⟨fun i a h => by
  have ne : i ≠ n := fun z => by
    rw [z, hn] at h
    cases h
  rw [ext_ne ne]
  exact h, fun _ _ h => h, fun _ _ _ h => h⟩
theorem Le.same {H' : Hp} (h : Same H H') : Le G ρ H ρ H' := ⟨fun _ _ h => h, fun a xs q => h _ _ q, fun a o u q => h _ _ q⟩

/-- a cell stands on its own address (and an instance's dict) -/
theorem CellOk.there {a : Addr} {c : Cell} (h : CellOk G ρ H a c) : ∃ o, H a = some o := by
  cases c with
  | lst l =>
    obtain ⟨xs, h, _⟩ := h
    exact ⟨_, h⟩
  | dct lk l =>
    rcases h with ⟨kvs, h, _⟩ | ⟨_, kvs, h, _⟩
    · cases lk with
      | zero => exact ⟨_, h⟩
      | succ k =>
        obtain ⟨o, h⟩ := h
        exact ⟨_, h⟩
    · cases lk with
      | zero => exact ⟨_, h⟩
      | succ k =>
        obtain ⟨o, h⟩ := h
        exact ⟨_, h⟩
  | ins k l =>
    obtain ⟨C, dx, vs, _, h, _⟩ := h
    rcases h with ⟨h, _⟩ | ⟨h, _⟩
    · exact ⟨_, h⟩
    · exact ⟨_, h⟩
  | dice =>
    obtain ⟨x, y, z, h⟩ := h
    exact ⟨_, h⟩
  | exv k fs =>
    obtain ⟨C, d, _, h, _⟩ := h
    exact ⟨_, h⟩
/-- what of a heap a cell leans on -/
theorem CellOk.keepW {ρ' : Rho} {H' : Hp} {a : Addr} {c : Cell} (h : CellOk G ρ H a c) (le : Lw G ρ H ρ' H') (k : ∀ o, H a = some o → H' a = some o) (kd : ∀ dx gs, H dx = some (.xd gs) → H' dx = some (.xd gs)) : CellOk G ρ' H' a c := by
  cases c with
  | lst l =>
    obtain ⟨xs, h, r⟩ := h
    exact ⟨xs, k _ h, RelDs.monoW le r⟩
  | dct lk l =>
    have at_ : ∀ u, DctAt H a lk u → DctAt H' a lk u := fun u h => by
      cases lk with
      | zero => exact k _ h
      | succ n =>
        obtain ⟨o, h⟩ := h
        exact ⟨o, k _ h⟩
    rcases h with ⟨kvs, h, r⟩ | ⟨hne, kvs, h, r⟩
    · exact .inl ⟨kvs, at_ _ h, PairK.monoW le r⟩
    · exact .inr ⟨hne, kvs, at_ _ h, PairK.monoW le r⟩
  | ins n l =>
    obtain ⟨C, dx, vs, e, h, r⟩ := h
    refine ⟨C, dx, vs, e, ?_, RelSl.monoW le r⟩
    rcases h with ⟨h1, h2⟩ | ⟨h1, h2⟩
    · exact .inl ⟨k _ h1, h2⟩
    · exact .inr ⟨k _ h1, kd _ _ h2⟩
  | dice =>
    obtain ⟨x, y, z, h⟩ := h
    exact ⟨x, y, z, k _ h⟩
  | exv n fs =>
    obtain ⟨C, d, e, h, r⟩ := h
    refine ⟨C, d, e, k _ h, ?_⟩
    rcases r with r | ⟨dx, gs, e1, h1, h2⟩
    · exact .inl r
    · exact .inr ⟨dx, gs, e1, kd _ _ h1, fun f e q => let ⟨v, q1, q2⟩ := h2 f e q; ⟨v, q1, RelD.monoW le q2⟩⟩
theorem CellOk.keep {ρ' : Rho} {H' : Hp} {a : Addr} {c : Cell} (h : CellOk G ρ H a c) (le : Le G ρ H ρ' H') (k : ∀ o, H a = some o → H' a = some o) (kd : ∀ dx gs, H dx = some (.xd gs) → H' dx = some (.xd gs)) : CellOk G ρ' H' a c := h.keepW le.lw k kd
/-- all of the heap stays -/
theorem Rep.same {S : Sto} {H' : Hp} (r : Rep G ρ S H) (h : Same H H') : Rep G ρ S H' :=
  ⟨fun i c e => let ⟨a, e1, q⟩ := r.cell i c e; ⟨a, e1, q.keep (Le.same h) (fun o => h a o) fun dx gs => h dx _⟩, r.inj, r.top, fun i a e => let ⟨o, q⟩ := r.dom i a e; ⟨o, h _ _ q⟩⟩
theorem same_new {p : Addr} {o : HO} (h : H p = none) : Same H (upd H p o) := fun b x e => by
  rw [upd_ne (ne_of_none e h)]
  exact e
/-- a new object that no one names -/
theorem Rep.free {S : Sto} {p : Addr} {o : HO} (r : Rep G ρ S H) (h : H p = none) : Rep G ρ S (upd H p o) := r.same (same_new h)
/-- a new cell -/
theorem Rep.new {S : Sto} {p : Addr} {o : HO} {c : Cell} (r : Rep G ρ S H) (h : H p = none) (q : CellOk G (Y.ext ρ S.n p) (L2.upd H p o) p c) : Rep G (Y.ext ρ S.n p) (S.new c) (L2.upd H p o) := by
  have hn : ρ S.n = none := r.top _ (Nat.le_refl _)
  have le : Le G ρ H (Y.ext ρ S.n p) (L2.upd H p o) := (Le.ext hn).trans (Le.same (same_new h))
  have nop : ∀ i a, ρ i = some a → i < S.n := fun i a e => by
    by_cases z : S.n ≤ i
    · rw [r.top i z] at e
      cases e
    · omega
  have nep : ∀ i, ρ i ≠ some p := fun i e => by
    obtain ⟨o, z⟩ := r.dom i p e
    rw [h] at z
    cases z
  refine ⟨fun i c' e => ?_, fun i j a e1 e2 => ?_, fun i hi => ?_, fun i a e => ?_⟩
  · rw [Sto.get_new] at e
    split at e
    · rename_i z
      cases e
      exact ⟨p, by rw [z]; exact ext_same, q⟩
    · rename_i z
      obtain ⟨a, e1, q1⟩ := r.cell i c' e
      exact ⟨a, le.rho _ _ e1, q1.keep le (fun x e => same_new h _ _ e) fun dx gs e => same_new h _ _ e⟩
  · by_cases h1 : i = S.n
    · by_cases h2 : j = S.n
      · rw [h1, h2]
      · rw [h1, ext_same] at e1
        rw [ext_ne h2, ← e1] at e2
        exact absurd e2 (nep j)
    · rw [ext_ne h1] at e1
      by_cases h2 : j = S.n
      · rw [h2, ext_same, ← e1] at e2
        exact absurd e2.symm (nep i)
      · rw [ext_ne h2] at e2
        exact r.inj i j a e1 e2
  · rw [ext_ne (by show i ≠ S.n; have : S.n + 1 ≤ i := hi; omega)]
    exact r.top i (by have : S.n + 1 ≤ i := hi; omega)
  · by_cases h1 : i = S.n
    · rw [h1, ext_same] at e
      cases e
      exact ⟨o, upd_same⟩
    · rw [ext_ne h1] at e
      obtain ⟨x, q⟩ := r.dom i a e
      exact ⟨x, same_new h _ _ q⟩
/-- what may be written: not an instance's dict -/
def Wr1 : Option HO → Prop
  | some (.lst _) => True
  | some (.dK _) => True
  | some (.dT _) => True
  | some (.ins _ _ _) => True
  | some (.ext _) => True
  | _ => False
theorem Wr1.wr {o : Option HO} (h : Wr1 o) : Wr o := by
  cases o with
  | none => exact h.elim
  | some u => cases u <;> first | exact trivial | exact h.elim
/-- a cell is written -/
theorem Rep.setW {S : Sto} {i : Nat} {a : Addr} {o : HO} {c c' : Cell} (r : Rep G ρ S H) (hi : S.get i = some c) (ha : ρ i = some a) (lw : Lw G ρ H ρ (L2.upd H a o)) (hx : ∀ gs, H a ≠ some (.xd gs)) (q : CellOk G ρ (L2.upd H a o) a c') : Rep G ρ (S.set i c') (L2.upd H a o) := by
  refine ⟨fun j c2 e => ?_, r.inj, fun j hj => r.top j (by rw [Sto.set_n] at hj; exact hj), fun j b e => ?_⟩
  · by_cases h : j = i
    · rw [h, Sto.get_set_self hi] at e
      cases e
      exact ⟨a, by rw [h]; exact ha, q⟩
    · rw [Sto.get_set_ne h] at e
      obtain ⟨b, e1, q1⟩ := r.cell j c2 e
      have ne : b ≠ a := fun z => h (r.inj j i a (by rw [← z]; exact e1) ha)
      refine ⟨b, e1, q1.keepW lw (fun x e => by rw [upd_ne ne]; exact e) fun dx gs e => ?_⟩
      have nd : dx ≠ a := fun z => by
        rw [z] at e
        exact hx gs e
      rw [upd_ne nd]
      exact e
  · by_cases h : b = a
    · exact ⟨o, by rw [h]; exact upd_same⟩
    · obtain ⟨x, z⟩ := r.dom j b e
      exact ⟨x, by rw [upd_ne h]; exact z⟩
theorem Rep.set {S : Sto} {i : Nat} {a : Addr} {o : HO} {c c' : Cell} (r : Rep G ρ S H) (hi : S.get i = some c) (ha : ρ i = some a) (w : Wr1 (H a)) (q : CellOk G ρ (L2.upd H a o) a c') : Rep G ρ (S.set i c') (L2.upd H a o) :=
  r.setW hi ha (Le.upd w.wr).lw (fun gs z => by rw [z] at w; exact w) q
/-- a dict is locked, unlocked -/
theorem Rep.lock {S : Sto} {n : Nat} {l : List (D × D)} {v : V} (r : Rep G ρ S H) (hi : S.get n = some (.dct 0 l)) (h : RelD G ρ H (.loc n) v) : ∃ a u, v = .ref a ∧ ρ n = some a ∧ H a = some u ∧ Mut (some u) ∧ Wr (some u) ∧ (∀ xs, u ≠ .tup xs) ∧ (∀ xs, u ≠ .lst xs) ∧ ∀ od, Rep G ρ (S.set n (.dct 1 l)) (L2.upd H a (.frz od u)) := by
  simp only [RelD] at h
  obtain ⟨a, e, rfl⟩ := h
  obtain ⟨b, e1, q⟩ := r.cell n _ hi
  rw [e] at e1
  cases e1
  rcases q with ⟨kvs, hd, p⟩ | ⟨hne, kvs, hd, p⟩
  · have hd : H a = some (.dK kvs) := hd
    have w : Wr1 (H a) := by rw [hd]; exact trivial
    exact ⟨a, _, rfl, e, hd, trivial, trivial, fun xs z => (by cases z), fun xs z => (by cases z), fun od => r.set hi e w (Or.inl ⟨kvs, ⟨od, upd_same⟩, p.mono (Le.upd w.wr)⟩)⟩
  · have hd : H a = some (.dT kvs) := hd
    have w : Wr1 (H a) := by rw [hd]; exact trivial
    exact ⟨a, _, rfl, e, hd, trivial, trivial, fun xs z => (by cases z), fun xs z => (by cases z), fun od => r.set hi e w (Or.inr ⟨hne, kvs, ⟨od, upd_same⟩, p.mono (Le.upd w.wr)⟩)⟩
theorem Rep.unlock {S : Sto} {n : Nat} {l : List (D × D)} {a : Addr} {od : Obj} {u : HO} (r : Rep G ρ S H) (hi : S.get n = some (.dct 1 l)) (e : ρ n = some a) (hd : H a = some (.frz od u)) (u1 : ∀ xs, u ≠ .tup xs) (u2 : ∀ xs, u ≠ .lst xs) : Rep G ρ (S.set n (.dct 0 l)) (L2.upd H a u) := by
  have lw : Lw G ρ H ρ (L2.upd H a u) := ⟨fun _ _ h => h, fun b xs h => by
    rcases h with (h | ⟨ob, h⟩) | h
    · exact .inl (.inl (by rw [upd_ne (fun z => by rw [z, hd] at h; cases h)]; exact h))
    · exact .inl (.inr ⟨ob, by rw [upd_ne (fun z => by rw [z, hd] at h; cases h; exact u1 _ rfl)]; exact h⟩)
    · exact .inr h, fun b l h => by
    rcases h with ⟨ob, h⟩ | h
    · exact .inl ⟨ob, by rw [upd_ne (fun z => by rw [z, hd] at h; cases h; exact u2 _ rfl)]; exact h⟩
    · exact .inr h⟩
  obtain ⟨b, e1, q⟩ := r.cell n _ hi
  rw [e] at e1
  cases e1
  refine r.setW hi e lw (fun gs z => by rw [hd] at z; cases z) ?_
  rcases q with ⟨kvs, ⟨o, h⟩, p⟩ | ⟨hne, kvs, ⟨o, h⟩, p⟩
  · rw [hd] at h
    cases h
    exact .inl ⟨kvs, upd_same, p.monoW lw⟩
  · rw [hd] at h
    cases h
    exact .inr ⟨hne, kvs, upd_same, p.monoW lw⟩
theorem le_unlock {ρ' : Rho} {H' : Hp} {a : Addr} {od : Obj} {u : HO} (hd : H a = some u) (w : Wr (some u)) (le : Le G ρ (L2.upd H a (.frz od u)) ρ' H') : Le G ρ H ρ' (L2.upd H' a u) := by
  refine ⟨le.rho, fun b xs h => ?_, fun b o x h => ?_⟩
  · have ne : b ≠ a := fun z => by
      rw [z, hd] at h
      cases h
      exact w
    rw [upd_ne ne]
    exact le.tp _ _ (by rw [upd_ne ne]; exact h)
  · have ne : b ≠ a := fun z => by
      rw [z, hd] at h
      cases h
      exact w
    rw [upd_ne ne]
    exact le.fz _ _ _ (by rw [upd_ne ne]; exact h)
/-- less is known -/
theorem Rep.list {S : Sto} {i : Nat} {l : List D} {v : V} (r : Rep G ρ S H) (hi : S.get i = some (.lst l)) (h : RelD G ρ H (.loc i) v) : ∃ a xs, v = .ref a ∧ ρ i = some a ∧ H a = some (.lst xs) ∧ RelDs G ρ H l xs := by
  simp only [RelD] at h
  obtain ⟨a, e, rfl⟩ := h
  obtain ⟨b, e1, xs, q, t⟩ := r.cell i _ hi
  rw [e] at e1
  cases e1
  exact ⟨a, xs, rfl, e, q, t⟩
end

/-! ### what follows -/
/-- an exception's class and own dict -/
def RelX (G : Glo) (ρ : Rho) (H : Hp) (x : Ex) (cls : Value) (d : Option Addr) : Prop := cls = G.ca x.cls ∧
  match x.fs, d with
  | [], _ => True
  | fs, some a => ∃ gs, H a = some (.xd gs) ∧ ∀ f e, fs.lookup f = some e → ∃ v, gs.lookup f = some v ∧ RelD G ρ H e v
  | _, none => False
section
variable (G : Glo) {α β : Type} (RL : Rho → Hp → α → β → Prop)
def Aft (ρ : Rho) (H : Hp) (r : Res α) (Q : β → Hp → Prop) (W : XK) : Prop := match r with
  | .ok d S => ∀ ρ' H' v, Le G ρ H ρ' H' → Rep G ρ' S H' → RL ρ' H' d v → Q v H'
  | .exc x S => ∀ ρ' H' cls dd, Le G ρ H ρ' H' → Rep G ρ' S H' → RelX G ρ' H' x cls dd → W cls dd H'
  | .stuck => False
  | .pick t f => ∀ r, r < t → Aft ρ H (f r) Q W
end
section
variable {G : Glo} {α β α' β' : Type} {RL : Rho → Hp → α → β → Prop} {RL' : Rho → Hp → α' → β' → Prop} {ρ ρ' : Rho} {H H' : Hp}
theorem Aft.le {r : Res α} {Q : β → Hp → Prop} {W : XK} (h : Aft G RL ρ H r Q W) (le : Le G ρ H ρ' H') : Aft G RL ρ' H' r Q W := by
  induction r with
  | ok d S => exact fun ρ2 H2 v l1 r1 r2 => h ρ2 H2 v (le.trans l1) r1 r2
  | exc x S => exact fun ρ2 H2 c d l1 r1 r2 => h ρ2 H2 c d (le.trans l1) r1 r2
  | stuck => exact h
  | pick t f ih => exact fun r hr => ih r (h r hr)
theorem Aft.bind {r : Res α'} {k : α' → Sto → Res α} {Q : β → Hp → Prop} {W : XK} (h : Aft G RL ρ H (r.bind k) Q W) {Q' : β' → Hp → Prop}
    (f : ∀ ρ1 H1 v d S1, Le G ρ H ρ1 H1 → Rep G ρ1 S1 H1 → RL' ρ1 H1 d v → Aft G RL ρ1 H1 (k d S1) Q W → Q' v H1) : Aft G RL' ρ H r Q' W := by
  induction r with
  | ok d S => exact fun ρ1 H1 v le rp rl => f ρ1 H1 v d S le rp rl (Aft.le (r := k d S) h le)
  | exc x S => exact h
  | stuck => exact h
  | pick t g ih => exact fun r hr => ih r (h r hr)
theorem Aft.ok {d : α} {S : Sto} {Q : β → Hp → Prop} {W : XK} {v : β} (h : Aft G RL ρ H (.ok d S) Q W) (r : Rep G ρ S H) (rl : RL ρ H d v) : Q v H := h ρ H v Le.refl r rl
/-- a bind in which nothing may be raised -/
def Res.bindX (r : Res α') (k : α' → Sto → Res α) : Res α := match r with
  | .ok a S => k a S
  | .exc _ _ => .stuck
  | .stuck => .stuck
  | .pick t f => .pick t fun r => (f r).bindX k
theorem Aft.bindX {r : Res α'} {k : α' → Sto → Res α} {Q : β → Hp → Prop} {W W' : XK} (h : Aft G RL ρ H (r.bindX k) Q W) {Q' : β' → Hp → Prop}
    (f : ∀ ρ1 H1 v d S1, Le G ρ H ρ1 H1 → Rep G ρ1 S1 H1 → RL' ρ1 H1 d v → Aft G RL ρ1 H1 (k d S1) Q W → Q' v H1) : Aft G RL' ρ H r Q' W' := by
  induction r with
  | ok d S => exact fun ρ1 H1 v le rp rl => f ρ1 H1 v d S le rp rl (Aft.le (r := k d S) h le)
  | exc x S => exact h.elim
  | stuck => exact h
  | pick t g ih => exact fun r hr => ih r (h r hr)
/-- all ends -/
def Res.all (p : α → Sto → Bool) : Res α → Bool
  | .ok a S => p a S
  | .exc _ _ => false
  | .stuck => false
  | .pick t f => (List.range t).all fun r => (f r).all p
theorem Res.all_aft {p : α → Sto → Bool} {r : Res α} {Q : β → Hp → Prop} {W : XK} (h : r.all p = true) (f : ∀ d S, p d S = true → ∀ ρ' H' v, Le G ρ H ρ' H' → Rep G ρ' S H' → RL ρ' H' d v → Q v H') : Aft G RL ρ H r Q W := by
  induction r with
  | ok d S => exact f d S h
  | exc x S => cases h
  | stuck => cases h
  | pick t g ih =>
    intro r hr
    simp only [Res.all, List.all_eq_true, List.mem_range] at h
    exact ih r (h r hr)
end
end Y

/-! Y2: judgements, expressions. -/
namespace Y
open PySem PySem.Spec PyProof.Rows L2

def RelSt (G : Glo) (ρ : Rho) (H : Hp) (sd : SD) (σ : L2.St) : Prop := sd.length = σ.length ∧ RelSl G ρ H sd σ
theorem RelSt.mono {G : Glo} {ρ ρ' : Rho} {H H' : Hp} {sd : SD} {σ : L2.St} (h : RelSt G ρ H sd σ) (le : Le G ρ H ρ' H') : RelSt G ρ' H' sd σ := ⟨h.1, RelSl.mono le h.2⟩
theorem RelSt.set {G : Glo} {ρ : Rho} {H : Hp} {sd : SD} {σ : L2.St} {d : D} {v : V} (h : RelSt G ρ H sd σ) (r : RelD G ρ H d v) (i : Nat) : RelSt G ρ H (sd.set i (some d)) (σ.set i (some v)) := by
  refine ⟨by simp only [List.length_set]; exact h.1, fun j e hj => ?_⟩
  by_cases hij : i = j
  · subst hij
    have hl : i < sd.length := by
      obtain ⟨z, _⟩ := List.getElem?_eq_some_iff.mp hj
      simpa using z
    rw [List.getElem?_set_self hl] at hj
    cases hj
    exact ⟨v, List.getElem?_set_self (by rw [← h.1]; exact hl), r⟩
  · rw [List.getElem?_set_ne hij] at hj ⊢
    exact h.2 j e hj

structure XOk (G : Glo) (X : Cx) (W : WX) : Prop where
  tk : Takes X W
  own : PassesOwn (model X.prog X.w) X.A X.env X.xe
  kk : G.K = X.K

def te (G : Glo) (m : ME) (W : WX) : TE := fun σ H Q => ∃ sd S ρ, RelSt G ρ H sd σ ∧ Rep G ρ S H ∧ Aft G (RelD G) ρ H (m sd S) Q (fun c d H' => W c d σ H')
def RelB (ρ : Rho) (H : Hp) (a b : Bool) : Prop := a = b
def tt (G : Glo) (m : MT) (W : WX) : TT := fun σ H Q => ∃ sd S ρ, RelSt G ρ H sd σ ∧ Rep G ρ S H ∧ Aft G RelB ρ H (m sd S) Q (fun c d H' => W c d σ H')
def ta (G : Glo) (m : MA) (W : WX) : TA := fun σ H Q => ∃ sd S ρ, RelSt G ρ H sd σ ∧ Rep G ρ S H ∧ Aft G (RelDs G) ρ H (m sd S) Q (fun c d H' => W c d σ H')

def PEm (G : Glo) (X : Cx) (e : Expr) (m : ME) : Prop := ∀ W, XOk G X W → PE X e (te G m W)
def PTm (G : Glo) (X : Cx) (e : Expr) (m : MT) : Prop := ∀ W, XOk G X W → PT X e (tt G m W)
def PAm (G : Glo) (X : Cx) (es : List Expr) (m : MA) : Prop := ∀ W, XOk G X W → PA X es (ta G m W)
/-- operations on values -/
def OpM (G : Glo) (X : Cx) (F : Value → Value → Sem Value) (f : D → D → Sto → Res D) : Prop := ∀ W, XOk G X W →
  ∀ (pins : List (Addr × Obj)) (s : Shared) (σ : L2.St) (H : Hp) (ρ : Rho) (S : Sto) (x y : V) (v u : Value) (d e : D) (Q : VK), Inv X pins σ H s → RelV x v → RelV y u → Rep G ρ S H → RelD G ρ H d x → RelD G ρ H e y →
    Aft G (RelD G) ρ H (f d e S) Q (fun c a H' => W c a σ H') → wpAny (model X.prog X.w) X.A (F v u) (EP X pins σ Q) X.xe s
def UnM (G : Glo) (X : Cx) (F : Value → Sem Value) (f : D → Sto → Res D) : Prop := ∀ W, XOk G X W →
  ∀ (pins : List (Addr × Obj)) (s : Shared) (σ : L2.St) (H : Hp) (ρ : Rho) (S : Sto) (x : V) (v : Value) (d : D) (Q : VK), Inv X pins σ H s → RelV x v → Rep G ρ S H → RelD G ρ H d x →
    Aft G (RelD G) ρ H (f d S) Q (fun c a H' => W c a σ H') → wpAny (model X.prog X.w) X.A (F v) (EP X pins σ Q) X.xe s
def CallM (G : Glo) (X : Cx) (F : Value) (f : MF) : Prop := ∀ W, XOk G X W →
  ∀ (pins : List (Addr × Obj)) (s : Shared) (σ : L2.St) (H : Hp) (ρ : Rho) (S : Sto) (xs : List V) (us : List Value) (ds : List D) (Q : VK), Inv X pins σ H s → Vals xs us → Rep G ρ S H → RelDs G ρ H ds xs →
    Aft G (RelD G) ρ H (f ds S) Q (fun c a H' => W c a σ H') → wpAny (model X.prog X.w) X.A (call F us) (EP X pins σ Q) X.xe s

theorem PE_imp {X : Cx} {e : Expr} {t t' : TE} (h : PE X e t) (f : ∀ σ H Q, t' σ H Q → t σ H Q) : PE X e t' := ⟨fun pins s σ H Q I q => h.run pins s σ H Q I (f σ H Q q)⟩
theorem PT_imp {X : Cx} {e : Expr} {t t' : TT} (h : PT X e t) (f : ∀ σ H Q, t' σ H Q → t σ H Q) : PT X e t' := ⟨fun pins s σ H Q I q => h.run pins s σ H Q I (f σ H Q q)⟩
theorem PA_imp {X : Cx} {e : List Expr} {t t' : TA} (h : PA X e t) (f : ∀ σ H Q, t' σ H Q → t σ H Q) : PA X e t' := ⟨fun pos pins s σ H Q I q => h.run pos pins s σ H Q I (f σ H Q q)⟩
theorem PS_imp {X : Cx} {e : Stmt} {t t' : TS} (h : PS X e t) (f : ∀ D σ H, t' D σ H → t D σ H) : PS X e t' := ⟨fun pins s σ H D I q => h.run pins s σ H D I (f D σ H q)⟩
theorem PSs_imp {X : Cx} {e : List Stmt} {t t' : TS} (h : PSs X e t) (f : ∀ D σ H, t' D σ H → t D σ H) : PSs X e t' := ⟨fun pins s σ H D I q => h.run pins s σ H D I (f D σ H q)⟩

/-! ### mirrors -/
def mVar (i : Nat) : ME := fun sd S => match sd[i]? with
  | some (some d) => .ok d S
  | _ => .stuck
def mC (d : D) : ME := fun _ S => .ok d S
def mBin (f : D → D → Sto → Res D) (a b : ME) : ME := fun sd S => (a sd S).bind fun x S1 => (b sd S1).bind fun y S2 => f x y S2
def mUn (f : D → Sto → Res D) (a : ME) : ME := fun sd S => (a sd S).bind f
def mNil : MA := fun _ S => .ok [] S
def mCons (a : ME) (r : MA) : MA := fun sd S => (a sd S).bind fun x S1 => (r sd S1).bind fun xs S2 => .ok (x :: xs) S2
def mTup (a : MA) : ME := fun sd S => (a sd S).bind fun l S1 => if l.length ≤ 16777216 then .ok (.tup l) S1 else .stuck
def mLst (a : MA) : ME := fun sd S => (a sd S).bind fun l S1 => if l.length ≤ 16777216 then .ok (.loc S1.n) (S1.new (.lst l)) else .stuck
def mCall (f : MF) (a : MA) : ME := fun sd S => (a sd S).bind f
def mIf (t : MT) (a b : ME) : ME := fun sd S => (t sd S).bind fun k S1 => if k then a sd S1 else b sd S1
/-- tests -/
def tAndM (t u : MT) : MT := fun sd S => (t sd S).bind fun k S1 => if k then u sd S1 else .ok false S1
def tOrM (t u : MT) : MT := fun sd S => (t sd S).bind fun k S1 => if k then .ok true S1 else u sd S1
def tNotM (t : MT) : MT := fun sd S => (t sd S).bind fun k S1 => .ok (!k) S1
def truD : D → Sto → Res Bool
  | .non, S => .ok false S
  | .bl b, S => .ok b S
  | .int i, S => .ok (i != 0) S
  | .str x, S => if x.length ≤ 16777216 then .ok (!x.isEmpty) S else .stuck
  | .tup l, S => .ok (!l.isEmpty) S
  | .loc n, S => match S.get n with
    | some (.lst l) => .ok (!l.isEmpty) S
    | _ => .stuck
  | _, _ => .stuck
def mTru (m : ME) : MT := fun sd S => (m sd S).bind truD
/-- and, or, not as values -/
def mAndV (a b : ME) : ME := fun sd S => (a sd S).bind fun x S1 => match x with
  | .bl true => b sd S1
  | .bl false => .ok (.bl false) S1
  | _ => .stuck
def mOrV (a b : ME) : ME := fun sd S => (a sd S).bind fun x S1 => match x with
  | .bl true => .ok (.bl true) S1
  | .bl false => b sd S1
  | _ => .stuck
def mNotV (a : ME) : ME := fun sd S => (a sd S).bind fun x S1 => match x with
  | .bl k => .ok (.bl (!k)) S1
  | _ => .stuck

section
variable {G : Glo} {X : Cx}
/-! ### rules -/
theorem pm_var {i : Nat} {x : Str} {pos : Pos} (hN : X.N[i]? = some x := by rfl) (hv : Vis X.env.scope x := by first | exact Or.inl rfl | exact Or.inr (Or.inl rfl) | exact Or.inr (Or.inr rfl)) (hd : (x == ("__debug__" : Str)) = false := by decide)
    (hcd : (x == ("__classdict__" : Str)) = false := by decide) : PEm G X (.Name x pos) (mVar i) := fun W ok => PE_imp (pe_var hN hv hd hcd) fun σ H Q ⟨sd, S, ρ, hs, hr, h⟩ => by
  unfold mVar at h
  split at h
  · rename_i d e
    obtain ⟨v, e1, r⟩ := hs.2 i d e
    exact ⟨v, e1, h.ok hr r⟩
  · exact h.elim
theorem pm_c {e : Expr} {d : D} {v : V} (h : PE X e (tC v)) (r : ∀ ρ H, RelD G ρ H d v) : PEm G X e (mC d) := fun W ok => PE_imp h fun σ H Q ⟨sd, S, ρ, hs, hr, h⟩ => h.ok hr (r ρ H)
theorem pm_int {i : Int} {j pos} : PEm G X (.Constant (.int i) j pos) (mC (.int i)) := pm_c pe_int fun _ _ => by simp only [RelD]
theorem pm_bl {b : Bool} {j pos} : PEm G X (.Constant (.bool b) j pos) (mC (.bl b)) := pm_c pe_bl fun _ _ => by simp only [RelD]
theorem pm_non {j pos} : PEm G X (.Constant .none j pos) (mC .non) := pm_c pe_non fun _ _ => by simp only [RelD]
theorem pm_str {x : Str} {l : List Nat} {j pos} (h : x = ⟨l.toArray⟩) : PEm G X (.Constant (.str x) j pos) (mC (.str l)) := pm_c pe_str fun _ _ => by simp only [RelD, h]
/-- a module's constant, a class -/
theorem pm_glob {x : Str} {d : D} {u : Value} {v : V} {pos : Pos} (hg : Gl X x) (hm : X.mg x = some u) (r : RelV v u) (rd : ∀ ρ H, RelD G ρ H d v) (hd : (x == ("__debug__" : Str)) = false := by decide) : PEm G X (.Name x pos) (mC d) := pm_c (pe_glob hg hm r hd) rd

theorem te_bin {ma mb : ME} {f : D → D → Sto → Res D} {W : WX} {σ : L2.St} {H : Hp} {Q : VK} {R : V → V → Hp → Prop} (h : te G (mBin f ma mb) W σ H Q)
    (k : ∀ ρ H2 S d e x y, Rep G ρ S H2 → RelD G ρ H2 d x → RelD G ρ H2 e y → Aft G (RelD G) ρ H2 (f d e S) Q (fun c a H' => W c a σ H') → R x y H2) : te G ma W σ H fun x H1 => te G mb W σ H1 fun y H2 => R x y H2 := by
  obtain ⟨sd, S, ρ, hs, hr, h⟩ := h
  refine ⟨sd, S, ρ, hs, hr, Aft.bind h fun ρ1 H1 x d S1 le1 r1 rd h1 => ⟨sd, S1, ρ1, hs.mono le1, r1, Aft.bind h1 fun ρ2 H2 y e S2 le2 r2 re h2 => ?_⟩⟩
  exact k ρ2 H2 S2 d e x y r2 (rd.mono le2) re h2
theorem pm_bin {op : Operator} {f : D → D → Sto → Res D} {a b : Expr} {ma mb : ME} {pos : Pos} (ho : OpM G X (binaryOp op) f) (ha : PEm G X a ma) (hb : PEm G X b mb) : PEm G X (.BinOp a op b pos) (mBin f ma mb) := fun W ok => by
  refine ⟨fun pins s σ H Q I h => ?_⟩
  refine wpAny_BinOp (binT (ha W ok) (hb W ok) (R := fun x y H2 => ∃ ρ S d e, Rep G ρ S H2 ∧ RelD G ρ H2 d x ∧ RelD G ρ H2 e y ∧ Aft G (RelD G) ρ H2 (f d e S) Q (fun c a H' => W c a σ H')) I (te_bin h fun ρ H2 S d e x y a b c q => ⟨ρ, S, d, e, a, b, c, q⟩) fun v u s2 x y H2 I2 rx ry q => ?_)
  obtain ⟨ρ, S, d, e, a, b, c, q⟩ := q
  exact ho W ok pins s2 σ H2 ρ S x y v u d e Q I2 rx ry a b c q
theorem pm_cmp {op : CmpOp} {f : D → D → Sto → Res D} {a b : Expr} {ma mb : ME} {pos : Pos} (ho : OpM G X (compareOp op) f) (ha : PEm G X a ma) (hb : PEm G X b mb) (hm : behindInMarks op b = false) : PEm G X (.Compare a [op] [b] pos) (mBin f ma mb) := fun W ok => by
  refine ⟨fun pins s σ H Q I h => ?_⟩
  refine wpAny_Compare1 (binT (ha W ok) (hb W ok) (R := fun x y H2 => ∃ ρ S d e, Rep G ρ S H2 ∧ RelD G ρ H2 d x ∧ RelD G ρ H2 e y ∧ Aft G (RelD G) ρ H2 (f d e S) Q (fun c a H' => W c a σ H')) I (te_bin h fun ρ H2 S d e x y a b c q => ⟨ρ, S, d, e, a, b, c, q⟩) fun v u s2 x y H2 I2 rx ry q => ?_) hm
  obtain ⟨ρ, S, d, e, a, b, c, q⟩ := q
  exact ho W ok pins s2 σ H2 ρ S x y v u d e Q I2 rx ry a b c q
/-- a comparison as a test: its answer is a bool -/
def mTst (f : D → D → Sto → Res D) (a b : ME) : MT := fun sd S => (mBin f a b sd S).bind fun d S1 => match d with
  | .bl k => .ok k S1
  | _ => .stuck
theorem aft_bl {ρ : Rho} {H : Hp} {r : Res D} {Q : Bool → Hp → Prop} {W : XK} (h : Aft G RelB ρ H (r.bind fun d S1 => match d with | .bl k => Res.ok k S1 | _ => .stuck) Q W) :
    Aft G (RelD G) ρ H r (fun z H3 => ∃ k, z = .bl k ∧ Q k H3) W := by
  refine Aft.bind h fun ρ1 H1 v d S1 le r1 rd h1 => ?_
  cases d with
  | bl k =>
    simp only [RelD] at rd
    exact ⟨k, rd, h1.ok r1 rfl⟩
  | _ => exact h1.elim
theorem pt_cmp {op : CmpOp} {f : D → D → Sto → Res D} {a b : Expr} {ma mb : ME} {pos : Pos} (ho : OpM G X (compareOp op) f) (ha : PEm G X a ma) (hb : PEm G X b mb) (hm : behindInMarks op b = false) : PTm G X (.Compare a [op] [b] pos) (mTst f ma mb) := fun W ok => by
  refine ⟨fun pins s σ H Q I h => ?_⟩
  obtain ⟨sd, S, ρ, hs, hr, h⟩ := h
  have h' : te G (mBin f ma mb) W σ H (fun z H3 => ∃ k, z = .bl k ∧ Q k H3) := ⟨sd, S, ρ, hs, hr, aft_bl h⟩
  have t := te_bin (R := fun x y H2 => ∃ ρ S d e, Rep G ρ S H2 ∧ RelD G ρ H2 d x ∧ RelD G ρ H2 e y ∧ Aft G (RelD G) ρ H2 (f d e S) (fun z H3 => ∃ k, z = .bl k ∧ Q k H3) (fun c a H' => W c a σ H')) h' fun ρ H2 S d e x y a b c q => ⟨ρ, S, d, e, a, b, c, q⟩
  refine wpAny_isTrue_Compare1 (thn ((ha W ok).run pins s σ H _ I t) fun v s1 ⟨x, H1, I1, r1, q1⟩ => thn ((hb W ok).run pins s1 σ H1 _ I1 q1) fun u s2 ⟨y, H2, I2, r2, q2⟩ => ?_) hm
  obtain ⟨ρ, S, d, e, a, b, c, q⟩ := q2
  refine thn (ho W ok pins s2 σ H2 ρ S x y v u d e _ I2 r1 r2 a b c q) fun c s3 ⟨z, H3, I3, r3, k, e, q3⟩ => ?_
  subst e
  cases r3
  exact wpAny_truthy_bool ⟨H3, I3, q3⟩
theorem pm_un {op : UnaryOp} {f : D → Sto → Res D} {a : Expr} {ma : ME} {pos : Pos} (ho : UnM G X (unaryOp op) f) (ha : PEm G X a ma) : PEm G X (.UnaryOp op a pos) (mUn f ma) := fun W ok => by
  refine ⟨fun pins s σ H Q I h => ?_⟩
  obtain ⟨sd, S, ρ, hs, hr, h⟩ := h
  have t : te G ma W σ H (fun x H1 => ∃ ρ S d, Rep G ρ S H1 ∧ RelD G ρ H1 d x ∧ Aft G (RelD G) ρ H1 (f d S) Q (fun c a H' => W c a σ H')) := ⟨sd, S, ρ, hs, hr, Aft.bind h fun ρ1 H1 x d S1 le1 r1 rd h1 => ⟨ρ1, S1, d, r1, rd, h1⟩⟩
  refine UnaryOp_ (thn ((ha W ok).run pins s σ H _ I t) fun v s1 ⟨x, H1, I1, r1, q1⟩ => ?_)
  obtain ⟨ρ1, S1, d, a, b, q⟩ := q1
  exact ho W ok pins s1 σ H1 ρ1 S1 x v d Q I1 r1 a b q
/-! ### arguments, displays -/
theorem pa_nilm : PAm G X [] mNil := fun W ok => PA_imp pa_nil fun σ H Q ⟨sd, S, ρ, hs, hr, h⟩ => h.ok hr RelDs.nil
theorem pa_consm {e : Expr} {es : List Expr} {m : ME} {r : MA} (ha : PEm G X e m) (hr : PAm G X es r) (hs : starEach (e :: es) X.env = (false, eval e X.env) :: starEach es X.env := by rfl) : PAm G X (e :: es) (mCons m r) := fun W ok =>
  PA_imp (pa_cons (ha W ok) (hr W ok) hs) fun σ H Q ⟨sd, S, ρ, hs, hr, h⟩ => ⟨sd, S, ρ, hs, hr, Aft.bind h fun ρ1 H1 x d S1 le1 r1 rd h1 => ⟨sd, S1, ρ1, hs.mono le1, r1, Aft.bind h1 fun ρ2 H2 y ds S2 le2 r2 re h2 => h2.ok r2 (.cons (rd.mono le2) re)⟩⟩
theorem pm_tup {es : List Expr} {m : MA} {x1} {pos : Pos} (ha : PAm G X es m) : PEm G X (.Tuple es x1 pos) (mTup m) := fun W ok => PE_imp (pe_tup (ha W ok)) fun σ H Q ⟨sd, S, ρ, hs, hr, h⟩ => by
  refine ⟨sd, S, ρ, hs, hr, Aft.bind h fun ρ1 H1 xs ds S1 le1 r1 rd h1 => ?_⟩
  split at h1
  · rename_i hl
    refine ⟨by rw [← rd.length, sizeLine_eq]; exact hl, fun p hp => ?_⟩
    have s := same_new (o := .tup xs) hp
    exact h1 ρ1 _ _ (Le.same s) (r1.same s) (RelD.tup' (.inl (.inl upd_same)) (rd.mono (Le.same s)))
  · exact h1.elim
theorem pm_lst {es : List Expr} {m : MA} {pos : Pos} (ha : PAm G X es m) : PEm G X (.List es pos) (mLst m) := fun W ok => PE_imp (pe_lst (ha W ok)) fun σ H Q ⟨sd, S, ρ, hs, hr, h⟩ => by
  refine ⟨sd, S, ρ, hs, hr, Aft.bind h fun ρ1 H1 xs ds S1 le1 r1 rd h1 => ?_⟩
  split at h1
  · rename_i hl
    refine ⟨by rw [← rd.length, sizeLine_eq]; exact hl, fun p hp => ?_⟩
    have le : Le G ρ1 H1 (ext ρ1 S1.n p) (upd H1 p (.lst xs)) := (Le.ext (r1.top _ (Nat.le_refl _))).trans (Le.same (same_new hp))
    exact h1 _ _ _ le (r1.new hp ⟨xs, upd_same, rd.mono le⟩) (RelD.loc' ext_same)
  · exact h1.elim
/-! ### tests -/
theorem truD_ok {W : WX} {pins : List (Addr × Obj)} {s : Shared} {σ : L2.St} {H : Hp} {ρ : Rho} {S : Sto} {x : V} {v : Value} {d : D} {Q : Bool → Hp → Prop} (kk : G.K = X.K) (I : Inv X pins σ H s) (rx : RelV x v) (hr : Rep G ρ S H) (rd : RelD G ρ H d x)
    (h : Aft G RelB ρ H (truD d S) Q (fun c a H' => W c a σ H')) : ∃ k, TruV X.K x H k ∧ Q k H := by
  cases d with
  | non =>
    simp only [RelD] at rd
    subst rd
    exact ⟨false, rfl, h.ok hr rfl⟩
  | bl b =>
    simp only [RelD] at rd
    subst rd
    exact ⟨b, rfl, h.ok hr rfl⟩
  | int i =>
    simp only [RelD] at rd
    subst rd
    exact ⟨_, rfl, h.ok hr rfl⟩
  | str l =>
    simp only [RelD] at rd
    subst rd
    simp only [truD] at h
    split at h
    · rename_i hl
      have e : (⟨l.toArray⟩ : Str).length = l.length := by show l.toArray.size = l.length; simp
      refine ⟨!l.isEmpty, ⟨by rw [e, sizeLine_eq]; exact hl, ?_⟩, h.ok hr rfl⟩
      rw [e]
      cases l with
      | nil => rfl
      | cons a r =>
        show true = ((((r.length + 1 : Nat)) : Int) != 0)
        have z : ((((r.length + 1 : Nat)) : Int) != 0) = true := by
          simp only [bne_iff_ne, ne_eq]
          omega
        rw [z]
    · exact h.elim
  | tup l =>
    simp only [RelD] at rd
    obtain ⟨a, xs, rfl, hs, ht⟩ := rd
    refine ⟨!l.isEmpty, .inr (.inl ⟨xs, by rw [← kk]; exact hs, ?_⟩), h.ok hr rfl⟩
    have e := ht.length
    cases l <;> cases xs <;> first | rfl | (simp at e)
  | loc n =>
    simp only [truD] at h
    split at h
    · rename_i l e
      obtain ⟨a, xs, rfl, e1, hH, ht⟩ := hr.list e rd
      refine ⟨!l.isEmpty, .inl ⟨xs, .inl (.inl hH), ?_⟩, h.ok hr rfl⟩
      have e := ht.length
      cases l <;> cases xs <;> first | rfl | (simp at e)
    · exact h.elim
  | cls n => exact h.elim
  | scr l => exact h.elim
theorem pt_tru {a : Expr} {m : ME} (ha : PEm G X a m) (he : ∀ whole, isTrue a X.env whole = (do let v ← whole; standAt a.pos; holding [v] (truthy v)) := by intro _; rfl) : PTm G X a (mTru m) := fun W ok => by
  refine ⟨fun pins s σ H Q I h => ?_⟩
  obtain ⟨sd, S, ρ, hs, hr, h⟩ := h
  have t : te G m W σ H (fun x H1 => ∃ ρ S d, Rep G ρ S H1 ∧ RelD G ρ H1 d x ∧ Aft G RelB ρ H1 (truD d S) Q (fun c a H' => W c a σ H')) := ⟨sd, S, ρ, hs, hr, Aft.bind h fun ρ1 H1 x d S1 le1 r1 rd h1 => ⟨ρ1, S1, d, r1, rd, h1⟩⟩
  refine isTrue_plain (thn ((ha W ok).run pins s σ H _ I t) fun v s1 ⟨x, H1, I1, r1, q1⟩ => ?_) (he _)
  obtain ⟨ρ1, S1, d, a, b, q⟩ := q1
  exact tru_ok pins s1 σ H1 x v Q I1 r1 (truD_ok ok.kk I1 r1 a b q)
theorem pt_notm {a : Expr} {m : MT} {pos : Pos} (ha : PTm G X a m) : PTm G X (.UnaryOp .Not a pos) (tNotM m) := fun W ok => PT_imp (pt_not (ha W ok)) fun σ H Q ⟨sd, S, ρ, hs, hr, h⟩ =>
  ⟨sd, S, ρ, hs, hr, Aft.bind h fun ρ1 H1 x d S1 le1 r1 rd h1 => by
    have e : d = x := rd
    subst e
    exact h1.ok r1 rfl⟩
def PWm (G : Glo) (X : Cx) (e : Expr) (m : MT) : Prop := ∀ W, XOk G X W → PW X e (tt G m W)
theorem PW_imp {X : Cx} {e : Expr} {t t' : TT} (h : PW X e t) (f : ∀ σ H Q, t' σ H Q → t σ H Q) : PW X e t' := ⟨fun wh pins s σ H Q I q => h.run wh pins s σ H Q I (f σ H Q q)⟩
theorem pt_w {e : Expr} {m : MT} (h : PWm G X e m) : PTm G X e m := fun W ok => (h W ok).pt
theorem pw_and1m {a : Expr} {m : MT} {pos : Pos} (ha : PTm G X a m) : PWm G X (.BoolOp .And [a] pos) m := fun W ok => pw_and1 (ha W ok)
theorem pw_or1m {a : Expr} {m : MT} {pos : Pos} (ha : PTm G X a m) : PWm G X (.BoolOp .Or [a] pos) m := fun W ok => pw_or1 (ha W ok)
theorem pw_andm {a b : Expr} {rest : List Expr} {m n : MT} {pos : Pos} (ha : PTm G X a m) (hb : PWm G X (.BoolOp .And (b :: rest) pos) n) : PWm G X (.BoolOp .And (a :: b :: rest) pos) (tAndM m n) := fun W ok => PW_imp (pw_and (ha W ok) (hb W ok)) fun σ H Q ⟨sd, S, ρ, hs, hr, h⟩ =>
  ⟨sd, S, ρ, hs, hr, Aft.bind h fun ρ1 H1 x d S1 le1 r1 rd h1 => by
    have e : d = x := rd
    subst e
    cases d with
    | true => exact ⟨sd, S1, ρ1, hs.mono le1, r1, h1⟩
    | false => exact h1.ok r1 rfl⟩
theorem pw_orm {a b : Expr} {rest : List Expr} {m n : MT} {pos : Pos} (ha : PTm G X a m) (hb : PWm G X (.BoolOp .Or (b :: rest) pos) n) : PWm G X (.BoolOp .Or (a :: b :: rest) pos) (tOrM m n) := fun W ok => PW_imp (pw_or (ha W ok) (hb W ok)) fun σ H Q ⟨sd, S, ρ, hs, hr, h⟩ =>
  ⟨sd, S, ρ, hs, hr, Aft.bind h fun ρ1 H1 x d S1 le1 r1 rd h1 => by
    have e : d = x := rd
    subst e
    cases d with
    | true => exact h1.ok r1 rfl
    | false => exact ⟨sd, S1, ρ1, hs.mono le1, r1, h1⟩⟩
theorem pm_ifexp {c a b : Expr} {t : MT} {m n : ME} {pos : Pos} (hc : PTm G X c t) (ha : PEm G X a m) (hb : PEm G X b n) : PEm G X (.IfExp c a b pos) (mIf t m n) := fun W ok => PE_imp (pe_ifExp (hc W ok) (ha W ok) (hb W ok)) fun σ H Q ⟨sd, S, ρ, hs, hr, h⟩ =>
  ⟨sd, S, ρ, hs, hr, Aft.bind h fun ρ1 H1 x d S1 le1 r1 rd h1 => by
    have e : d = x := rd
    subst e
    cases d with
    | true => exact ⟨sd, S1, ρ1, hs.mono le1, r1, h1⟩
    | false => exact ⟨sd, S1, ρ1, hs.mono le1, r1, h1⟩⟩
theorem pm_one {op} {a : Expr} {m : ME} {pos : Pos} (h : PEm G X a m) : PEm G X (.BoolOp op [a] pos) m := fun W ok => pe_one (h W ok)
theorem pm_and {a b : Expr} {rest : List Expr} {m n : ME} {pos : Pos} (ha : PEm G X a m) (hb : PEm G X (.BoolOp .And (b :: rest) pos) n) : PEm G X (.BoolOp .And (a :: b :: rest) pos) (mAndV m n) := fun W ok => PE_imp (pe_and (ha W ok) (hb W ok)) fun σ H Q ⟨sd, S, ρ, hs, hr, h⟩ =>
  ⟨sd, S, ρ, hs, hr, Aft.bind h fun ρ1 H1 x d S1 le1 r1 rd h1 => by
    cases d with
    | bl k =>
      simp only [RelD] at rd
      refine ⟨k, rd, ?_⟩
      cases k with
      | true => exact ⟨sd, S1, ρ1, hs.mono le1, r1, h1⟩
      | false => exact h1.ok r1 (by simp only [RelD])
    | _ => exact h1.elim⟩
theorem pm_or {a b : Expr} {rest : List Expr} {m n : ME} {pos : Pos} (ha : PEm G X a m) (hb : PEm G X (.BoolOp .Or (b :: rest) pos) n) : PEm G X (.BoolOp .Or (a :: b :: rest) pos) (mOrV m n) := fun W ok => PE_imp (pe_or (ha W ok) (hb W ok)) fun σ H Q ⟨sd, S, ρ, hs, hr, h⟩ =>
  ⟨sd, S, ρ, hs, hr, Aft.bind h fun ρ1 H1 x d S1 le1 r1 rd h1 => by
    cases d with
    | bl k =>
      simp only [RelD] at rd
      refine ⟨k, rd, ?_⟩
      cases k with
      | true => exact h1.ok r1 (by simp only [RelD])
      | false => exact ⟨sd, S1, ρ1, hs.mono le1, r1, h1⟩
    | _ => exact h1.elim⟩
theorem pm_not {a : Expr} {m : ME} {pos : Pos} (ha : PEm G X a m) : PEm G X (.UnaryOp .Not a pos) (mNotV m) := fun W ok => PE_imp (pe_not (ha W ok)) fun σ H Q ⟨sd, S, ρ, hs, hr, h⟩ =>
  ⟨sd, S, ρ, hs, hr, Aft.bind h fun ρ1 H1 x d S1 le1 r1 rd h1 => by
    cases d with
    | bl k =>
      simp only [RelD] at rd
      exact ⟨k, rd, h1.ok r1 (by simp only [RelD])⟩
    | _ => exact h1.elim⟩
/-! ### calls -/
theorem pm_callB {x : Str} {id : String} {f : MF} {e : Expr} {es : List Expr} {m : MA} {p pos : Pos} (hc : CallM G X (.builtin id) f) (hg : Gl X x) (hm : X.mg x = none) (hv : bootBuiltins x = some (.builtin id)) (ha : PAm G X (e :: es) m) (hn : x ≠ "__name__" := by decide) (hdb : (x == ("__debug__" : Str)) = false := by decide)
    (he : starEach (e :: es) X.env = (false, eval e X.env) :: starEach es X.env := by rfl) (hpl : (backTo pos (starEach es X.env)).any (·.1) = false := by rfl) : PEm G X (.Call (.Name x p) (e :: es) [] pos) (mCall f m) := fun W ok => by
  refine ⟨fun pins s σ H Q I h => ?_⟩
  obtain ⟨sd, S, ρ, hs, hr, h⟩ := h
  have t : ta G m W σ H (fun xs H1 => ∃ ρ S ds, Rep G ρ S H1 ∧ RelDs G ρ H1 ds xs ∧ Aft G (RelD G) ρ H1 (f ds S) Q (fun c a H' => W c a σ H')) := ⟨sd, S, ρ, hs, hr, Aft.bind h fun ρ1 H1 x d S1 le1 r1 rd h1 => ⟨ρ1, S1, d, r1, rd, h1⟩⟩
  refine wpAny_Call_Name_kw (ld_blt I hg hm hv ?_ hn hdb)
  refine PyProof.Rows.callWith_builtin1 (thn ((ha W ok).run pos pins s σ H _ I t) fun us s1 ⟨vs, H1, I1, r1, q1⟩ => ?_) he hpl
  obtain ⟨ρ1, S1, d, a, b, q⟩ := q1
  exact hc W ok pins s1 σ H1 ρ1 S1 vs us d Q I1 r1 a b q
theorem pm_callT {x : Str} {T : String} {f : MF} {e : Expr} {es : List Expr} {m : MA} {p pos : Pos} (hc : CallM G X (.type T) f) (hg : Gl X x) (hm : X.mg x = none) (hv : bootBuiltins x = some (.type T)) (ha : PAm G X (e :: es) m) (hn : x ≠ "__name__" := by decide) (hdb : (x == ("__debug__" : Str)) = false := by decide)
    (he : starEach (e :: es) X.env = (false, eval e X.env) :: starEach es X.env := by rfl) (hpl : (backTo pos (starEach es X.env)).any (·.1) = false := by rfl) : PEm G X (.Call (.Name x p) (e :: es) [] pos) (mCall f m) := fun W ok => by
  refine ⟨fun pins s σ H Q I h => ?_⟩
  obtain ⟨sd, S, ρ, hs, hr, h⟩ := h
  have t : ta G m W σ H (fun xs H1 => ∃ ρ S ds, Rep G ρ S H1 ∧ RelDs G ρ H1 ds xs ∧ Aft G (RelD G) ρ H1 (f ds S) Q (fun c a H' => W c a σ H')) := ⟨sd, S, ρ, hs, hr, Aft.bind h fun ρ1 H1 x d S1 le1 r1 rd h1 => ⟨ρ1, S1, d, r1, rd, h1⟩⟩
  refine wpAny_Call_Name_kw (ld_blt I hg hm hv ?_ hn hdb)
  refine PyProof.Rows.callWith_type1 (thn ((ha W ok).run pos pins s σ H _ I t) fun us s1 ⟨vs, H1, I1, r1, q1⟩ => ?_) he hpl
  obtain ⟨ρ1, S1, d, a, b, q⟩ := q1
  exact hc W ok pins s1 σ H1 ρ1 S1 vs us d Q I1 r1 a b q
/-- a def of our own, called by its name -/
theorem pm_call {x : Str} {g : Addr} {f : MF} {e : Expr} {es : List Expr} {m : MA} {p pos : Pos} (hc : CallM G X (.ref g) f) (hg : Gl X x) (hm : X.mg x = some (.ref g)) (hk : PySem.W.keepIn X.K (.ref g) = true) (ha : PAm G X (e :: es) m) (hdb : (x == ("__debug__" : Str)) = false := by decide)
    (he : starEach (e :: es) X.env = (false, eval e X.env) :: starEach es X.env := by rfl) (hpl : (backTo pos (starEach es X.env)).any (·.1) = false := by rfl) : PEm G X (.Call (.Name x p) (e :: es) [] pos) (mCall f m) := fun W ok => by
  refine ⟨fun pins s σ H Q I h => ?_⟩
  obtain ⟨sd, S, ρ, hs, hr, h⟩ := h
  have t : ta G m W σ H (fun xs H1 => ∃ ρ S ds, Rep G ρ S H1 ∧ RelDs G ρ H1 ds xs ∧ Aft G (RelD G) ρ H1 (f ds S) Q (fun c a H' => W c a σ H')) := ⟨sd, S, ρ, hs, hr, Aft.bind h fun ρ1 H1 x d S1 le1 r1 rd h1 => ⟨ρ1, S1, d, r1, rd, h1⟩⟩
  refine wpAny_Call_Name_kw (ld_glob I hg hm ?_ hdb)
  refine PySem.W.callWith_K (h₀ := X.base) I.ok.mod.kin hk (thn ((ha W ok).run pos pins s σ H _ I t) fun us s1 ⟨vs, H1, I1, r1, q1⟩ => ⟨I1.kIn, ?_⟩) he hpl
  obtain ⟨ρ1, S1, d, a, b, q⟩ := q1
  exact hc W ok pins s1 σ H1 ρ1 S1 vs us d Q I1 r1 a b q
theorem pm_call0 {x : Str} {g : Addr} {f : MF} {p pos : Pos} (hc : CallM G X (.ref g) f) (hg : Gl X x) (hm : X.mg x = some (.ref g)) (hk : PySem.W.keepIn X.K (.ref g) = true) (hdb : (x == ("__debug__" : Str)) = false := by decide) :
    PEm G X (.Call (.Name x p) [] [] pos) (mCall f mNil) := fun W ok => by
  refine ⟨fun pins s σ H Q I h => ?_⟩
  obtain ⟨sd, S, ρ, hs, hr, h⟩ := h
  refine wpAny_Call_Name_kw (ld_glob I hg hm ?_ hdb)
  exact PySem.W.callWith_K0 I.kIn hk (hc W ok pins s σ H ρ S [] [] [] Q I .nil hr RelDs.nil h)
end
end Y

/-! Y3: statements, targets, loops, comprehensions. -/
namespace Y
open PySem PySem.Spec PyProof.Rows L2

inductive SRes where
  | nx (sd : SD) (S : Sto)
  | rt (d : D) (S : Sto)
  | bk (sd : SD) (S : Sto)
  | ct (sd : SD) (S : Sto)
  | ex (x : Ex) (sd : SD) (S : Sto)
  | stuck
  | pick (t : Nat) (f : Nat → SRes)
abbrev MS := SD → Sto → SRes
def AftS (G : Glo) (ρ : Rho) (H : Hp) (r : SRes) (E : Ends) (W : WX) : Prop := match r with
  | .nx sd S => ∀ ρ' H' σ', Le G ρ H ρ' H' → Rep G ρ' S H' → RelSt G ρ' H' sd σ' → E.nx σ' H'
  | .rt d S => ∀ ρ' H' v, Le G ρ H ρ' H' → Rep G ρ' S H' → RelD G ρ' H' d v → E.rt v H'
  | .bk sd S => ∀ ρ' H' σ', Le G ρ H ρ' H' → Rep G ρ' S H' → RelSt G ρ' H' sd σ' → E.bk σ' H'
  | .ct sd S => ∀ ρ' H' σ', Le G ρ H ρ' H' → Rep G ρ' S H' → RelSt G ρ' H' sd σ' → E.ct σ' H'
  | .ex x sd S => ∀ ρ' H' σ' cls dd, Le G ρ H ρ' H' → Rep G ρ' S H' → RelSt G ρ' H' sd σ' → RelX G ρ' H' x cls dd → W cls dd σ' H'
  | .stuck => False
  | .pick t f => ∀ r, r < t → AftS G ρ H (f r) E W
theorem AftS.le {G : Glo} {ρ ρ' : Rho} {H H' : Hp} {r : SRes} {E : Ends} {W : WX} (h : AftS G ρ H r E W) (le : Le G ρ H ρ' H') : AftS G ρ' H' r E W := by
  induction r with
  | nx sd S => exact fun ρ2 H2 σ2 l1 r1 r2 => h ρ2 H2 σ2 (le.trans l1) r1 r2
  | rt d S => exact fun ρ2 H2 σ2 l1 r1 r2 => h ρ2 H2 σ2 (le.trans l1) r1 r2
  | bk sd S => exact fun ρ2 H2 σ2 l1 r1 r2 => h ρ2 H2 σ2 (le.trans l1) r1 r2
  | ct sd S => exact fun ρ2 H2 σ2 l1 r1 r2 => h ρ2 H2 σ2 (le.trans l1) r1 r2
  | ex x sd S => exact fun ρ2 H2 σ2 c d l1 r1 r2 r3 => h ρ2 H2 σ2 c d (le.trans l1) r1 r2 r3
  | stuck => exact h
  | pick t f ih => exact fun r hr => ih r (h r hr)
def bindS {α : Type} (r : Res α) (sd : SD) (k : α → Sto → SRes) : SRes := match r with
  | .ok a S => k a S
  | .exc x S => .ex x sd S
  | .stuck => .stuck
  | .pick t f => .pick t fun r => bindS (f r) sd k
theorem AftS.bind {G : Glo} {α β : Type} {RL : Rho → Hp → α → β → Prop} {ρ : Rho} {H : Hp} {r : Res α} {sd : SD} {σ : L2.St} {k : α → Sto → SRes} {E : Ends} {W : WX} (h : AftS G ρ H (bindS r sd k) E W) (hs : RelSt G ρ H sd σ) {Q : β → Hp → Prop}
    (f : ∀ ρ1 H1 v d S1, Le G ρ H ρ1 H1 → Rep G ρ1 S1 H1 → RL ρ1 H1 d v → AftS G ρ1 H1 (k d S1) E W → Q v H1) : Aft G RL ρ H r Q (fun c d H' => W c d σ H') := by
  induction r with
  | ok d S => exact fun ρ1 H1 v le rp rl => f ρ1 H1 v d S le rp rl (AftS.le (r := k d S) h le)
  | exc x S => exact fun ρ1 H1 c d le rp rx => h ρ1 H1 σ c d le rp (hs.mono le) rx
  | stuck => exact h
  | pick t g ih => exact fun r hr => ih r (h r hr)
def ts (G : Glo) (m : MS) (W : WX) : TS := fun E σ H => ∃ sd S ρ, RelSt G ρ H sd σ ∧ Rep G ρ S H ∧ AftS G ρ H (m sd S) E W
def PSm (G : Glo) (X : Cx) (st : Stmt) (m : MS) : Prop := ∀ W, XOk G X W → PS X st (ts G m W)
def PSsm (G : Glo) (X : Cx) (st : List Stmt) (m : MS) : Prop := ∀ W, XOk G X W → PSs X st (ts G m W)

def SRes.andThen (r : SRes) (f : MS) : SRes := match r with
  | .nx sd S => f sd S
  | .pick t g => .pick t fun r => (g r).andThen f
  | .rt d S => .rt d S
  | .bk sd S => .bk sd S
  | .ct sd S => .ct sd S
  | .ex x sd S => .ex x sd S
  | .stuck => .stuck
/-- behind a turn of a loop -/
def SRes.turn (r : SRes) (f : MS) : SRes := match r with
  | .nx sd S => f sd S
  | .pick t g => .pick t fun r => (g r).turn f
  | .rt d S => .rt d S
  | .bk sd S => .nx sd S
  | .ct sd S => f sd S
  | .ex x sd S => .ex x sd S
  | .stuck => .stuck
theorem AftS.andThen {G : Glo} {ρ : Rho} {H : Hp} {r : SRes} {f : MS} {E : Ends} {W : WX} (h : AftS G ρ H (r.andThen f) E W) : AftS G ρ H r { E with nx := ts G f W E } W := by
  induction r with
  | nx sd S => exact fun ρ1 H1 σ1 le r1 s1 => ⟨sd, S, ρ1, s1, r1, AftS.le (r := f sd S) h le⟩
  | pick t g ih => exact fun r hr => ih r (h r hr)
  | _ => exact h
theorem AftS.turn {G : Glo} {ρ : Rho} {H : Hp} {r : SRes} {f : MS} {E : Ends} {W : WX} (h : AftS G ρ H (r.turn f) E W) {N : L2.St → Hp → Prop}
    (k : ∀ σ' H' sd S ρ', Le G ρ H ρ' H' → RelSt G ρ' H' sd σ' → Rep G ρ' S H' → AftS G ρ' H' (f sd S) E W → N σ' H') : AftS G ρ H r { E with nx := N, ct := N, bk := E.nx } W := by
  induction r with
  | nx sd S => exact fun ρ1 H1 σ1 le r1 s1 => k σ1 H1 sd S ρ1 le s1 r1 (AftS.le (r := f sd S) h le)
  | ct sd S => exact fun ρ1 H1 σ1 le r1 s1 => k σ1 H1 sd S ρ1 le s1 r1 (AftS.le (r := f sd S) h le)
  | pick t g ih => exact fun r hr => ih r (h r hr)
  | _ => exact h

/-! ### mirrors -/
def sSkip : MS := fun sd S => .nx sd S
def sSeq (a b : MS) : MS := fun sd S => (a sd S).andThen b
def sExpr (m : ME) : MS := fun sd S => bindS (m sd S) sd fun _ S1 => .nx sd S1
def sRet (m : ME) : MS := fun sd S => bindS (m sd S) sd fun d S1 => .rt d S1
def sRetN : MS := fun _ S => .rt .non S
def sIf (t : MT) (a b : MS) : MS := fun sd S => bindS (t sd S) sd fun k S1 => if k then a sd S1 else b sd S1
def sSet (i : Nat) (m : ME) : MS := fun sd S => bindS (m sd S) sd fun d S1 => .nx (sd.set i (some d)) S1
def sBreak : MS := fun sd S => .bk sd S
def sCont : MS := fun sd S => .ct sd S

section
variable {G : Glo} {X : Cx}
theorem pss_nilm : PSsm G X [] sSkip := fun W ok => PSs_imp pss_nil fun E σ H ⟨sd, S, ρ, hs, hr, h⟩ => h ρ H σ Le.refl hr hs
theorem pss_consm {st : Stmt} {rest : List Stmt} {a b : MS} (h1 : PSm G X st a) (h2 : PSsm G X rest b) : PSsm G X (st :: rest) (sSeq a b) := fun W ok => PSs_imp (pss_cons (h1 W ok) (h2 W ok)) fun E σ H ⟨sd, S, ρ, hs, hr, h⟩ => by
  exact ⟨sd, S, ρ, hs, hr, AftS.andThen h⟩
theorem pss_onem {st : Stmt} {a : MS} (h1 : PSm G X st a) : PSsm G X [st] a := fun W ok => pss_one (h1 W ok)
theorem ps_passm {pos : Pos} : PSm G X (.Pass pos) sSkip := fun W ok => PS_imp ps_pass fun E σ H ⟨sd, S, ρ, hs, hr, h⟩ => h ρ H σ Le.refl hr hs
theorem ps_breakm {pos : Pos} : PSm G X (.Break pos) sBreak := fun W ok => PS_imp ps_break fun E σ H ⟨sd, S, ρ, hs, hr, h⟩ => h ρ H σ Le.refl hr hs
theorem ps_contm {pos : Pos} : PSm G X (.Continue pos) sCont := fun W ok => PS_imp ps_continue fun E σ H ⟨sd, S, ρ, hs, hr, h⟩ => h ρ H σ Le.refl hr hs
theorem ps_exprm {e : Expr} {m : ME} {pos : Pos} (he : PEm G X e m) (hs : swapsWith e none pos.line X.env = pure false := by rfl) : PSm G X (.Expr e pos) (sExpr m) := fun W ok => PS_imp (ps_expr (he W ok) hs) fun E σ H ⟨sd, S, ρ, hs, hr, h⟩ =>
  ⟨sd, S, ρ, hs, hr, AftS.bind h hs fun ρ1 H1 v d S1 le r1 rd h1 => h1 ρ1 H1 σ Le.refl r1 (hs.mono le)⟩
theorem ps_retm {e : Expr} {m : ME} {pos : Pos} (he : PEm G X e m) : PSm G X (.Return (some e) pos) (sRet m) := fun W ok => PS_imp (ps_ret (he W ok)) fun E σ H ⟨sd, S, ρ, hs, hr, h⟩ =>
  ⟨sd, S, ρ, hs, hr, AftS.bind h hs fun ρ1 H1 v d S1 le r1 rd h1 => h1 ρ1 H1 v Le.refl r1 rd⟩
theorem ps_retNm {pos : Pos} : PSm G X (.Return none pos) sRetN := fun W ok => PS_imp ps_retN fun E σ H ⟨sd, S, ρ, hs, hr, h⟩ => h ρ H .non Le.refl hr (by simp only [RelD])
theorem ps_ifm {c : Expr} {a b : List Stmt} {t : MT} {m n : MS} {pos : Pos} (hc : PTm G X c t) (ha : PSsm G X a m) (hb : PSsm G X b n) : PSm G X (.If c a b pos) (sIf t m n) := fun W ok => PS_imp (ps_if (hc W ok) (ha W ok) (hb W ok)) fun E σ H ⟨sd, S, ρ, hs, hr, h⟩ =>
  ⟨sd, S, ρ, hs, hr, AftS.bind h hs fun ρ1 H1 v d S1 le r1 rd h1 => by
    have e : d = v := rd
    subst e
    cases d with
    | true => exact ⟨sd, S1, ρ1, hs.mono le, r1, h1⟩
    | false => exact ⟨sd, S1, ρ1, hs.mono le, r1, h1⟩⟩
theorem ps_setm {i : Nat} {x : Str} {e : Expr} {m : ME} {pos pos' : Pos} (hN : X.N.Nodup) (he : PEm G X e m) (hi : X.N[i]? = some x := by rfl) (hx : Loc X.env.scope x := by first | exact Or.inl rfl | exact Or.inr rfl)
    (hs : swapsWith e (some (.Name x pos')) pos.line X.env = pure false := by rfl) (hf : X.fn x = true ∨ X.env.scope.names.lookup x = some .local := by first | exact .inl rfl | exact .inr rfl | assumption) :
    PSm G X (.Assign [.Name x pos'] e pos) (sSet i m) := fun W ok => PS_imp (ps_set hN hi hx (he W ok) hs hf) fun E σ H ⟨sd, S, ρ, hs, hr, h⟩ =>
  ⟨sd, S, ρ, hs, hr, AftS.bind h hs fun ρ1 H1 v d S1 le r1 rd h1 => h1 ρ1 H1 _ Le.refl r1 ((hs.mono le).set rd i)⟩

/-! ### targets -/
inductive Tg where
  | nm (i : Nat)
  | tp (l : List Tg)
mutual
def asg : Tg → D → SD → Option SD
  | .nm i, d, sd => some (sd.set i (some d))
  | .tp l, d, sd => match d with
    | .tup ds => asgs l ds sd
    | _ => none
def asgs : List Tg → List D → SD → Option SD
  | [], ds, sd => match ds with
    | [] => some sd
    | _ :: _ => none
  | t :: r, ds, sd => match ds with
    | [] => none
    | d :: q => match asg t d sd with
      | some sd1 => asgs r q sd1
      | none => none
end
mutual
def Tg.slots : Tg → List Nat
  | .nm i => [i]
  | .tp l => Tg.slotss l
def Tg.slotss : List Tg → List Nat
  | [] => []
  | t :: r => t.slots ++ Tg.slotss r
end
mutual
def gOf (K : PySem.W.Frag) : Tg → TG
  | .nm i => gName i
  | .tp l => gTup K l.length (gsOf K l)
def gsOf (K : PySem.W.Frag) : List Tg → TGs
  | [] => gNil
  | t :: r => gCons (gOf K t) (gsOf K r)
end
/-- what a target leaves of the slots -/
def Kept (l : List Nat) (σ σ' : L2.St) : Prop := σ'.length = σ.length ∧ ∀ j : Nat, j ∉ l → σ'[j]? = σ[j]?
theorem asgs_len : ∀ {l : List Tg} {ds : List D} {sd sd' : SD}, asgs l ds sd = some sd' → l.length = ds.length
  | [], [], _, _, _ => rfl
  | [], _ :: _, sd, _, h => by simp only [asgs] at h; cases h
  | t :: r, [], sd, _, h => by simp only [asgs] at h; cases h
  | t :: r, d :: q, sd, sd', h => by
    simp only [asgs] at h
    split at h
    · simp only [List.length_cons, asgs_len h]
    · cases h
mutual
theorem gOf_ok {ρ : Rho} {H : Hp} (kk : G.K = X.K) : ∀ {t : Tg} {d : D} {v : V} {sd sd' : SD} {σ : L2.St} {Q : L2.St → Hp → Prop}, RelD G ρ H d v → RelSt G ρ H sd σ → asg t d sd = some sd' →
    (∀ σ', RelSt G ρ H sd' σ' → Kept t.slots σ σ' → Q σ' H) → gOf X.K t v σ H Q
  | .nm i, d, v, sd, sd', σ, Q, rd, hs, e, h => by
    simp only [asg, Option.some.injEq] at e
    subst e
    show gName i v σ H Q
    refine h _ (hs.set rd i) ⟨by simp, fun j hj => ?_⟩
    simp only [Tg.slots, List.mem_singleton] at hj
    exact List.getElem?_set_ne (Ne.symm hj)
  | .tp l, d, v, sd, sd', σ, Q, rd, hs, e, h => by
    simp only [asg] at e
    split at e
    · rename_i ds
      simp only [RelD] at rd
      obtain ⟨a, xs, rfl, hq, ht⟩ := rd
      show gTup X.K l.length (gsOf X.K l) (.ref a) σ H Q
      refine ⟨a, xs, rfl, by rw [← kk]; exact hq, by rw [← ht.length, asgs_len e], gsOf_ok kk ht hs e fun σ' a b => h σ' a ?_⟩
      simpa only [Tg.slots] using b
    · cases e
theorem gsOf_ok {ρ : Rho} {H : Hp} (kk : G.K = X.K) : ∀ {l : List Tg} {ds : List D} {xs : List V} {sd sd' : SD} {σ : L2.St} {Q : L2.St → Hp → Prop}, RelDs G ρ H ds xs → RelSt G ρ H sd σ → asgs l ds sd = some sd' →
    (∀ σ', RelSt G ρ H sd' σ' → Kept (Tg.slotss l) σ σ' → Q σ' H) → gsOf X.K l xs σ H Q
  | [], [], xs, sd, sd', σ, Q, rd, hs, e, h => by
    simp only [asgs, Option.some.injEq] at e
    subst e
    simp only [RelDs] at rd
    subst rd
    exact ⟨rfl, h σ hs ⟨rfl, fun _ _ => rfl⟩⟩
  | [], _ :: _, xs, sd, sd', σ, Q, rd, hs, e, h => by simp only [asgs] at e; cases e
  | t :: r, [], xs, sd, sd', σ, Q, rd, hs, e, h => by simp only [asgs] at e; cases e
  | t :: r, d :: q, xs, sd, sd', σ, Q, rd, hs, e, h => by
    simp only [RelDs] at rd
    obtain ⟨v, ys, rfl, r1, r2⟩ := rd
    simp only [asgs] at e
    split at e
    · rename_i sd1 e1
      refine ⟨v, ys, rfl, gOf_ok kk r1 hs e1 fun σ1 s1 k1 => gsOf_ok kk r2 s1 e fun σ2 s2 k2 => h σ2 s2 ⟨k2.1.trans k1.1, fun j hj => ?_⟩⟩
      simp only [Tg.slotss, List.mem_append, not_or] at hj
      exact (k2.2 j hj.2).trans (k1.2 j hj.1)
    · cases e
end
def sAsg (t : Tg) (m : ME) : MS := fun sd S => bindS (m sd S) sd fun d S1 => match asg t d sd with
  | some sd1 => .nx sd1 S1
  | none => .stuck
theorem ps_asgm {tg e : Expr} {t : Tg} {m : ME} {pos : Pos} (he : PEm G X e m) (hg : PG X tg (gOf X.K t)) (hs : swapsWithSole [tg] e pos.line X.env = pure false := by rfl) (hw : swappedStores [tg] e X.env = pure none := by rfl)
    (h1 : (assignEach [tg] X.env).map (·.2) = [assign tg X.env] := by rfl) : PSm G X (.Assign [tg] e pos) (sAsg t m) := fun W ok => PS_imp (ps_asg (he W ok) hg hs hw h1) fun E σ H ⟨sd, S, ρ, hs, hr, h⟩ =>
  ⟨sd, S, ρ, hs, hr, AftS.bind h hs fun ρ1 H1 v d S1 le r1 rd h1 => by
    split at h1
    · rename_i sd1 e1
      exact gOf_ok ok.kk rd (hs.mono le) e1 fun σ' s' _ => h1 ρ1 H1 σ' Le.refl r1 s'
    · exact h1.elim⟩
/-- a, b = x, y (two local names) -/
def sPar (i j : Nat) (m : MA) : MS := fun sd S => bindS (m sd S) sd fun l S1 => match l with
  | [d, e] => .nx ((sd.set i (some d)).set j (some e)) S1
  | _ => .stuck
theorem ps_parm {i j : Nat} {tp t2 : Expr} {es : List Expr} {m : MA} {pos : Pos} (h : ∀ t : TA, PA X es t → PS X (.Assign [tp] t2 pos) (tPar i j t)) (ha : PAm G X es m) : PSm G X (.Assign [tp] t2 pos) (sPar i j m) := fun W ok => PS_imp (h _ (ha W ok)) fun E σ H ⟨sd, S, ρ, hs, hr, h⟩ =>
  ⟨sd, S, ρ, hs, hr, AftS.bind h hs fun ρ1 H1 v d S1 le r1 rd h1 => by
    match d, rd, h1 with
    | [], rd, h1 => exact h1.elim
    | [_], rd, h1 => exact h1.elim
    | [d, e], rd, h1 =>
      simp only [RelDs] at rd
      obtain ⟨v1, _, rfl, r2, v2, _, rfl, r3, rfl⟩ := rd
      exact ⟨v1, v2, rfl, h1 ρ1 H1 _ Le.refl r1 (((hs.mono le).set r2 i).set r3 j)⟩
    | _ :: _ :: _ :: _, rd, h1 => exact h1.elim⟩

/-! ### while -/
def whileLoop (t : MT) (b : MS) : Nat → MS
  | 0 => fun _ _ => .stuck
  | n + 1 => fun sd S => bindS (t sd S) sd fun k S1 => if k then (b sd S1).turn (whileLoop t b n) else .nx sd S1
theorem ps_whilem {c : Expr} {body : List Stmt} {t : MT} {b : MS} {pos : Pos} (n : Nat) (hc : PTm G X c t) (hb : PSsm G X body b) : PSm G X (.While c body [] pos) (whileLoop t b n) := fun W ok => PS_imp (ps_while ok.own (hc W ok) (hb W ok)) fun E σ H ⟨sd, S, ρ, hs, hr, h⟩ => by
  refine ⟨fun m σ H => ∃ sd S ρ, RelSt G ρ H sd σ ∧ Rep G ρ S H ∧ AftS G ρ H (whileLoop t b m sd S) E W, ⟨n, sd, S, ρ, hs, hr, h⟩, fun m σ H ⟨sd, S, ρ, hs, hr, h⟩ => ?_⟩
  cases m with
  | zero => exact h.elim
  | succ m =>
    refine ⟨sd, S, ρ, hs, hr, AftS.bind h hs fun ρ1 H1 v d S1 le r1 rd h1 => ?_⟩
    have e : d = v := rd
    subst e
    cases d with
    | false => exact h1 ρ1 H1 σ Le.refl r1 (hs.mono le)
    | true =>
      refine ⟨fun σ H => ∃ sd S ρ, RelSt G ρ H sd σ ∧ Rep G ρ S H ∧ AftS G ρ H (whileLoop t b m sd S) E W, fun σ' H' q => ⟨m, Nat.lt_succ_self m, q⟩, sd, S1, ρ1, hs.mono le, r1, ?_⟩
      exact AftS.turn h1 fun σ' H' sd S ρ' le rs rp h => ⟨sd, S, ρ', rs, rp, h⟩

/-! ### what is walked -/
inductive ItD where
  | lst (n : Nat)
  | tup (l : List D)
  | rng (lo c : Int) (n : Nat)
  | str (l : List Nat)
  | scr (l : List Int)
  | enl (n : Nat)
  | ent (l : List D)
  | dk (n : Nat)
  | dv (n : Nat)
  | di (n : Nat)
  | zip (a b : ItD)
def itNext : ItD → Nat → Sto → Option (Option D)
  | .lst n, i, S => match S.get n with
    | some (.lst l) => some l[i]?
    | _ => none
  | .tup l, i, _ => some l[i]?
  | .rng lo c n, i, _ => some (if i < n then some (.int (lo + i * c)) else none)
  | .str l, i, _ => some (l[i]?.map fun c => .str [c])
  | .scr l, i, _ => some (l[i]?.map D.int)
  | .enl n, i, S => match S.get n with
    | some (.lst l) => some (l[i]?.map fun d => .tup [.int i, d])
    | _ => none
  | .ent l, i, _ => some (l[i]?.map fun d => .tup [.int i, d])
  | .dk n, i, S => match S.get n with
    | some (.dct _ l) => some (l[i]?.map fun p => p.1)
    | _ => none
  | .dv n, i, S => match S.get n with
    | some (.dct _ l) => some (l[i]?.map fun p => p.2)
    | _ => none
  | .di n, i, S => match S.get n with
    | some (.dct _ l) => some (l[i]?.map fun p => .tup [p.1, p.2])
    | _ => none
  | .zip a b, i, S => match itNext a i S, itNext b i S with
    | some (some x), some (some y) => some (some (.tup [x, y]))
    | some none, some _ => some none
    | some (some _), some none => some none
    | _, _ => none
def itLen : ItD → Sto → Nat
  | .lst n, S => match S.get n with
    | some (.lst l) => l.length
    | _ => 0
  | .tup l, _ => l.length
  | .rng _ _ n, _ => n
  | .str l, _ => l.length
  | .scr l, _ => l.length
  | .enl n, S => match S.get n with
    | some (.lst l) => l.length
    | _ => 0
  | .ent l, _ => l.length
  | .dk n, S => match S.get n with
    | some (.dct _ l) => l.length
    | _ => 0
  | .dv n, S => match S.get n with
    | some (.dct _ l) => l.length
    | _ => 0
  | .di n, S => match S.get n with
    | some (.dct _ l) => l.length
    | _ => 0
  | .zip a b, S => min (itLen a S) (itLen b S)
def ItOk (G : Glo) (ρ : Rho) (H : Hp) (it : ItD) (J : It) : Prop := ∀ (i : Nat) ρ' H' S, Le G ρ H ρ' H' → Rep G ρ' S H' → match itNext it i S with
  | some (some d) => J.go i H' ∧ ∀ x H2, J.yld i H' x H2 → Le G ρ' H' ρ' H2 ∧ Rep G ρ' S H2 ∧ RelD G ρ' H2 d x
  | some none => J.stop i H'
  | none => True
abbrev MI := SD → Sto → Res ItD
def ti (G : Glo) (m : MI) (W : WX) : TI := fun σ H R => ∃ sd S ρ, RelSt G ρ H sd σ ∧ Rep G ρ S H ∧ Aft G (ItOk G) ρ H (m sd S) R (fun c d H' => W c d σ H')
def PIm (G : Glo) (X : Cx) (tg iter : Expr) (m : MI) : Prop := ∀ W, XOk G X W → PI X tg iter (ti G m W)
theorem PI_imp {X : Cx} {tg e : Expr} {t t' : TI} (h : PI X tg e t) (f : ∀ σ H Q, t' σ H Q → t σ H Q) : PI X tg e t' := ⟨fun pins s σ H Q I q => h.run pins s σ H Q I (f σ H Q q)⟩
def forLoop (it : ItD) (t : Tg) (b : MS) : Nat → Nat → MS
  | 0, _ => fun _ _ => .stuck
  | n + 1, i => fun sd S => match itNext it i S with
    | none => .stuck
    | some none => .nx sd S
    | some (some d) => match asg t d sd with
      | none => .stuck
      | some sd1 => (b sd1 S).turn (forLoop it t b n (i + 1))
def sFor (m : MI) (t : Tg) (b : MS) : MS := fun sd S => bindS (m sd S) sd fun it S1 => forLoop it t b (itLen it S1 + 1) 0 sd S1
theorem ps_form {iter tg : Expr} {body : List Stmt} {m : MI} {t : Tg} {b : MS} {pos : Pos} (hc : X.calm = true) (hi : PIm G X tg iter m) (hg : PG X tg (gOf X.K t)) (hb : PSsm G X body b)
    (hs : ∀ x, foldedSetIterable iter X.env x = pure x := by intro _; rfl) : PSm G X (.For tg iter body [] pos) (sFor m t b) := fun W ok => PS_imp (ps_for ok.own hc (hi W ok) hg (hb W ok) hs) fun E σ H ⟨sd, S, ρ, hs, hr, h⟩ => by
  refine ⟨sd, S, ρ, hs, hr, AftS.bind h hs fun ρ1 H1 J it S1 le r1 ij h1 => ?_⟩
  refine ⟨fun i m σ H => ∃ sd S ρ, Le G ρ1 H1 ρ H ∧ RelSt G ρ H sd σ ∧ Rep G ρ S H ∧ AftS G ρ H (forLoop it t b m i sd S) E W, ⟨_, sd, S1, ρ1, Le.refl, hs.mono le, r1, h1⟩, fun i m σ H ⟨sd, S, ρ, lh, hs, hr, h⟩ => ?_⟩
  cases m with
  | zero => exact h.elim
  | succ m =>
    have ij2 := ij i ρ H S lh hr
    simp only [forLoop] at h
    split at h
    · exact h.elim
    · rename_i en
      rw [en] at ij2
      exact .inl ⟨ij2, h ρ H σ Le.refl hr hs⟩
    · rename_i d en
      rw [en] at ij2
      obtain ⟨hgo, hy⟩ := ij2
      refine .inr ⟨hgo, fun σ H => ∃ sd S ρ, Le G ρ1 H1 ρ H ∧ RelSt G ρ H sd σ ∧ Rep G ρ S H ∧ AftS G ρ H (forLoop it t b m (i + 1) sd S) E W, fun σ' H' q => ⟨m, Nat.lt_succ_self m, q⟩, fun x H2 hx => ?_⟩
      obtain ⟨l2, r2, rd⟩ := hy x H2 hx
      split at h
      · exact h.elim
      · rename_i sd1 e1
        refine gOf_ok ok.kk rd (hs.mono l2) e1 fun σ' s' _ => ⟨sd1, S, ρ, s', r2, ?_⟩
        exact AftS.turn (AftS.le h l2) fun σ2 H3 sd2 S2 ρ3 l3 rs rp h3 => ⟨sd2, S2, ρ3, (lh.trans l2).trans l3, rs, rp, h3⟩
end
end Y

/-! Y4: what is walked; comprehensions. -/
namespace Y
open PySem PySem.Spec PyProof.Rows L2
section
variable {G : Glo} {X : Cx} {ρ : Rho} {H : Hp}
theorem keyD_rel {d : D} {k : Key} (h : keyD d = some k) : RelD G ρ H d (kV k) := by
  cases d with
  | int i => cases h; simp only [RelD, kV]
  | str x => cases h; simp only [RelD, kV]
  | _ => cases h
theorem keysD_rel : ∀ {l : List D} {ks : List Key}, keysD l = some ks → RelDs G ρ H l (ks.map kV)
  | [], ks, h => by
    cases h
    exact .nil
  | d :: r, ks, h => by
    simp only [keysD] at h
    split at h
    · rename_i k ks' e1 e2
      cases h
      exact .cons (keyD_rel e1) (keysD_rel e2)
    · cases h
theorem PairK.get {κ : Type} {kf : D → Option κ} : ∀ {l : List (D × D)} {ys : List (κ × V)}, PairK kf G ρ H l ys → l.length = ys.length ∧ ∀ (i : Nat) p, l[i]? = some p → ∃ k v, ys[i]? = some (k, v) ∧ kf p.1 = some k ∧ RelD G ρ H p.2 v
  | [], _, h => by
    cases h
    exact ⟨rfl, fun i p e => by simp at e⟩
  | q :: r, ys, h => by
    obtain ⟨k, v, zs, rfl, h1, h2, h3⟩ := h
    obtain ⟨e, g⟩ := h3.get
    refine ⟨by simp [e], fun i p ei => ?_⟩
    cases i with
    | zero =>
      simp only [List.getElem?_cons_zero, Option.some.injEq] at ei ⊢
      subst ei
      exact ⟨k, v, rfl, h1, h2⟩
    | succ i =>
      simp only [List.getElem?_cons_succ] at ei ⊢
      exact g i p ei

theorem it_lst {n : Nat} {a : Addr} (kk : G.K = X.K) (hn : ρ n = some a) : ItOk G ρ H (.lst n) (Itl X.K a) := fun i ρ' H' S le rp => by
  simp only [itNext]
  split
  · rename_i d en
    split at en
    · rename_i l el
      simp only [Option.some.injEq] at en
      obtain ⟨b, xs, eb, e1, hH, ht⟩ := rp.list el (RelD.loc' (G := G) (H := H') (le.rho _ _ hn))
      cases eb
      obtain ⟨v, ev, rd⟩ := ht.get en
      refine ⟨⟨xs, v, .inl (.inl hH), ev⟩, fun x H2 hx => ?_⟩
      obtain ⟨rfl, hx⟩ := hx
      have e2 := hx xs (.inl (.inl hH))
      rw [ev] at e2
      cases e2
      exact ⟨Le.refl, rp, rd⟩
    · cases en
  · rename_i en
    split at en
    · rename_i l el
      simp only [Option.some.injEq] at en
      obtain ⟨b, xs, eb, e1, hH, ht⟩ := rp.list el (RelD.loc' (G := G) (H := H') (le.rho _ _ hn))
      cases eb
      exact ⟨xs, .inl (.inl hH), by rw [← ht.length]; exact List.getElem?_eq_none_iff.mp en⟩
    · cases en
  · trivial
theorem it_tup {l : List D} {a : Addr} {xs : List V} (kk : G.K = X.K) (hq : SqT G.K H a xs) (ht : RelDs G ρ H l xs) : ItOk G ρ H (.tup l) (Itt X.K a) := fun i ρ' H' S le rp => by
  have hq' := le.tup _ _ hq
  have ht' := ht.mono le
  simp only [itNext]
  split
  · rename_i d en
    simp only [Option.some.injEq] at en
    obtain ⟨v, ev, rd⟩ := ht'.get en
    refine ⟨⟨xs, v, by rw [← kk]; exact hq', ev⟩, fun x H2 hx => ?_⟩
    obtain ⟨rfl, hx⟩ := hx
    have e2 := hx xs (by rw [← kk]; exact hq')
    rw [ev] at e2
    cases e2
    exact ⟨Le.refl, rp, rd⟩
  · rename_i en
    simp only [Option.some.injEq] at en
    exact ⟨xs, by rw [← kk]; exact hq', by rw [← ht'.length]; exact List.getElem?_eq_none_iff.mp en⟩
  · trivial
theorem it_scr {l : List Int} {a : Addr} (kk : G.K = X.K) (hq : ScrAt G.K H a l) : ItOk G ρ H (.scr l) (Itl X.K a) := fun i ρ' H' S le rp => by
  have hq' := (le.scr _ _ hq).seq
  rw [kk] at hq'
  simp only [itNext]
  cases e : l[i]? with
  | none =>
    simp only [Option.map_none]
    exact ⟨_, hq', by rw [List.length_map]; exact List.getElem?_eq_none_iff.mp e⟩
  | some n =>
    simp only [Option.map_some]
    have ev : (l.map V.int)[i]? = some (.int n) := by rw [List.getElem?_map, e]; rfl
    refine ⟨⟨_, .int n, hq', ev⟩, fun x H2 hx => ?_⟩
    obtain ⟨rfl, hx⟩ := hx
    have e2 := hx _ hq'
    rw [ev] at e2
    cases e2
    exact ⟨Le.refl, rp, by simp only [RelD]⟩
theorem it_rng {lo : Int} {n : Nat} : ItOk G ρ H (.rng lo 1 n) (Itr lo n) := fun i ρ' H' S le rp => by
  simp only [itNext]
  split
  · rename_i d en
    split at en
    · rename_i hi
      simp only [Option.some.injEq] at en
      subst en
      refine ⟨hi, fun x H2 hx => ?_⟩
      obtain ⟨rfl, rfl⟩ := hx
      exact ⟨Le.refl, rp, by simp only [RelD, Int.mul_one]⟩
    · cases en
  · rename_i en
    split at en
    · cases en
    · rename_i hi
      exact Nat.le_of_not_lt hi
  · trivial
theorem it_rngc {lo c : Int} {n : Nat} : ItOk G ρ H (.rng lo c n) (Itc lo c n) := fun i ρ' H' S le rp => by
  simp only [itNext]
  split
  · rename_i d en
    split at en
    · rename_i hi
      simp only [Option.some.injEq] at en
      subst en
      refine ⟨hi, fun x H2 hx => ?_⟩
      obtain ⟨rfl, rfl⟩ := hx
      exact ⟨Le.refl, rp, by simp only [RelD]⟩
    · cases en
  · rename_i en
    split at en
    · cases en
    · rename_i hi
      exact Nat.le_of_not_lt hi
  · trivial
theorem it_str {l : List Nat} : ItOk G ρ H (.str l) (Its ⟨l.toArray⟩) := fun i ρ' H' S le rp => by
  simp only [itNext]
  cases e : l[i]? with
  | none =>
    simp only [Option.map_none]
    show l.toArray.size ≤ i
    simp only [List.size_toArray]
    exact List.getElem?_eq_none_iff.mp e
  | some n =>
    simp only [Option.map_some]
    refine ⟨?_, fun x H2 hx => ?_⟩
    · show i < l.toArray.size
      simp only [List.size_toArray]
      exact (List.getElem?_eq_some_iff.mp e).1
    · obtain ⟨rfl, c, ec, rfl⟩ := hx
      have ec : l.toArray[i]? = some c := ec
      rw [List.getElem?_toArray, e] at ec
      cases ec
      exact ⟨Le.refl, rp, by simp only [RelD]⟩
theorem it_enl {n : Nat} {a : Addr} (kk : G.K = X.K) (hn : ρ n = some a) : ItOk G ρ H (.enl n) (Ite X.K a) := fun i ρ' H' S le rp => by
  simp only [itNext]
  cases el : S.get n with
  | none => trivial
  | some c =>
    cases c with
    | lst l =>
      obtain ⟨b, xs, eb, e1, hH, ht⟩ := rp.list el (RelD.loc' (G := G) (H := H') (le.rho _ _ hn))
      cases eb
      simp only
      cases e : l[i]? with
      | none =>
        simp only [Option.map_none]
        exact ⟨xs, .inl (.inl hH), by rw [← ht.length]; exact List.getElem?_eq_none_iff.mp e⟩
      | some d =>
        simp only [Option.map_some]
        obtain ⟨v, ev, rd⟩ := ht.get e
        refine ⟨⟨xs, v, .inl (.inl hH), ev⟩, fun x H2 hx => ?_⟩
        obtain ⟨T, y, rfl, nT, rfl, hy⟩ := hx
        have e2 := hy xs (.inl (.inl hH))
        rw [ev] at e2
        cases e2
        have sm := same_new (o := .tup [.int (i : Nat), v]) nT
        exact ⟨Le.same sm, rp.same sm, RelD.tup' (.inl (.inl upd_same)) (.cons (by simp only [RelD]) (.one (rd.mono (Le.same sm))))⟩
    | _ => trivial
/-- a locked dict's own pairs -/
theorem dct_at {ρ' : Rho} {H' : Hp} {S : Sto} {n : Nat} {d : Addr} {o : Obj} {kvs : List (Key × V)} {lk : Nat} {l : List (D × D)} (rp : Rep G ρ' S H') (el : S.get n = some (.dct lk l)) (hn : ρ' n = some d) (hd : H' d = some (.frz o (.dK kvs))) : PairK keyD G ρ' H' l kvs := by
  obtain ⟨b, e1, q⟩ := rp.cell n _ el
  rw [hn] at e1
  cases e1
  rcases q with ⟨kvs', h, p⟩ | ⟨hne, kvs', h, p⟩
  · cases lk with
    | zero =>
      have h : H' d = _ := h
      rw [hd] at h
      cases h
    | succ k =>
      obtain ⟨o', h⟩ := h
      rw [hd] at h
      cases h
      exact p
  · cases lk with
    | zero =>
      have h : H' d = _ := h
      rw [hd] at h
      cases h
    | succ k =>
      obtain ⟨o', h⟩ := h
      rw [hd] at h
      cases h
theorem dct_atT {ρ' : Rho} {H' : Hp} {S : Sto} {n : Nat} {d : Addr} {o : Obj} {kvs : List (List Key × V)} {lk : Nat} {l : List (D × D)} (rp : Rep G ρ' S H') (el : S.get n = some (.dct lk l)) (hn : ρ' n = some d) (hd : H' d = some (.frz o (.dT kvs))) : PairK keyT G ρ' H' l kvs := by
  obtain ⟨b, e1, q⟩ := rp.cell n _ el
  rw [hn] at e1
  cases e1
  rcases q with ⟨kvs', h, p⟩ | ⟨hne, kvs', h, p⟩
  · cases lk with
    | zero =>
      have h : H' d = _ := h
      rw [hd] at h
      cases h
    | succ k =>
      obtain ⟨o', h⟩ := h
      rw [hd] at h
      cases h
  · cases lk with
    | zero =>
      have h : H' d = _ := h
      rw [hd] at h
      cases h
    | succ k =>
      obtain ⟨o', h⟩ := h
      rw [hd] at h
      cases h
      exact p
theorem it_dk {n : Nat} {d : Addr} {o : Obj} {kvs : List (Key × V)} (hn : ρ n = some d) (hd : H d = some (.frz o (.dK kvs))) : ItOk G ρ H (.dk n) (Itk d o kvs) := fun i ρ' H' S le rp => by
  have hd' := le.fz _ _ _ hd
  simp only [itNext]
  cases el : S.get n with
  | none => trivial
  | some c =>
    cases c with
    | dct lk l =>
      have p := dct_at rp el (le.rho _ _ hn) hd'
      obtain ⟨el2, g⟩ := p.get
      simp only
      cases e : l[i]? with
      | none =>
        simp only [Option.map_none]
        exact ⟨hd', by rw [← el2]; exact List.getElem?_eq_none_iff.mp e⟩
      | some q =>
        simp only [Option.map_some]
        obtain ⟨k, v, ek, e1, e2⟩ := g i q e
        refine ⟨⟨hd', (List.getElem?_eq_some_iff.mp ek).1⟩, fun x H2 hx => ?_⟩
        obtain ⟨rfl, k', v', ek', rfl⟩ := hx
        rw [ek] at ek'
        cases ek'
        exact ⟨Le.refl, rp, keyD_rel e1⟩
    | _ => trivial
theorem it_dkT {n : Nat} {d : Addr} {o : Obj} {kvs : List (List Key × V)} (hn : ρ n = some d) (hd : H d = some (.frz o (.dT kvs))) : ItOk G ρ H (.dk n) (Itkt d o kvs) := fun i ρ' H' S le rp => by
  have hd' := le.fz _ _ _ hd
  simp only [itNext]
  cases el : S.get n with
  | none => trivial
  | some c =>
    cases c with
    | dct lk l =>
      have p := dct_atT rp el (le.rho _ _ hn) hd'
      obtain ⟨el2, g⟩ := p.get
      simp only
      cases e : l[i]? with
      | none =>
        simp only [Option.map_none]
        exact ⟨hd', by rw [← el2]; exact List.getElem?_eq_none_iff.mp e⟩
      | some q =>
        simp only [Option.map_some]
        obtain ⟨k, v, ek, e1, e2⟩ := g i q e
        refine ⟨⟨hd', (List.getElem?_eq_some_iff.mp ek).1⟩, fun x H2 hx => ?_⟩
        obtain ⟨rfl, k', v', qa, ek', rfl, hq⟩ := hx
        rw [ek] at ek'
        cases ek'
        refine ⟨Le.refl, rp, ?_⟩
        cases hq1 : q.1 with
        | tup ds =>
          rw [hq1] at e1
          exact RelD.tup' (.inl (.inl hq)) (keysD_rel e1)
        | _ =>
          rw [hq1] at e1
          cases e1
    | _ => trivial
theorem it_dv {n : Nat} {d : Addr} {o : Obj} {kvs : List (Key × V)} (hn : ρ n = some d) (hd : H d = some (.frz o (.dK kvs))) : ItOk G ρ H (.dv n) (Itd d o kvs) := fun i ρ' H' S le rp => by
  have hd' := le.fz _ _ _ hd
  simp only [itNext]
  cases el : S.get n with
  | none => trivial
  | some c =>
    cases c with
    | dct lk l =>
      have p := dct_at rp el (le.rho _ _ hn) hd'
      obtain ⟨el2, g⟩ := p.get
      simp only
      cases e : l[i]? with
      | none =>
        simp only [Option.map_none]
        exact ⟨hd', by rw [← el2]; exact List.getElem?_eq_none_iff.mp e⟩
      | some q =>
        simp only [Option.map_some]
        obtain ⟨k, v, ek, e1, e2⟩ := g i q e
        refine ⟨⟨hd', (List.getElem?_eq_some_iff.mp ek).1⟩, fun x H2 hx => ?_⟩
        obtain ⟨rfl, k', ek'⟩ := hx
        rw [ek] at ek'
        cases ek'
        exact ⟨Le.refl, rp, e2⟩
    | _ => trivial
theorem it_di {n : Nat} {d : Addr} {o : Obj} {kvs : List (Key × V)} (hn : ρ n = some d) (hd : H d = some (.frz o (.dK kvs))) : ItOk G ρ H (.di n) (Iti d o kvs) := fun i ρ' H' S le rp => by
  have hd' := le.fz _ _ _ hd
  simp only [itNext]
  cases el : S.get n with
  | none => trivial
  | some c =>
    cases c with
    | dct lk l =>
      have p := dct_at rp el (le.rho _ _ hn) hd'
      obtain ⟨el2, g⟩ := p.get
      simp only
      cases e : l[i]? with
      | none =>
        simp only [Option.map_none]
        exact ⟨hd', by rw [← el2]; exact List.getElem?_eq_none_iff.mp e⟩
      | some q =>
        simp only [Option.map_some]
        obtain ⟨k, v, ek, e1, e2⟩ := g i q e
        refine ⟨⟨hd', (List.getElem?_eq_some_iff.mp ek).1⟩, fun x H2 hx => ?_⟩
        obtain ⟨T, k', v', ek', rfl, nT, rfl⟩ := hx
        rw [ek] at ek'
        cases ek'
        have sm := same_new (o := .tup [kV k, v]) nT
        exact ⟨Le.same sm, rp.same sm, RelD.tup' (.inl (.inl upd_same)) (.cons (keyD_rel e1) (.one (e2.mono (Le.same sm))))⟩
    | _ => trivial

/-! ### walks -/
def itOf : D → Sto → Res ItD
  | .tup l, S => .ok (.tup l) S
  | .str l, S => .ok (.str l) S
  | .scr l, S => .ok (.scr l) S
  | .loc n, S => match S.get n with
    | some (.lst _) => .ok (.lst n) S
    | some (.dct (_ + 1) _) => .ok (.dk n) S
    | _ => .stuck
  | _, _ => .stuck
def mIt (m : ME) : MI := fun sd S => (m sd S).bind itOf
theorem pi_anym {tg e : Expr} {m : ME} (he : PEm G X e m) : PIm G X tg e (mIt m) := fun W ok => by
  refine ⟨fun pins s σ H R I h => ?_⟩
  obtain ⟨sd, S, ρ, hs, hr, h⟩ := h
  have t : te G m W σ H (fun x H1 => ∃ ρ S d, Rep G ρ S H1 ∧ RelD G ρ H1 d x ∧ Aft G (ItOk G) ρ H1 (itOf d S) R (fun c a H' => W c a σ H')) := ⟨sd, S, ρ, hs, hr, Aft.bind h fun ρ1 H1 x d S1 le1 r1 rd h1 => ⟨ρ1, S1, d, r1, rd, h1⟩⟩
  refine thn ((he W ok).run pins s σ H _ I t) fun v s1 ⟨x, H1, I1, r1, q1⟩ => ?_
  obtain ⟨ρ1, S1, d, rp, rd, q⟩ := q1
  cases d with
  | tup l =>
    simp only [RelD] at rd
    obtain ⟨a, xs, rfl, hq, ht⟩ := rd
    cases r1
    obtain ⟨its, rv, p, hz⟩ := I1.tuple (show SqT X.K H1 a xs by rw [← ok.kk]; exact hq)
    refine wpAny_pyIter_tuple (show s1.heap.IsTuple a its.toArray from p) ?_
    refine ⟨s1.heap.objs.size, [s1.heap.objs.size], _, _, H1, rfl, I1.kept (t' := s1.toks) fun b o e => Heap.get?_push_of_some _ e, turn_tuple a _, ⟨_, Heap.get?_push_size _ rfl, rfl, rfl⟩, fun b hb => ?_, q.ok rp (it_tup ok.kk hq ht)⟩
    have e : b = s1.heap.objs.size := by simpa using hb
    subst e
    exact I1.fpOk (Nat.le_refl _) (I1.hok.fresh (Nat.le_refl _))
  | str l =>
    simp only [RelD] at rd
    subst rd
    obtain ⟨t, rfl⟩ := r1
    cases ha : (⟨l.toArray⟩ : Str).cps.all (· < 128)
    · exact wpAny_pyIter_wide ha (pi_one (tk := s1.toks) I1 _ (turn_str _ _ t "str_iterator" (.inr rfl)) ⟨_, Heap.get?_push_size _ rfl, rfl, rfl⟩ (q.ok rp it_str))
    · exact wpAny_pyIter_ascii ha (pi_one (tk := s1.toks) I1 _ (turn_str _ _ t "str_ascii_iterator" (.inl rfl)) ⟨_, Heap.get?_push_size _ rfl, rfl, rfl⟩ (q.ok rp it_str))
  | scr l =>
    simp only [RelD] at rd
    obtain ⟨a, rfl, hq⟩ := rd
    cases r1
    have hq2 := hq.seq
    rw [ok.kk] at hq2
    obtain ⟨its, rv, p, hz⟩ := I1.list hq2
    refine wpAny_pyIter_list p.isList ?_
    refine ⟨s1.heap.objs.size, [s1.heap.objs.size], _, _, H1, rfl, I1.kept (t' := s1.toks) fun b o e => Heap.get?_push_of_some _ e, turn_list a _, ⟨_, Heap.get?_push_size _ rfl, rfl, rfl⟩, fun b hb => ?_, q.ok rp (it_scr ok.kk hq)⟩
    have e : b = s1.heap.objs.size := by simpa using hb
    subst e
    exact I1.fpOk (Nat.le_refl _) (I1.hok.fresh (Nat.le_refl _))
  | loc n =>
    simp only [itOf] at q
    split at q
    · rename_i l el
      obtain ⟨a, xs, rfl, e1, hH, ht⟩ := rp.list el rd
      cases r1
      obtain ⟨its, rv, p, hz⟩ := I1.list (show SqL X.K H1 a xs from .inl (.inl hH))
      refine wpAny_pyIter_list p.isList ?_
      refine ⟨s1.heap.objs.size, [s1.heap.objs.size], _, _, H1, rfl, I1.kept (t' := s1.toks) fun b o e => Heap.get?_push_of_some _ e, turn_list a _, ⟨_, Heap.get?_push_size _ rfl, rfl, rfl⟩, fun b hb => ?_, q.ok rp (it_lst ok.kk e1)⟩
      have e : b = s1.heap.objs.size := by simpa using hb
      subst e
      exact I1.fpOk (Nat.le_refl _) (I1.hok.fresh (Nat.le_refl _))
    · rename_i lk l el
      simp only [RelD] at rd
      obtain ⟨a, e1, rfl⟩ := rd
      cases r1
      obtain ⟨b, e2, c⟩ := rp.cell n _ el
      rw [e1] at e2
      cases e2
      rcases c with ⟨kvs, ⟨o, hd⟩, p⟩ | ⟨hne, kvs, ⟨o, hd⟩, p⟩
      · obtain ⟨hs, hgd, hx, es, ep, vs, hdt, hsz, kv, hm⟩ := I1.frzK hd
        refine iter_keys hs hgd hx hdt (pi_one (tk := s1.toks) I1 _ (turn_keys _ hdt) ⟨_, Heap.get?_push_size _ rfl, rfl, ?_⟩ (q.ok rp (it_dk e1 hd)))
        rw [hsz] <;> rfl
      · obtain ⟨hs, hgd, hx, es, ep, hdt, hsz, ent⟩ := I1.frzT hd
        refine iter_keys hs hgd hx hdt (pi_one (tk := s1.toks) I1 _ (turn_keysT _ hdt) ⟨_, Heap.get?_push_size _ rfl, rfl, ?_⟩ (q.ok rp (it_dkT e1 hd)))
        rw [hsz] <;> rfl
    · exact q.elim
  | _ => exact q.elim
def itRng1 : List D → Sto → Res ItD
  | [.int j], S => if -4611686018427387904 ≤ j ∧ j < 4611686018427387904 then .ok (.rng 0 1 j.toNat) S else .stuck
  | _, _ => .stuck
def itRng2 : List D → Sto → Res ItD
  | [.int i, .int j], S => if -4611686018427387904 ≤ i ∧ i < 4611686018427387904 ∧ -4611686018427387904 ≤ j ∧ j < 4611686018427387904 then .ok (.rng i 1 (j - i).toNat) S else .stuck
  | _, _ => .stuck
def mIts (f : List D → Sto → Res ItD) (m : MA) : MI := fun sd S => (m sd S).bind f
theorem rels1 {ds : List D} {v : V} (h : RelDs G ρ H ds [v]) : ∃ d, ds = [d] ∧ RelD G ρ H d v := by
  match ds, h with
  | [], h => simp only [RelDs] at h; cases h
  | [d], h =>
    simp only [RelDs] at h
    obtain ⟨w, ys, e, h1, h2⟩ := h
    cases e
    exact ⟨d, rfl, h1⟩
  | _ :: _ :: _, h =>
    have e := h.length
    simp at e
theorem pi_range1m {tg a : Expr} {m : MA} {p pos : Pos} (hg : Gl X "range") (hm : X.mg "range" = none) (ha : PAm G X [a] m) (hs : starEach [a] X.env = [(false, eval a X.env)] := by rfl) : PIm G X tg (.Call (.Name "range" p) [a] [] pos) (mIts itRng1 m) := fun W ok =>
  PI_imp (pi_range1 hg hm (ha W ok) hs) fun σ H R ⟨sd, S, ρ, hs, hr, h⟩ => ⟨sd, S, ρ, hs, hr, Aft.bind h fun ρ1 H1 xs ds S1 le1 r1 rd h1 => by
    unfold itRng1 at h1
    split at h1
    · rename_i j
      simp only [RelDs, RelD] at rd
      obtain ⟨_, _, rfl, rfl, rfl⟩ := rd
      split at h1
      · rename_i hj
        exact ⟨j, rfl, hj.1, hj.2, h1.ok r1 it_rng⟩
      · exact h1.elim
    · exact h1.elim⟩
theorem pi_range2m {tg a b : Expr} {m : MA} {p pos : Pos} (hg : Gl X "range") (hm : X.mg "range" = none) (ha : PAm G X [a, b] m) (hs : starEach [a, b] X.env = [(false, eval a X.env), (false, eval b X.env)] := by rfl) (hs2 : starEach [b] X.env = [(false, eval b X.env)] := by rfl) :
    PIm G X tg (.Call (.Name "range" p) [a, b] [] pos) (mIts itRng2 m) := fun W ok =>
  PI_imp (pi_range2 hg hm (ha W ok) hs hs2) fun σ H R ⟨sd, S, ρ, hs, hr, h⟩ => ⟨sd, S, ρ, hs, hr, Aft.bind h fun ρ1 H1 xs ds S1 le1 r1 rd h1 => by
    unfold itRng2 at h1
    split at h1
    · rename_i i j
      simp only [RelDs, RelD] at rd
      obtain ⟨_, _, rfl, rfl, _, _, rfl, rfl, rfl⟩ := rd
      split at h1
      · rename_i hj
        exact ⟨i, j, rfl, hj, h1.ok r1 it_rng⟩
      · exact h1.elim
    · exact h1.elim⟩
def itEnl : List D → Sto → Res ItD
  | [.loc n], S => match S.get n with
    | some (.lst _) => .ok (.enl n) S
    | _ => .stuck
  | _, _ => .stuck
theorem pi_enlm {e : Expr} {m : MA} {p pos tpos : Pos} {elts : List Expr} {kk : Nat} (hg : Gl X "enumerate") (hm : X.mg "enumerate" = none) (ha : PAm G X [e] m) (hs : starEach [e] X.env = [(false, eval e X.env)] := by rfl) :
    PIm G X (.Tuple elts kk tpos) (.Call (.Name "enumerate" p) [e] [] pos) (mIts itEnl m) := fun W ok =>
  PI_imp (pi_enum hg hm (ha W ok) hs) fun σ H R ⟨sd, S, ρ, hs, hr, h⟩ => ⟨sd, S, ρ, hs, hr, Aft.bind h fun ρ1 H1 xs ds S1 le1 r1 rd h1 => by
    unfold itEnl at h1
    split at h1
    · rename_i n
      simp only [RelDs] at rd
      obtain ⟨v, _, rfl, rd, rfl⟩ := rd
      split at h1
      · rename_i l el
        obtain ⟨a, ys, rfl, e2, hH, ht⟩ := r1.list el rd
        exact ⟨a, ys, rfl, .inl (.inl hH), h1.ok r1 (it_enl ok.kk e2)⟩
      · exact h1.elim
    · exact h1.elim⟩
theorem noT {l : List (D × D)} {kvs : List (List Key × V)} (h : isK l = true) (hne : l ≠ []) (p : PairK keyT G ρ H l kvs) : False := by
  cases l with
  | nil => exact hne rfl
  | cons q r =>
    obtain ⟨k, v, zs, _, e, _⟩ := p
    simp only [isK] at h
    cases hq : q.1 with
    | tup ds => rw [hq] at h; simp [keyD] at h
    | _ => rw [hq] at e; simp [keyT] at e
def itDv : D → Sto → Res ItD
  | .loc n, S => match S.get n with
    | some (.dct (_ + 1) l) => if isK l then .ok (.dv n) S else .stuck
    | _ => .stuck
  | _, _ => .stuck
def itDi : D → Sto → Res ItD
  | .loc n, S => match S.get n with
    | some (.dct (_ + 1) l) => if isK l then .ok (.di n) S else .stuck
    | _ => .stuck
  | _, _ => .stuck
def mItM (f : D → Sto → Res ItD) (m : ME) : MI := fun sd S => (m sd S).bind f
theorem dct_k {S : Sto} {n lk : Nat} {l : List (D × D)} {x : V} (r1 : Rep G ρ S H) (el : S.get n = some (.dct (lk + 1) l)) (hk : isK l = true) (rd : RelD G ρ H (.loc n) x) : ∃ a o kvs, x = .ref a ∧ ρ n = some a ∧ H a = some (.frz o (.dK kvs)) := by
  simp only [RelD] at rd
  obtain ⟨a, e2, rfl⟩ := rd
  obtain ⟨b, e3, c⟩ := r1.cell n _ el
  rw [e2] at e3
  cases e3
  rcases c with ⟨kvs, ⟨o, hd⟩, p⟩ | ⟨hne, kvs, ⟨o, hd⟩, p⟩
  · exact ⟨a, o, kvs, rfl, e2, hd⟩
  · exact (noT hk hne p).elim
theorem pi_itemsm {e : Expr} {m : ME} {elts : List Expr} {kk : Nat} {tpos apos cpos : Pos} (he : PEm G X e m) (hbase : attributeBase e "items" X.env (eval e X.env) = eval e X.env := by rfl) (hline : (apos.endLine == cpos.line) = true := by rfl) :
    PIm G X (.Tuple elts kk tpos) (.Call (.Attribute e "items" apos) [] [] cpos) (mItM itDi m) := fun W ok =>
  PI_imp (pi_items (he W ok) hbase hline) fun σ H R ⟨sd, S, ρ, hs, hr, h⟩ => ⟨sd, S, ρ, hs, hr, Aft.bind h fun ρ1 H1 x d S1 le1 r1 rd h1 => by
    unfold itDi at h1
    split at h1
    · rename_i n
      split at h1
      · rename_i lk l el
        split at h1
        · rename_i hk
          obtain ⟨a, o, kvs, rfl, e2, hd⟩ := dct_k r1 el hk rd
          exact ⟨a, o, kvs, rfl, hd, h1.ok r1 (it_di e2 hd)⟩
        · exact h1.elim
      · exact h1.elim
    · exact h1.elim⟩
theorem pi_valuesm {tg e : Expr} {m : ME} {apos cpos : Pos} (he : PEm G X e m) (hbase : attributeBase e "values" X.env (eval e X.env) = eval e X.env := by rfl) (hline : (apos.endLine == cpos.line) = true := by rfl) :
    PIm G X tg (.Call (.Attribute e "values" apos) [] [] cpos) (mItM itDv m) := fun W ok =>
  PI_imp (pi_values (he W ok) hbase hline) fun σ H R ⟨sd, S, ρ, hs, hr, h⟩ => ⟨sd, S, ρ, hs, hr, Aft.bind h fun ρ1 H1 x d S1 le1 r1 rd h1 => by
    unfold itDv at h1
    split at h1
    · rename_i n
      split at h1
      · rename_i lk l el
        split at h1
        · rename_i hk
          obtain ⟨a, o, kvs, rfl, e2, hd⟩ := dct_k r1 el hk rd
          exact ⟨a, o, kvs, rfl, hd, h1.ok r1 (it_dv e2 hd)⟩
        · exact h1.elim
      · exact h1.elim
    · exact h1.elim⟩

/-! ### a dict that is walked is locked -/
def unlkS (n : Nat) : SRes → SRes
  | .nx sd S => match S.get n with
    | some (.dct 1 l) => .nx sd (S.set n (.dct 0 l))
    | _ => .stuck
  | .rt d S => match S.get n with
    | some (.dct 1 l) => .rt d (S.set n (.dct 0 l))
    | _ => .stuck
  | .bk sd S => match S.get n with
    | some (.dct 1 l) => .bk sd (S.set n (.dct 0 l))
    | _ => .stuck
  | .ct sd S => match S.get n with
    | some (.dct 1 l) => .ct sd (S.set n (.dct 0 l))
    | _ => .stuck
  | .ex x sd S => .ex x sd S
  | .stuck => .stuck
  | .pick t f => .pick t fun r => unlkS n (f r)
def unlkE (n : Nat) : Res D → Res D
  | .ok d S => match S.get n with
    | some (.dct 1 l) => .ok d (S.set n (.dct 0 l))
    | _ => .stuck
  | .exc x S => .exc x S
  | .stuck => .stuck
  | .pick t f => .pick t fun r => unlkE n (f r)
/-- md: which dict it is -/
def sLock (md : ME) (m : MS) : MS := fun sd S => match md sd S with
  | .ok (.loc n) _ => (match S.get n with
    | some (.dct 0 l) => unlkS n (m sd (S.set n (.dct 1 l)))
    | _ => m sd S)
  | .ok _ _ => m sd S
  | _ => .stuck
def mLock (md : ME) (m : ME) : ME := fun sd S => match md sd S with
  | .ok (.loc n) _ => (match S.get n with
    | some (.dct 0 l) => unlkE n (m sd (S.set n (.dct 1 l)))
    | _ => m sd S)
  | .ok _ _ => m sd S
  | _ => .stuck
theorem unl {ρ' : Rho} {H' : Hp} {S' : Sto} {n : Nat} {l' : List (D × D)} {a : Addr} {od : Obj} {u : HO} (e : ρ n = some a) (hH : H a = some u) (w : Wr (some u)) (u1 : ∀ xs, u ≠ .tup xs) (u2 : ∀ xs, u ≠ .lst xs) (le : Le G ρ (L2.upd H a (.frz od u)) ρ' H') (rp : Rep G ρ' S' H') (el : S'.get n = some (.dct 1 l')) :
    H' a = some (.frz od u) ∧ Le G ρ H ρ' (L2.upd H' a u) ∧ Rep G ρ' (S'.set n (.dct 0 l')) (L2.upd H' a u) ∧ Lw G ρ' H' ρ' (L2.upd H' a u) := by
  have hd := le.fz a od u upd_same
  refine ⟨hd, le_unlock hH w le, rp.unlock el (le.rho _ _ e) hd u1 u2, ⟨fun _ _ h => h, fun b xs h => ?_, fun b l h => ?_⟩⟩
  · rcases h with (h | ⟨ob, h⟩) | h
    · exact .inl (.inl (by rw [upd_ne (fun z => by rw [z, hd] at h; cases h)]; exact h))
    · exact .inl (.inr ⟨ob, by rw [upd_ne (fun z => by rw [z, hd] at h; cases h; exact u1 _ rfl)]; exact h⟩)
    · exact .inr h
  · rcases h with ⟨ob, h⟩ | h
    · exact .inl ⟨ob, by rw [upd_ne (fun z => by rw [z, hd] at h; cases h; exact u2 _ rfl)]; exact h⟩
    · exact .inr h
theorem RelSt.monoW {ρ' : Rho} {H' : Hp} {sd : SD} {σ : L2.St} (h : RelSt G ρ H sd σ) (le : Lw G ρ H ρ' H') : RelSt G ρ' H' sd σ := ⟨h.1, RelSl.monoW le h.2⟩
/-- which dict: what md reads stands at the same place whatever is locked -/
theorem ps_lockm {st : Stmt} {md : ME} {m : MS} (h : PSm G X st m) : PSm G X st (sLock md m) := fun W ok => by
  refine ⟨fun pins s σ H E I ⟨sd, S, ρ, hs, hr, q⟩ => ?_⟩
  unfold sLock at q
  split at q
  · rename_i n S0 e0
    split at q
    · rename_i l el
      obtain ⟨b, eb, _⟩ := hr.cell n _ el
      obtain ⟨a, u, ea, e, hH, mu, w, u1, u2, hl⟩ := hr.lock (ρ := ρ) el (RelD.loc' eb)
      refine (ps_lock (h W ok)).run pins s σ H E I ⟨a, u, hH, mu, fun od => ⟨sd, _, ρ, hs.mono (Le.upd (by rw [hH]; exact w)), hl od, ?_⟩⟩
      have lk : Le G ρ H ρ (upd H a (.frz od u)) := Le.upd (by rw [hH]; exact w)
      generalize m sd (S.set n (.dct 1 l)) = r at q
      induction r with
      | nx sd1 S1 =>
        simp only [unlkS] at q
        split at q
        · rename_i l' el'
          intro ρ' H' σ' le rp rs
          obtain ⟨h1, h2, h3, h4⟩ := unl e hH w u1 u2 le rp el'
          exact ⟨h1, q ρ' _ σ' h2 h3 (rs.monoW h4)⟩
        · exact q.elim
      | rt d S1 =>
        simp only [unlkS] at q
        split at q
        · rename_i l' el'
          intro ρ' H' v le rp rs
          obtain ⟨h1, h2, h3, h4⟩ := unl e hH w u1 u2 le rp el'
          exact ⟨h1, q ρ' _ v h2 h3 (RelD.monoW h4 rs)⟩
        · exact q.elim
      | bk sd1 S1 =>
        simp only [unlkS] at q
        split at q
        · rename_i l' el'
          intro ρ' H' σ' le rp rs
          obtain ⟨h1, h2, h3, h4⟩ := unl e hH w u1 u2 le rp el'
          exact ⟨h1, q ρ' _ σ' h2 h3 (rs.monoW h4)⟩
        · exact q.elim
      | ct sd1 S1 =>
        simp only [unlkS] at q
        split at q
        · rename_i l' el'
          intro ρ' H' σ' le rp rs
          obtain ⟨h1, h2, h3, h4⟩ := unl e hH w u1 u2 le rp el'
          exact ⟨h1, q ρ' _ σ' h2 h3 (rs.monoW h4)⟩
        · exact q.elim
      | ex x sd1 S1 => exact fun ρ' H' σ' c d le rp rs rx => q ρ' H' σ' c d (lk.trans le) rp rs rx
      | stuck => exact q.elim
      | pick t f ih => exact fun r hr => ih r (q r hr)
    · exact (h W ok).run pins s σ H E I ⟨sd, S, ρ, hs, hr, q⟩
  · exact (h W ok).run pins s σ H E I ⟨sd, S, ρ, hs, hr, q⟩
  · exact q.elim
theorem pm_lock {ex : Expr} {md : ME} {m : ME} (h : PEm G X ex m) : PEm G X ex (mLock md m) := fun W ok => by
  refine ⟨fun pins s σ H Q I ⟨sd, S, ρ, hs, hr, q⟩ => ?_⟩
  unfold mLock at q
  split at q
  · rename_i n S0 e0
    split at q
    · rename_i l el
      obtain ⟨b, eb, _⟩ := hr.cell n _ el
      obtain ⟨a, u, ea, e, hH, mu, w, u1, u2, hl⟩ := hr.lock (ρ := ρ) el (RelD.loc' eb)
      refine (pe_lock (h W ok)).run pins s σ H Q I ⟨a, u, hH, mu, fun od => ⟨sd, _, ρ, hs.mono (Le.upd (by rw [hH]; exact w)), hl od, ?_⟩⟩
      have lk : Le G ρ H ρ (upd H a (.frz od u)) := Le.upd (by rw [hH]; exact w)
      generalize m sd (S.set n (.dct 1 l)) = r at q
      induction r with
      | ok d S1 =>
        simp only [unlkE] at q
        split at q
        · rename_i l' el'
          intro ρ' H' v le rp rs
          obtain ⟨h1, h2, h3, h4⟩ := unl e hH w u1 u2 le rp el'
          exact ⟨h1, q ρ' _ v h2 h3 (RelD.monoW h4 rs)⟩
        · exact q.elim
      | exc x S1 => exact fun ρ' H' c d le rp rx => q ρ' H' c d (lk.trans le) rp rx
      | stuck => exact q.elim
      | pick t f ih => exact fun r hr => ih r (q r hr)
    · exact (h W ok).run pins s σ H Q I ⟨sd, S, ρ, hs, hr, q⟩
  · exact (h W ok).run pins s σ H Q I ⟨sd, S, ρ, hs, hr, q⟩
  · exact q.elim
end
end Y

/-! Y5: list comprehensions. -/
namespace Y
open PySem PySem.Spec PyProof.Rows L2
def wipeD (sd : SD) : List Nat → SD
  | [] => sd
  | v :: vs => (wipeD sd vs).set v none
section
variable {G : Glo} {X : Cx} {ρ : Rho} {H : Hp}
theorem RelSt.none {sd : SD} {σ : L2.St} (h : RelSt G ρ H sd σ) (i : Nat) : RelSt G ρ H (sd.set i Option.none) (σ.set i Option.none) := by
  refine ⟨by simp only [List.length_set]; exact h.1, fun j e hj => ?_⟩
  by_cases hij : i = j
  · subst hij
    rw [List.getElem?_set] at hj
    simp at hj
  · rw [List.getElem?_set_ne hij] at hj ⊢
    exact h.2 j e hj
theorem RelSt.wipe {sd : SD} {σ : L2.St} (h : RelSt G ρ H sd σ) : ∀ vs : List Nat, RelSt G ρ H (wipeD sd vs) (L2.wipe σ vs)
  | [] => h
  | v :: vs => (RelSt.wipe h vs).none v
theorem wipe_get {σ : L2.St} : ∀ {vs : List Nat} {j : Nat}, j < σ.length → (L2.wipe σ vs)[j]? = if j ∈ vs then some Option.none else σ[j]?
  | [], j, _ => by simp [L2.wipe]
  | v :: vs, j, hj => by
    unfold L2.wipe
    rw [List.getElem?_set]
    have hl : j < (L2.wipe σ vs).length := by rw [wipe_length]; exact hj
    by_cases e : v = j
    · subst e
      simp [hl]
    · rw [if_neg e, wipe_get hj]
      simp [Ne.symm e]
/-- two lots of slots that agree but for vs are one when vs is wiped -/
theorem wipe_eq {σ σ' : L2.St} {vs l : List Nat} (k : Kept l σ σ') (hl : ∀ j ∈ l, j ∈ vs) : L2.wipe σ' vs = L2.wipe σ vs := by
  refine List.ext_getElem? fun j => ?_
  by_cases hj : j < σ.length
  · rw [wipe_get hj, wipe_get (by rw [k.1]; exact hj)]
    split
    · rfl
    · rename_i hn
      exact k.2 j fun z => hn (hl j z)
  · rw [List.getElem?_eq_none (by rw [wipe_length, k.1]; omega), List.getElem?_eq_none (by rw [wipe_length]; omega)]
theorem wipe_twice {σ : L2.St} {vs : List Nat} : L2.wipe (L2.wipe σ vs) vs = L2.wipe σ vs := by
  refine List.ext_getElem? fun j => ?_
  by_cases hj : j < σ.length
  · rw [wipe_get (by rw [wipe_length]; exact hj), wipe_get hj]
    split <;> rfl
  · rw [List.getElem?_eq_none (by rw [wipe_length, wipe_length]; omega), List.getElem?_eq_none (by rw [wipe_length]; omega)]

def tYesM : MT := fun _ S => .ok true S
def PTsm (G : Glo) (X : Cx) (es : List Expr) (m : MT) : Prop := ∀ W, XOk G X W → PTs X es (tt G m W)
theorem pts_nilm : PTsm G X [] tYesM := fun W ok => ⟨fun pins s σ H Q I ⟨sd, S, ρ, hs, hr, h⟩ => pts_nil.run pins s σ H Q I (h.ok hr rfl)⟩
theorem pts_onem {c : Expr} {m : MT} (h : PTm G X c m) : PTsm G X [c] m := fun W ok => pts_one (h W ok)
def lcLoop (it : ItD) (t : Tg) (q : MT) (e : ME) (sd : SD) (dl : Nat) : Nat → Nat → Sto → Res D
  | 0, _, _ => .stuck
  | n + 1, i, S => match itNext it i S with
    | none => .stuck
    | some none => .ok (.loc dl) S
    | some (some d) => match asg t d sd with
      | none => .stuck
      | some sd1 => (q sd1 S).bindX fun k S1 => if k then (e sd1 S1).bindX fun y S2 => (match S2.get dl with
          | some (.lst acc) => if acc.length < 16777216 then lcLoop it t q e sd dl n (i + 1) (S2.set dl (.lst (acc ++ [y]))) else .stuck
          | _ => .stuck) else lcLoop it t q e sd dl n (i + 1) S1
def mLc (mi : MI) (t : Tg) (q : MT) (e : ME) (vs : List Nat) : ME := fun sd S => (mi sd S).bind fun it S1 => lcLoop it t q e (wipeD sd vs) S1.n (itLen it S1 + 1) 0 (S1.new (.lst []))
abbrev Wno : WX := fun _ _ _ _ => False
theorem blk_ok {s : Shared} {H : Hp} {scope : Scope} {cenv : Env} {fp : List Addr} (kk : G.K = X.K) : XOk G (X.blk s H scope cenv fp) Wno := ⟨takes0, PassesOwn.never, kk⟩
theorem lc_read {mi : MI} {t : Tg} {q : MT} {m : ME} {W : WX} {vs : List Nat} (kk : G.K = X.K) (hv : ∀ j ∈ t.slots, j ∈ vs) {σ : L2.St} {H : Hp} {Q : VK} (h : te G (mLc mi t q m vs) W σ H Q) : tLc (ti G mi W) (gOf X.K t) (tt G q Wno) (te G m Wno) vs σ H Q := by
  obtain ⟨sd, S, ρ, hs, hr, h⟩ := h
  refine ⟨sd, S, ρ, hs, hr, Aft.bind h fun ρ1 H1 J it S1 le1 r1 ij h1 => fun Dd hD => ?_⟩
  have leD : Le G ρ1 H1 (ext ρ1 S1.n Dd) (upd H1 Dd (.lst [])) := (Le.ext (r1.top _ (Nat.le_refl _))).trans (Le.same (same_new hD))
  have hs1 := hs.mono (le1.trans leD)
  refine ⟨fun i m2 H => ∃ S ρ, Le G (ext ρ1 S1.n Dd) (upd H1 Dd (.lst [])) ρ H ∧ Rep G ρ S H ∧ Aft G (RelD G) ρ H (lcLoop it t q m (wipeD sd vs) S1.n m2 i S) Q (fun c d H' => W c d σ H'),
    ⟨_, _, _, Le.refl, r1.new (c := .lst []) hD ⟨[], upd_same, .nil⟩, h1.le leD⟩, fun i m2 H2 ⟨S2, ρ2, le2, r2, h2⟩ => ?_⟩
  have hsw : RelSt G ρ2 H2 (wipeD sd vs) (L2.wipe σ vs) := (hs1.mono le2).wipe vs
  have hρD : ρ2 S1.n = some Dd := le2.rho _ _ ext_same
  cases m2 with
  | zero => exact h2.elim
  | succ m2 =>
    have ij2 := ij i ρ2 H2 S2 (leD.trans le2) r2
    simp only [lcLoop] at h2
    split at h2
    · exact h2.elim
    · rename_i en
      rw [en] at ij2
      exact .inl ⟨ij2, h2.ok r2 (RelD.loc' hρD)⟩
    · rename_i d en
      rw [en] at ij2
      obtain ⟨hgo, hy⟩ := ij2
      refine .inr ⟨hgo, _, fun H' hn => ⟨m2, Nat.lt_succ_self m2, hn⟩, fun x H3 hx => ?_⟩
      obtain ⟨l3, r3, rd⟩ := hy x H3 hx
      split at h2
      · exact h2.elim
      · rename_i sd1 ea
        refine gOf_ok kk rd (hsw.mono l3) ea fun σ2 s2 k2 => ?_
        refine ⟨(wipe_eq k2 hv).trans wipe_twice, sd1, S2, ρ2, s2, r3, ?_⟩
        refine Aft.bindX (h2.le l3) fun ρ4 H4 b k S4 l4 r4 eb h4 => ?_
        have eb : k = b := eb
        subst eb
        cases k with
        | false => exact ⟨S4, ρ4, (le2.trans l3).trans l4, r4, h4⟩
        | true =>
          refine ⟨sd1, S4, ρ4, s2.mono l4, r4, Aft.bindX h4 fun ρ5 H5 v y S5 l5 r5 rv h5 => ?_⟩
          split at h5
          · rename_i acc eacc
            split at h5
            · rename_i hlen
              have hρ5 : ρ5 S1.n = some Dd := l5.rho _ _ (l4.rho _ _ hρD)
              obtain ⟨a, xs, ea2, _, hH, hrel⟩ := r5.list eacc (RelD.loc' hρ5)
              cases ea2
              have w : Wr1 (H5 Dd) := by rw [hH]; exact trivial
              have lw := Le.upd (G := G) (ρ := ρ5) (o := .lst (xs ++ [v])) w.wr
              exact ⟨xs, hH, by rw [← hrel.length, sizeLine_eq]; exact hlen, _, ρ5, (((le2.trans l3).trans l4).trans l5).trans lw, r5.set (c' := .lst (acc ++ [y])) eacc hρ5 w ⟨_, upd_same, (hrel.mono lw).append (.one (rv.mono lw))⟩, h5.le lw⟩
            · exact h5.elim
          · exact h5.elim
theorem pm_lc {elt tg iter : Expr} {ifs : List Expr} {scope : Scope} {own : List (Str × Nat)} {pos : Pos} {mi : MI} {t : Tg} {q : MT} {m : ME} (hc : X.calm = true) (hN : X.N.Nodup) (hi : PIm G X tg iter mi) (ok : BlkOk X.N X.env.scope scope own)
    (hg : ∀ (s : Shared) (H : Hp) (C : Addr) (cl : List (Str × Addr)) (fp : List Addr), PG (X.blk s H scope (compEnvC scope cl C X.env) fp) tg (gOf X.K t)) (ht : ∀ (s : Shared) (H : Hp) (C : Addr) (cl : List (Str × Addr)) (fp : List Addr), PTsm G (X.blk s H scope (compEnvC scope cl C X.env) fp) ifs q)
    (he : ∀ (s : Shared) (H : Hp) (C : Addr) (cl : List (Str × Addr)) (fp : List Addr), PEm G (X.blk s H scope (compEnvC scope cl C X.env) fp) elt m) (hv : ∀ j ∈ t.slots, j ∈ own.map (·.2) := by decide) (hs : ∀ x, foldedSetIterable iter X.env x = pure x := by intro _; rfl) :
    PEm G X (.ListComp elt [⟨tg, iter, ifs, 0⟩] scope pos) (mLc mi t q m (own.map (·.2))) := fun W xk =>
  PE_imp (pe_lc hc hN (hi W xk) ok hg (fun s H C cl fp => ht s H C cl fp Wno (blk_ok xk.kk)) (fun s H C cl fp => he s H C cl fp Wno (blk_ok xk.kk)) hs) fun σ H Q h => lc_read xk.kk hv h
/-- name = [..] on one row -/
theorem ps_setLcm {i : Nat} {y : Str} {py spos : Pos} {elt tg iter : Expr} {ifs : List Expr} {scope : Scope} {own : List (Str × Nat)} {pos : Pos} {mi : MI} {t : Tg} {q : MT} {m : ME} (hc : X.calm = true) (hN : X.N.Nodup) (hi : PIm G X tg iter mi) (ok : BlkOk X.N X.env.scope scope own)
    (hg : ∀ (s : Shared) (H : Hp) (C : Addr) (cl : List (Str × Addr)) (fp : List Addr), PG (X.blk s H scope (compEnvC scope cl C X.env) fp) tg (gOf X.K t)) (ht : ∀ (s : Shared) (H : Hp) (C : Addr) (cl : List (Str × Addr)) (fp : List Addr), PTsm G (X.blk s H scope (compEnvC scope cl C X.env) fp) ifs q)
    (he : ∀ (s : Shared) (H : Hp) (C : Addr) (cl : List (Str × Addr)) (fp : List Addr), PEm G (X.blk s H scope (compEnvC scope cl C X.env) fp) elt m) (hv : ∀ j ∈ t.slots, j ∈ own.map (·.2) := by decide) (hs : ∀ x, foldedSetIterable iter X.env x = pure x := by intro _; rfl)
    (hy : X.N[i]? = some y := by rfl) (hyl : X.env.scope.names.lookup y = some .local := by rfl) (hsw : swapsWith (.ListComp elt [⟨tg, iter, ifs, 0⟩] scope pos) (some (.Name y py)) spos.line X.env = pure true := by exact sw_true rfl rfl rfl (by decide +kernel)) :
    PSm G X (.Assign [.Name y py] (.ListComp elt [⟨tg, iter, ifs, 0⟩] scope pos) spos) (sSet i (mLc mi t q m (own.map (·.2)))) := fun W xk =>
  PS_imp (ps_setLc hc hN hy hyl hsw (hi W xk) ok hg (fun s H C cl fp => ht s H C cl fp Wno (blk_ok xk.kk)) (fun s H C cl fp => he s H C cl fp Wno (blk_ok xk.kk)) hs) fun E σ H ⟨sd, S, ρ, hs, hr, h⟩ =>
    lc_read xk.kk hv ⟨sd, S, ρ, hs, hr, AftS.bind h hs fun ρ1 H1 v d S1 le r1 rd h1 => h1 ρ1 H1 _ Le.refl r1 ((hs.mono le).set rd i)⟩
end
end Y

/-! Y6: operators, built-ins. -/
namespace Y
open PySem PySem.Spec PyProof.Rows L2
def mulOk (i j : Int) : Bool := decide (i.natAbs < 18446744073709551616) || decide (i.natAbs.log2 + j.natAbs.log2 < 1000000)
def bAdd : D → D → Sto → Res D
  | .int i, .int j, S => .ok (.int (i + j)) S
  | .str x, .str y, S => if x.length + y.length ≤ 16777216 then .ok (.str (x ++ y)) S else .stuck
  | .tup x, .tup y, S => if x.length + y.length ≤ 16777216 then .ok (.tup (x ++ y)) S else .stuck
  | .loc a, .loc b, S => (match S.get a, S.get b with
    | some (.lst x), some (.lst y) => if x.length + y.length ≤ 16777216 then .ok (.loc S.n) (S.new (.lst (x ++ y))) else .stuck
    | _, _ => .stuck)
  | _, _, _ => .stuck
def bSub : D → D → Sto → Res D
  | .int i, .int j, S => .ok (.int (i - j)) S
  | _, _, _ => .stuck
def bMul : D → D → Sto → Res D
  | .int i, .int j, S => if mulOk i j then .ok (.int (i * j)) S else .stuck
  | .loc a, .int k, S => (match S.get a with
    | some (.lst x) => if -(2 ^ 63) ≤ k ∧ k < 2 ^ 63 ∧ x.length * k.toNat ≤ 16777216 then .ok (.loc S.n) (S.new (.lst (List.replicate k.toNat x).flatten)) else .stuck
    | _ => .stuck)
  | _, _, _ => .stuck
def bDiv : D → D → Sto → Res D
  | .int i, .int j, S => if 0 < j ∧ j.natAbs.log2 < 9000 then .ok (.int (i / j)) S else .stuck
  | _, _, _ => .stuck
def bMod : D → D → Sto → Res D
  | .int i, .int j, S => if 0 < j then .ok (.int (i % j)) S else .stuck
  | _, _, _ => .stuck
def bPow : D → D → Sto → Res D
  | .int i, .int j, S => if 0 ≤ j ∧ j ≤ 1000000 ∧ i.natAbs < 18446744073709551616 then .ok (.int (i ^ j.toNat)) S else .stuck
  | _, _, _ => .stuck
def cLt : D → D → Sto → Res D
  | .int i, .int j, S => .ok (.bl (decide (i < j))) S
  | _, _, _ => .stuck
def cLe : D → D → Sto → Res D
  | .int i, .int j, S => .ok (.bl (decide (i ≤ j))) S
  | _, _, _ => .stuck
def cGt : D → D → Sto → Res D
  | .int i, .int j, S => .ok (.bl (decide (j < i))) S
  | _, _, _ => .stuck
def cGe : D → D → Sto → Res D
  | .int i, .int j, S => .ok (.bl (decide (j ≤ i))) S
  | _, _, _ => .stuck
def uNeg : D → Sto → Res D
  | .int i, S => .ok (.int (-i)) S
  | _, _ => .stuck
def isNon : D → Bool
  | .non => true
  | _ => false
def isCls : D → Bool
  | .cls _ => true
  | _ => false
def cIs (d e : D) (S : Sto) : Res D := if isNon e && !isCls d then .ok (.bl (isNon d)) S else .stuck
def cIsNot (d e : D) (S : Sto) : Res D := if isNon e && !isCls d then .ok (.bl (!isNon d)) S else .stuck
/-! data as a whole -/
def allP (f : D → Option PyData) : List D → Option (List PyData)
  | [] => some []
  | d :: r => match f d, allP f r with
    | some x, some xs => some (x :: xs)
    | _, _ => none
def toPy (S : Sto) : Nat → D → Option PyData
  | 0, _ => none
  | n + 1, d => match d with
    | .non => some .none
    | .bl b => some (.bool b)
    | .int i => some (.int i)
    | .str x => some (.str ⟨x.toArray⟩)
    | .tup l => (allP (toPy S n) l).map .tuple
    | .loc k => (match S.get k with
      | some (.lst l) => (allP (toPy S n) l).map .list
      | _ => none)
    | _ => none
def eqDat (S : Sto) (d e : D) : Option Bool := match toPy S 12 d, toPy S 12 e with
  | some a, some b => if SeqAt.shaped a && SeqAt.shaped b then some (PyData.eqv a b) else none
  | _, _ => none
def cEq (d e : D) (S : Sto) : Res D := match eqDat S d e with
  | some b => .ok (.bl b) S
  | none => .stuck
def cNe (d e : D) (S : Sto) : Res D := match eqDat S d e with
  | some b => .ok (.bl (!b)) S
  | none => .stuck
section
variable {G : Glo} {X : Cx} {ρ : Rho} {H : Hp}
theorem OpM.of {F : Value → Value → Sem Value} {f : D → D → Sto → Res D} {r : R2} (h : OpR X F r) (k : G.K = X.K → ∀ (ρ : Rho) (H : Hp) (S : Sto) (x y : V) (d e : D) (Q : VK) (W : XK), Rep G ρ S H → RelD G ρ H d x → RelD G ρ H e y → Aft G (RelD G) ρ H (f d e S) Q W → r x y H Q) : OpM G X F f :=
  fun W ok pins s σ H ρ S x y v u d e Q I rx ry rp rd re q => h pins s σ H x y v u Q I rx ry (k ok.kk ρ H S x y d e Q _ rp rd re q)
theorem rel_int {i : Int} : RelD G ρ H (.int i) (.int i) := by simp only [RelD]
theorem rel_bl {b : Bool} : RelD G ρ H (.bl b) (.bl b) := by simp only [RelD]
theorem rel_non : RelD G ρ H .non .non := by simp only [RelD]
theorem rel_str {x : List Nat} : RelD G ρ H (.str x) (.str ⟨x.toArray⟩) := by simp only [RelD]
theorem str_len (x : List Nat) : (⟨x.toArray⟩ : Str).length = x.length := by show x.toArray.size = x.length; simp
theorem str_app (x y : List Nat) : (⟨x.toArray⟩ : Str) ++ ⟨y.toArray⟩ = ⟨(x ++ y).toArray⟩ := by
  show (⟨x.toArray ++ y.toArray⟩ : Str) = _
  simp
theorem om_sub : OpM G X (binaryOp .Sub) bSub := .of op_sub fun kk ρ H S x y d e Q W rp rd re q => by
  unfold bSub at q
  split at q
  · rename_i i j
    simp only [RelD] at rd re
    exact ⟨i, j, rd, re, q.ok rp rel_int⟩
  · exact q.elim
theorem om_mod : OpM G X (binaryOp .Mod) bMod := .of op_mod fun kk ρ H S x y d e Q W rp rd re q => by
  unfold bMod at q
  split at q
  · rename_i i j
    simp only [RelD] at rd re
    split at q
    · rename_i h
      exact ⟨i, j, rd, re, h, q.ok rp rel_int⟩
    · exact q.elim
  · exact q.elim
theorem om_div : OpM G X (binaryOp .FloorDiv) bDiv := .of op_fdivW fun kk ρ H S x y d e Q W rp rd re q => by
  unfold bDiv at q
  split at q
  · rename_i i j
    simp only [RelD] at rd re
    split at q
    · rename_i h
      exact ⟨i, j, rd, re, h, q.ok rp rel_int⟩
    · exact q.elim
  · exact q.elim
theorem om_pow : OpM G X (binaryOp .Pow) bPow := .of op_pow fun kk ρ H S x y d e Q W rp rd re q => by
  unfold bPow at q
  split at q
  · rename_i i j
    simp only [RelD] at rd re
    split at q
    · rename_i h
      exact ⟨i, j, rd, re, h, q.ok rp rel_int⟩
    · exact q.elim
  · exact q.elim
theorem om_mul : OpM G X (binaryOp .Mult) bMul := fun W ok pins s σ H ρ S x y v u d e Q I rx ry rp rd re q => by
  unfold bMul at q
  split at q
  · rename_i i j
    simp only [RelD] at rd re
    split at q
    · rename_i h
      unfold mulOk at h
      rcases Bool.or_eq_true_iff.mp h with h | h
      · have h := of_decide_eq_true h
        exact op_mul pins s σ H x y v u Q I rx ry ⟨i, j, rd, re, .inl ⟨by omega, by omega⟩, q.ok rp rel_int⟩
      · exact op_mulW pins s σ H x y v u Q I rx ry ⟨i, j, rd, re, (show CMulW i j from of_decide_eq_true (p := i.natAbs.log2 + j.natAbs.log2 < 1000000) h), q.ok rp rel_int⟩
    · exact q.elim
  · rename_i a k
    simp only [RelD] at re
    split at q
    · rename_i l el
      obtain ⟨p, xs, rfl, e1, hH, ht⟩ := rp.list el rd
      split at q
      · rename_i h
        refine op_rep pins s σ H _ y v u Q I rx ry ⟨p, k, xs, rfl, re, hH, h.1, h.2.1, by rw [← ht.length, sizeLine_eq]; exact h.2.2, fun z hz => ?_⟩
        have le : Le G ρ H (ext ρ S.n z) (upd H z (.lst (List.replicate k.toNat xs).flatten)) := (Le.ext (rp.top _ (Nat.le_refl _))).trans (Le.same (same_new hz))
        refine q _ _ _ le (rp.new (c := .lst (List.replicate k.toNat l).flatten) hz ⟨_, upd_same, ?_⟩) (RelD.loc' ext_same)
        have rr : ∀ n : Nat, RelDs G (ext ρ S.n z) (upd H z (.lst (List.replicate k.toNat xs).flatten)) (List.replicate n l).flatten (List.replicate n xs).flatten := fun n => by
          induction n with
          | zero => exact .nil
          | succ n ih =>
            simp only [List.replicate_succ, List.flatten_cons]
            exact (ht.mono le).append ih
        exact rr _
      · exact q.elim
    · exact q.elim
  · exact q.elim
theorem om_add : OpM G X (binaryOp .Add) bAdd := fun W ok pins s σ H ρ S x y v u d e Q I rx ry rp rd re q => by
  unfold bAdd at q
  split at q
  · rename_i i j
    simp only [RelD] at rd re
    exact op_add pins s σ H x y v u Q I rx ry ⟨i, j, rd, re, q.ok rp rel_int⟩
  · rename_i a b
    simp only [RelD] at rd re
    split at q
    · rename_i h
      exact op_add_str pins s σ H x y v u Q I rx ry ⟨_, _, rd, re, by rw [str_len, str_len, sizeLine_eq]; exact h, by rw [str_app]; exact q.ok rp rel_str⟩
    · exact q.elim
  · rename_i l m
    simp only [RelD] at rd re
    obtain ⟨a, xs, rfl, hx, tx⟩ := rd
    obtain ⟨b, ys, rfl, hy, ty⟩ := re
    split at q
    · rename_i h
      refine op_catA pins s σ H _ _ v u Q I rx ry ⟨a, b, xs, ys, rfl, rfl, by rw [← ok.kk]; exact hx, by rw [← ok.kk]; exact hy, by rw [← tx.length, ← ty.length, sizeLine_eq]; exact h, fun e => ?_, fun _ e => ?_, fun _ _ p hp => ?_⟩
      · subst e
        have e2 := tx.length
        have e3 : l = [] := List.length_eq_zero_iff.mp e2
        subst e3
        exact q.ok rp (RelD.tup' hy ty)
      · subst e
        have e2 := ty.length
        have e3 : m = [] := List.length_eq_zero_iff.mp e2
        subst e3
        rw [List.append_nil] at q
        exact q.ok rp (RelD.tup' hx tx)
      · have sm := same_new (o := .tup (xs ++ ys)) hp
        exact q ρ _ _ (Le.same sm) (rp.same sm) (RelD.tup' (.inl (.inl upd_same)) ((tx.mono (Le.same sm)).append (ty.mono (Le.same sm))))
    · exact q.elim
  · rename_i a b
    split at q
    · rename_i l m el em
      obtain ⟨p, xs, rfl, e1, hH, ht⟩ := rp.list el rd
      obtain ⟨p2, ys, rfl, e2, hH2, ht2⟩ := rp.list em re
      split at q
      · rename_i h
        refine op_cat pins s σ H _ _ v u Q I rx ry ⟨p, p2, xs, ys, rfl, rfl, hH, hH2, by rw [← ht.length, ← ht2.length, sizeLine_eq]; exact h, fun z hz => ?_⟩
        have le : Le G ρ H (ext ρ S.n z) (upd H z (.lst (xs ++ ys))) := (Le.ext (rp.top _ (Nat.le_refl _))).trans (Le.same (same_new hz))
        exact q _ _ _ le (rp.new (c := .lst (l ++ m)) hz ⟨_, upd_same, (ht.mono le).append (ht2.mono le)⟩) (RelD.loc' ext_same)
      · exact q.elim
    · exact q.elim
  · exact q.elim
theorem om_lt : OpM G X (compareOp .Lt) cLt := .of op_lt fun kk ρ H S x y d e Q W rp rd re q => by
  unfold cLt at q
  split at q
  · simp only [RelD] at rd re
    exact ⟨_, _, rd, re, q.ok rp rel_bl⟩
  · exact q.elim
theorem om_le : OpM G X (compareOp .LtE) cLe := .of op_le fun kk ρ H S x y d e Q W rp rd re q => by
  unfold cLe at q
  split at q
  · simp only [RelD] at rd re
    exact ⟨_, _, rd, re, q.ok rp rel_bl⟩
  · exact q.elim
theorem om_gt : OpM G X (compareOp .Gt) cGt := .of op_gt fun kk ρ H S x y d e Q W rp rd re q => by
  unfold cGt at q
  split at q
  · simp only [RelD] at rd re
    exact ⟨_, _, rd, re, q.ok rp rel_bl⟩
  · exact q.elim
theorem om_ge : OpM G X (compareOp .GtE) cGe := .of op_ge fun kk ρ H S x y d e Q W rp rd re q => by
  unfold cGe at q
  split at q
  · simp only [RelD] at rd re
    exact ⟨_, _, rd, re, q.ok rp rel_bl⟩
  · exact q.elim
theorem um_neg : UnM G X (unaryOp .USub) uNeg := fun W ok pins s σ H ρ S x v d Q I rx rp rd q => by
  unfold uNeg at q
  split at q
  · simp only [RelD] at rd
    exact un_neg pins s σ H x v Q I rx ⟨_, rd, q.ok rp rel_int⟩
  · exact q.elim
theorem isNon_ok {d : D} {x : V} (h : RelD G ρ H d x) (nc : ∀ n, d ≠ .cls n) : isNon d = decide (x = .non) := by
  cases d with
  | non => simp only [RelD] at h; subst h; rfl
  | bl b => simp only [RelD] at h; subst h; rfl
  | int b => simp only [RelD] at h; subst h; rfl
  | str b => simp only [RelD] at h; subst h; rfl
  | tup l => simp only [RelD] at h; obtain ⟨a, xs, rfl, _⟩ := h; rfl
  | loc n => simp only [RelD] at h; obtain ⟨a, _, rfl⟩ := h; rfl
  | cls n => exact absurd rfl (nc n)
  | scr l => simp only [RelD] at h; obtain ⟨a, rfl, _⟩ := h; rfl
/-! data -/
theorem allP_dp {f : D → Option PyData} {K : PySem.W.Frag} : ∀ {l : List D} {xs : List V} {ps : List PyData}, (∀ d p v, f d = some p → RelD G ρ H d v → Dp K H v p) → allP f l = some ps → RelDs G ρ H l xs → DpAll K H xs ps
  | [], xs, ps, hf, e, h => by
    simp only [allP, Option.some.injEq] at e
    subst e
    simp only [RelDs] at h
    subst h
    exact .nil
  | d :: r, xs, ps, hf, e, h => by
    simp only [allP] at e
    split at e
    · rename_i p ps' e1 e2
      cases e
      simp only [RelDs] at h
      obtain ⟨v, ys, rfl, h1, h2⟩ := h
      exact .cons (hf d p v e1 h1) (allP_dp hf e2 h2)
    · cases e
theorem toPy_dp {S : Sto} {K : PySem.W.Frag} (kk : G.K = K) (rp : Rep G ρ S H) : ∀ (n : Nat) {d : D} {p : PyData} {v : V}, toPy S n d = some p → RelD G ρ H d v → Dp K H v p
  | 0, d, p, v, e, h => by simp only [toPy] at e; cases e
  | n + 1, d, p, v, e, h => by
    cases d with
    | non => simp only [toPy, Option.some.injEq] at e; subst e; simp only [RelD] at h; subst h; exact .non
    | bl b => simp only [toPy, Option.some.injEq] at e; subst e; simp only [RelD] at h; subst h; exact .bl b
    | int b => simp only [toPy, Option.some.injEq] at e; subst e; simp only [RelD] at h; subst h; exact .int b
    | str b => simp only [toPy, Option.some.injEq] at e; subst e; simp only [RelD] at h; subst h; exact .str _
    | tup l =>
      simp only [toPy, Option.map_eq_some_iff] at e
      obtain ⟨ps, e1, rfl⟩ := e
      simp only [RelD] at h
      obtain ⟨a, xs, rfl, hq, ht⟩ := h
      exact .tup (by rw [← kk]; exact hq) (allP_dp (fun d p v e h => toPy_dp kk rp n e h) e1 ht)
    | loc k =>
      simp only [toPy] at e
      split at e
      · rename_i l el
        simp only [Option.map_eq_some_iff] at e
        obtain ⟨ps, e1, rfl⟩ := e
        obtain ⟨a, xs, rfl, _, hH, ht⟩ := rp.list el h
        exact .lst (.inl (.inl hH)) (allP_dp (fun d p v e h => toPy_dp kk rp n e h) e1 ht)
      · cases e
    | cls c => simp only [toPy] at e; cases e
    | scr l => simp only [toPy] at e; cases e
theorem eqDat_ok {S : Sto} {d e : D} {x y : V} {b : Bool} {K : PySem.W.Frag} (kk : G.K = K) (rp : Rep G ρ S H) (h : eqDat S d e = some b) (hd : RelD G ρ H d x) (he : RelD G ρ H e y) : ∃ p q, Dp K H x p ∧ Dp K H y q ∧ SeqAt.shaped p = true ∧ SeqAt.shaped q = true ∧ PyData.eqv p q = b := by
  unfold eqDat at h
  split at h
  · rename_i p q e1 e2
    split at h
    · rename_i hs
      cases h
      simp only [Bool.and_eq_true] at hs
      exact ⟨p, q, toPy_dp kk rp 12 e1 hd, toPy_dp kk rp 12 e2 he, hs.1, hs.2, rfl⟩
    · cases h
  · cases h
theorem om_eq (hu : X.A.units + 64 < cLine) : OpM G X (compareOp .Eq) cEq := .of (op_eqD hu) fun kk ρ H S x y d e Q W rp rd re q => by
  unfold cEq at q
  split at q
  · rename_i b eb
    obtain ⟨p, r, h1, h2, h3, h4, h5⟩ := eqDat_ok kk rp eb rd re
    exact ⟨p, r, h1, h2, h3, h4, by rw [h5]; exact q.ok rp rel_bl⟩
  · exact q.elim
theorem om_ne (hu : X.A.units + 64 < cLine) : OpM G X (compareOp .NotEq) cNe := .of (op_neD hu) fun kk ρ H S x y d e Q W rp rd re q => by
  unfold cNe at q
  split at q
  · rename_i b eb
    obtain ⟨p, r, h1, h2, h3, h4, h5⟩ := eqDat_ok kk rp eb rd re
    exact ⟨p, r, h1, h2, h3, h4, by rw [h5]; exact q.ok rp rel_bl⟩
  · exact q.elim
end
end Y

/-! Y7: subscripts, methods of lists, built-in functions, defs. -/
namespace Y
open PySem PySem.Spec PyProof.Rows L2
/-! ### mirrors -/
def ixD : D → D → Sto → Res D
  | .loc n, .int i, S => (match S.get n with
    | some (.lst l) => (match atI l i with
      | some d => .ok d S
      | none => .stuck)
    | _ => .stuck)
  | .tup l, .int i, S => (match atI l i with
    | some d => .ok d S
    | none => .stuck)
  | .str l, .int i, S => if l.length ≤ 16777216 then (match atI l i with
    | some c => .ok (.str [c]) S
    | none => .stuck) else .stuck
  | .scr l, .int i, S => (match atI l i with
    | some c => .ok (.int c) S
    | none => .stuck)
  | _, _, _ => .stuck
def stL (o i v : D) (S : Sto) : Option Sto := match o, i with
  | .loc n, .int k => (match S.get n with
    | some (.lst l) => (match ixN l.length k with
      | some j => some (S.set n (.lst (l.set j v)))
      | none => none)
    | _ => none)
  | _, _ => none
def sStL (o i v : ME) : MS := fun sd S => bindS (v sd S) sd fun d S1 => bindS (o sd S1) sd fun od S2 => bindS (i sd S2) sd fun id S3 => match stL od id d S3 with
  | some S4 => .nx sd S4
  | none => .stuck
def fAppend (o : D) (as : List D) (S : Sto) : Res D := match o, as with
  | .loc n, [d] => (match S.get n with
    | some (.lst l) => if l.length < 16777216 then .ok .non (S.set n (.lst (l ++ [d]))) else .stuck
    | _ => .stuck)
  | _, _ => .stuck
/-- a method of a built-in type: tyc tells the type, f the method -/
def isLst (d : D) (S : Sto) : Bool := match d with
  | .loc n => (match S.get n with
    | some (.lst _) => true
    | _ => false)
  | _ => false
def mMeth (tc : D → Sto → Bool) (f : D → List D → Sto → Res D) (o : ME) (a : MA) : ME := fun sd S => (o sd S).bind fun od S1 => if tc od S1 then (a sd S1).bind fun as S2 => f od as S2 else .stuck
def fLen : MF
  | [.tup l], S => .ok (.int l.length) S
  | [.str l], S => if l.length ≤ 16777216 then .ok (.int l.length) S else .stuck
  | [.scr l], S => .ok (.int l.length) S
  | [.loc n], S => (match S.get n with
    | some (.lst l) => .ok (.int l.length) S
    | _ => .stuck)
  | _, _ => .stuck
def fAbs : MF
  | [.int i], S => .ok (.int (if i < 0 then -i else i)) S
  | _, _ => .stuck
def fMax2 : MF
  | [.int i, .int j], S => .ok (.int (if j > i then j else i)) S
  | _, _ => .stuck
def fMin2 : MF
  | [.int i, .int j], S => .ok (.int (if j < i then j else i)) S
  | _, _ => .stuck
def fInt : MF
  | [.int i], S => .ok (.int i) S
  | [.bl b], S => .ok (.int (if b then 1 else 0)) S
  | _, _ => .stuck
def fTuple : MF
  | [.tup l], S => .ok (.tup l) S
  | [.loc n], S => (match S.get n with
    | some (.lst l) => .ok (.tup l) S
    | _ => .stuck)
  | _, _ => .stuck
def fList : MF
  | [.tup l], S => .ok (.loc S.n) (S.new (.lst l))
  | [.loc n], S => (match S.get n with
    | some (.lst l) => .ok (.loc S.n) (S.new (.lst l))
    | _ => .stuck)
  | _, _ => .stuck
def bools : List D → Option (List Bool)
  | [] => some []
  | .bl b :: r => (bools r).map (b :: ·)
  | _ => none
def intsD : List D → Option (List Int)
  | [] => some []
  | .int b :: r => (intsD r).map (b :: ·)
  | _ => none
def fAll : MF
  | [.loc n], S => (match S.get n with
    | some (.lst l) => (match bools l with
      | some bs => .ok (.bl (bs.all id)) S
      | none => .stuck)
    | _ => .stuck)
  | _, _ => .stuck
def fAny : MF
  | [.loc n], S => (match S.get n with
    | some (.lst l) => (match bools l with
      | some bs => .ok (.bl (bs.any id)) S
      | none => .stuck)
    | _ => .stuck)
  | _, _ => .stuck
def fSum : MF
  | [.loc n], S => (match S.get n with
    | some (.lst l) => (match intsD l with
      | some ns => .ok (.int ns.sum) S
      | none => .stuck)
    | _ => .stuck)
  | _, _ => .stuck
/-- numbers of built-in classes -/
def tyD (d : D) (S : Sto) : Option Nat := match d with
  | .non => some 6
  | .bl _ => some 1
  | .int _ => some 0
  | .str _ => some 2
  | .tup _ => some 3
  | .scr _ => some 4
  | .loc n => (match S.get n with
    | some (.lst _) => some 4
    | some (.dct 0 _) => some 5
    | some (.dct (_ + 1) l) => if isK l then some 5 else none
    | some (.ins c _) => some c
    | _ => none)
  | .cls _ => none
def fIsI (kit : Nat → Nat → Option Bool) : MF
  | [d, .cls c], S => (match tyD d S with
    | some t => (match kit t c with
      | some b => .ok (.bl b) S
      | none => .stuck)
    | none => .stuck)
  | _, _ => .stuck
def btn : Nat → Option String
  | 0 => some "int"
  | 1 => some "bool"
  | 2 => some "str"
  | 3 => some "tuple"
  | 4 => some "list"
  | 5 => some "dict"
  | 6 => some "NoneType"
  | _ => none
section
variable {G : Glo} {X : Cx} {ρ : Rho} {H : Hp}
theorem atI_rel {l : List D} {xs : List V} {i : Int} {d : D} (h : RelDs G ρ H l xs) (e : atI l i = some d) : ∃ v, atI xs i = some v ∧ RelD G ρ H d v := by
  unfold atI at e ⊢
  rw [← h.length]
  cases hx : ixN l.length i with
  | none => rw [hx] at e; simp at e
  | some j =>
    rw [hx] at e
    simp only [Option.bind_some] at e ⊢
    exact h.get e
theorem pm_ix {a b : Expr} {ma mb : ME} {pos : Pos} (ha : PEm G X a ma) (hb : PEm G X b mb) (hs : PlainIx b := by exact fun _ _ => rfl) : PEm G X (.Subscript a b pos) (mBin ixD ma mb) := fun W ok => PE_imp (pe_ix ix_seq (ha W ok) (hb W ok) hs) fun σ H Q h => te_bin (R := fun x y H2 => rIx X.K x y H2 Q) h fun ρ H2 S d e x y rp rd re q => by
  unfold ixD at q
  split at q
  · rename_i n i
    simp only [RelD] at re
    split at q
    · rename_i l el
      split at q
      · rename_i d' ed
        obtain ⟨p, xs, rfl, e1, hH, ht⟩ := rp.list el rd
        obtain ⟨v, ev, rv⟩ := atI_rel ht ed
        exact .inl ⟨p, xs, i, v, rfl, re, .inl (.inl hH), ev, q.ok rp rv⟩
      · exact q.elim
    · exact q.elim
  · rename_i l i
    simp only [RelD] at re rd
    obtain ⟨p, xs, rfl, hq, ht⟩ := rd
    split at q
    · rename_i d' ed
      obtain ⟨v, ev, rv⟩ := atI_rel ht ed
      exact .inr (.inl ⟨p, xs, i, v, rfl, re, by rw [← ok.kk]; exact hq, ev, q.ok rp rv⟩)
    · exact q.elim
  · rename_i l i
    simp only [RelD] at re rd
    split at q
    · rename_i hl
      split at q
      · rename_i c ec
        refine .inr (.inr ⟨_, i, c, rd, re, by rw [str_len, sizeLine_eq]; exact hl, ?_, ?_⟩)
        · show atI l.toArray.toList i = some c
          rw [List.toList_toArray]
          exact ec
        · exact q.ok rp rel_str
      · exact q.elim
    · exact q.elim
  · rename_i l i
    simp only [RelD] at re rd
    obtain ⟨p, rfl, hq⟩ := rd
    split at q
    · rename_i c ec
      have hq2 := hq.seq
      rw [ok.kk] at hq2
      refine .inl ⟨p, _, i, .int c, rfl, re, hq2, ?_, q.ok rp rel_int⟩
      unfold atI at ec ⊢
      rw [List.length_map]
      cases hx : ixN l.length i with
      | none => rw [hx] at ec; simp at ec
      | some j =>
        rw [hx] at ec
        simp only [Option.bind_some] at ec ⊢
        rw [List.getElem?_map, ec]
        rfl
    · exact q.elim
  · exact q.elim
/-- o[i] = e on a list -/
theorem ps_stL {o i e : Expr} {mo mi me : ME} {pos spos : Pos} (ho : PEm G X o mo) (hi : PEm G X i mi) (he : PEm G X e me)
    (hs : swapsWithSole [.Subscript o i spos] e pos.line X.env = pure false := by rfl) (hw : swappedStores [.Subscript o i spos] e X.env = pure none := by rfl)
    (h1 : (assignEach [.Subscript o i spos] X.env).map (·.2) = [assign (.Subscript o i spos) X.env] := by rfl)
    (ha : ∀ v, assign (.Subscript o i spos) X.env v = (do
      let ov ← holding [v] (eval o X.env)
      let iv ← holding [v, ov] (eval i X.env)
      standAt spos
      holding [v, ov, iv] (setItem ov iv v)
      release [v, ov, iv] []) := by intro _; rfl) : PSm G X (.Assign [.Subscript o i spos] e pos) (sStL mo mi me) := fun W ok =>
  PS_imp (ps_asg (he W ok) (pg_sub (ho W ok) (hi W ok) set_list ha) hs hw h1) fun E σ H ⟨sd, S, ρ, hs, hr, h⟩ =>
  ⟨sd, S, ρ, hs, hr, AftS.bind h hs fun ρ1 H1 v d S1 le1 r1 rd h1 => ⟨sd, S1, ρ1, hs.mono le1, r1, AftS.bind h1 (hs.mono le1) fun ρ2 H2 ov od S2 le2 r2 rod h2 =>
    ⟨sd, S2, ρ2, (hs.mono le1).mono le2, r2, AftS.bind h2 ((hs.mono le1).mono le2) fun ρ3 H3 iv id S3 le3 r3 rid h3 => by
      split at h3
      · rename_i S4 e4
        unfold stL at e4
        split at e4
        · rename_i n k
          split at e4
          · rename_i l el
            split at e4
            · rename_i j ej
              cases e4
              obtain ⟨p, xs, rfl, e5, hH, ht⟩ := r3.list el (rod.mono le3)
              simp only [RelD] at rid
              have w : Wr1 (H3 p) := by rw [hH]; exact trivial
              have lw := Le.upd (G := G) (ρ := ρ3) (o := .lst (xs.set j v)) w.wr
              refine ⟨p, xs, k, j, rfl, rid, hH, by rw [← ht.length]; exact ej, h3 ρ3 _ σ lw (r3.set (c' := .lst (l.set j d)) el e5 w ⟨_, upd_same, ?_⟩) ((((hs.mono le1).mono le2).mono le3).mono lw)⟩
              exact (ht.mono lw).set ((((rd.mono le2).mono le3).mono lw)) j
            · cases e4
          · cases e4
        · cases e4
      · exact h3.elim⟩⟩⟩
theorem pm_append {o e : Expr} {mo me : ME} {apos cpos : Pos} (ho : PEm G X o mo) (he : PEm G X e me)
    (hbase : attributeBase o "append" X.env (eval o X.env) = eval o X.env := by rfl)
    (hfew : ((backTo cpos (starEach [e] X.env)).all (fun x => !x.1) && (backToKw cpos (keywordEach [] X.env)).all (fun x => x.1.isSome)
      && decide (([e] : List Expr).length + ([] : List Keyword).length + (if ([] : List Keyword).isEmpty then 0 else 1) < 30)) = true := by rfl)
    (hline : (apos.endLine == cpos.line) = true := by rfl) (hs : starEach [e] X.env = (false, eval e X.env) :: starEach [] X.env := by rfl) (hplain : (backTo cpos (starEach [] X.env)).any (·.1) = false := by rfl) :
    PEm G X (.Call (.Attribute o "append" apos) [e] [] cpos) (mMeth isLst fAppend mo (mCons me mNil)) := fun W ok =>
  PE_imp (pe_bm PySem.F.plainAttrs_list PySem.F.slot_list_append PySem.F.type_list_append mt_append (ho W ok) (pa_consm he pa_nilm hs W ok) hbase hfew hline hs hplain) fun σ H Q ⟨sd, S, ρ, hs, hr, h⟩ =>
  ⟨sd, S, ρ, hs, hr, Aft.bind h fun ρ1 H1 v d S1 le1 r1 rd h1 => by
    split at h1
    · rename_i ht
      unfold isLst at ht
      split at ht
      · rename_i n
        split at ht
        · rename_i l el
          obtain ⟨p, xs, rfl, e5, hH, htl⟩ := r1.list el rd
          refine ⟨.inl ⟨rfl, xs, .inl (.inl hH)⟩, sd, S1, ρ1, hs.mono le1, r1, Aft.bind h1 fun ρ2 H2 vs ds S2 le2 r2 rds h2 => ?_⟩
          unfold fAppend at h2
          split at h2
          · rename_i n' d' en
            cases en
            simp only [RelDs] at rds
            obtain ⟨v1, _, rfl, r4, rfl⟩ := rds
            split at h2
            · rename_i l2 el2
              obtain ⟨p2, xs2, ep, e6, hH2, ht2⟩ := r2.list el2 (rd.mono le2)
              cases ep
              split at h2
              · rename_i hlen
                have w : Wr1 (H2 p) := by rw [hH2]; exact trivial
                have lw := Le.upd (G := G) (ρ := ρ2) (o := .lst (xs2 ++ [v1])) w.wr
                exact ⟨p, xs2, v1, rfl, rfl, hH2, by rw [← ht2.length, sizeLine_eq]; exact hlen, h2 ρ2 _ .non lw (r2.set (c' := .lst (l2 ++ [d'])) el2 e6 w ⟨_, upd_same, (ht2.mono lw).append (.one (r4.mono lw))⟩) rel_non⟩
              · exact h2.elim
            · exact h2.elim
          · exact h2.elim
        · cases ht
      · cases ht
    · exact h1.elim⟩
/-! ### built-in functions -/
theorem CallM.of {F : Value} {f : MF} {r : List V → Hp → VK → Prop} (h : CallR X F r) (k : G.K = X.K → ∀ (ρ : Rho) (H : Hp) (S : Sto) (xs : List V) (ds : List D) (Q : VK) (W : XK), Rep G ρ S H → RelDs G ρ H ds xs → Aft G (RelD G) ρ H (f ds S) Q W → r xs H Q) : CallM G X F f :=
  fun W ok pins s σ H ρ S xs us ds Q I r rp rd q => h pins s σ H xs us Q I r (k ok.kk ρ H S xs ds Q _ rp rd q)
theorem cm_len : CallM G X (.builtin "len") fLen := .of call_len fun kk ρ H S xs ds Q W rp rd q => by
  unfold fLen at q
  split at q
  · rename_i l
    simp only [RelDs, RelD] at rd
    obtain ⟨v, _, rfl, ⟨a, ys, rfl, hq, ht⟩, rfl⟩ := rd
    exact ⟨_, l.length, rfl, .inr ⟨ys, by rw [← kk]; exact hq, ht.length⟩, q.ok rp rel_int⟩
  · rename_i l
    simp only [RelDs, RelD] at rd
    obtain ⟨v, _, rfl, rfl, rfl⟩ := rd
    split at q
    · rename_i hl
      exact ⟨_, l.length, rfl, ⟨by rw [str_len, sizeLine_eq]; exact hl, (str_len l).symm⟩, q.ok rp rel_int⟩
    · exact q.elim
  · rename_i l
    simp only [RelDs, RelD] at rd
    obtain ⟨v, _, rfl, ⟨a, rfl, hq⟩, rfl⟩ := rd
    have hq2 := hq.seq
    rw [kk] at hq2
    exact ⟨_, l.length, rfl, .inl ⟨_, hq2, by simp⟩, q.ok rp rel_int⟩
  · rename_i n
    simp only [RelDs] at rd
    obtain ⟨v, _, rfl, rd, rfl⟩ := rd
    split at q
    · rename_i l el
      obtain ⟨p, ys, rfl, e5, hH, ht⟩ := rp.list el rd
      exact ⟨_, l.length, rfl, .inl ⟨ys, .inl (.inl hH), ht.length⟩, q.ok rp rel_int⟩
    · exact q.elim
  · exact q.elim
theorem cm_abs : CallM G X (.builtin "abs") fAbs := .of call_abs fun kk ρ H S xs ds Q W rp rd q => by
  unfold fAbs at q
  split at q
  · simp only [RelDs, RelD] at rd
    obtain ⟨_, _, rfl, rfl, rfl⟩ := rd
    exact ⟨_, rfl, q.ok rp rel_int⟩
  · exact q.elim
theorem cm_max2 (hc : X.calm = true) : CallM G X (.builtin "max") fMax2 := .of (call_max2 hc) fun kk ρ H S xs ds Q W rp rd q => by
  unfold fMax2 at q
  split at q
  · simp only [RelDs, RelD] at rd
    obtain ⟨_, _, rfl, rfl, _, _, rfl, rfl, rfl⟩ := rd
    exact ⟨_, _, rfl, q.ok rp rel_int⟩
  · exact q.elim
theorem cm_min2 (hc : X.calm = true) : CallM G X (.builtin "min") fMin2 := .of (call_min2 hc) fun kk ρ H S xs ds Q W rp rd q => by
  unfold fMin2 at q
  split at q
  · simp only [RelDs, RelD] at rd
    obtain ⟨_, _, rfl, rfl, _, _, rfl, rfl, rfl⟩ := rd
    exact ⟨_, _, rfl, q.ok rp rel_int⟩
  · exact q.elim
theorem cm_int : CallM G X (.type "int") fInt := .of call_int1 fun kk ρ H S xs ds Q W rp rd q => by
  unfold fInt at q
  split at q
  · simp only [RelDs, RelD] at rd
    obtain ⟨_, _, rfl, rfl, rfl⟩ := rd
    exact .inl ⟨_, rfl, q.ok rp rel_int⟩
  · simp only [RelDs, RelD] at rd
    obtain ⟨_, _, rfl, rfl, rfl⟩ := rd
    exact .inr ⟨_, rfl, q.ok rp rel_int⟩
  · exact q.elim
theorem cm_tuple : CallM G X (.type "tuple") fTuple := .of call_tuple_of fun kk ρ H S xs ds Q W rp rd q => by
  unfold fTuple at q
  split at q
  · rename_i l
    simp only [RelDs, RelD] at rd
    obtain ⟨_, _, rfl, ⟨a, ys, rfl, hq, ht⟩, rfl⟩ := rd
    exact ⟨a, ys, rfl, .inr ⟨by rw [← kk]; exact hq, q.ok rp (RelD.tup' hq ht)⟩⟩
  · rename_i n
    simp only [RelDs] at rd
    obtain ⟨v, _, rfl, rd, rfl⟩ := rd
    split at q
    · rename_i l el
      obtain ⟨p, ys, rfl, e5, hH, ht⟩ := rp.list el rd
      refine ⟨p, ys, rfl, .inl ⟨.inl (.inl hH), fun z hz => ?_⟩⟩
      have sm := same_new (o := .tup ys) hz
      exact q ρ _ _ (Le.same sm) (rp.same sm) (RelD.tup' (.inl (.inl upd_same)) (ht.mono (Le.same sm)))
    · exact q.elim
  · exact q.elim
theorem cm_list : CallM G X (.type "list") fList := .of call_list_of fun kk ρ H S xs ds Q W rp rd q => by
  have nw : ∀ {l : List D} {ys : List V} (z : Addr), H z = none → RelDs G ρ H l ys → Aft G (RelD G) ρ H (.ok (.loc S.n) (S.new (.lst l))) Q W → Q (.ref z) (upd H z (.lst ys)) := fun {l ys} z hz ht q => by
    have le : Le G ρ H (ext ρ S.n z) (upd H z (.lst ys)) := (Le.ext (rp.top _ (Nat.le_refl _))).trans (Le.same (same_new hz))
    exact q _ _ _ le (rp.new (c := .lst l) hz ⟨_, upd_same, ht.mono le⟩) (RelD.loc' ext_same)
  unfold fList at q
  split at q
  · rename_i l
    simp only [RelDs, RelD] at rd
    obtain ⟨_, _, rfl, ⟨a, ys, rfl, hq, ht⟩, rfl⟩ := rd
    exact ⟨a, ys, rfl, .inr (by rw [← kk]; exact hq), fun z hz => nw z hz ht q⟩
  · rename_i n
    simp only [RelDs] at rd
    obtain ⟨v, _, rfl, rd, rfl⟩ := rd
    split at q
    · rename_i l el
      obtain ⟨p, ys, rfl, e5, hH, ht⟩ := rp.list el rd
      exact ⟨p, ys, rfl, .inl (.inl (.inl hH)), fun z hz => nw z hz ht q⟩
    · exact q.elim
  · exact q.elim
theorem bools_rel : ∀ {l : List D} {bs : List Bool} {xs : List V}, bools l = some bs → RelDs G ρ H l xs → xs = bs.map V.bl
  | [], bs, xs, e, h => by
    simp only [bools, Option.some.injEq] at e
    subst e
    simp only [RelDs] at h
    exact h
  | d :: r, bs, xs, e, h => by
    cases d with
    | bl b =>
      simp only [bools, Option.map_eq_some_iff] at e
      obtain ⟨bs', e1, rfl⟩ := e
      simp only [RelDs, RelD] at h
      obtain ⟨v, ys, rfl, rfl, h2⟩ := h
      rw [bools_rel e1 h2]
      rfl
    | _ => simp only [bools] at e; cases e
theorem ints_rel : ∀ {l : List D} {bs : List Int} {xs : List V}, intsD l = some bs → RelDs G ρ H l xs → xs = bs.map V.int
  | [], bs, xs, e, h => by
    simp only [intsD, Option.some.injEq] at e
    subst e
    simp only [RelDs] at h
    exact h
  | d :: r, bs, xs, e, h => by
    cases d with
    | int b =>
      simp only [intsD, Option.map_eq_some_iff] at e
      obtain ⟨bs', e1, rfl⟩ := e
      simp only [RelDs, RelD] at h
      obtain ⟨v, ys, rfl, rfl, h2⟩ := h
      rw [ints_rel e1 h2]
      rfl
    | _ => simp only [intsD] at e; cases e
theorem cm_all (hc : X.calm = true) : CallM G X (.builtin "all") fAll := .of (cr_all hc) fun kk ρ H S xs ds Q W rp rd q => by
  unfold fAll at q
  split at q
  · rename_i n
    simp only [RelDs] at rd
    obtain ⟨v, _, rfl, rd, rfl⟩ := rd
    split at q
    · rename_i l el
      split at q
      · rename_i bs eb
        obtain ⟨p, ys, rfl, e5, hH, ht⟩ := rp.list el rd
        exact ⟨p, bs, rfl, .inl (.inl (by rw [hH, bools_rel eb ht])), q.ok rp rel_bl⟩
      · exact q.elim
    · exact q.elim
  · exact q.elim
theorem cm_any (hc : X.calm = true) : CallM G X (.builtin "any") fAny := .of (cr_any hc) fun kk ρ H S xs ds Q W rp rd q => by
  unfold fAny at q
  split at q
  · rename_i n
    simp only [RelDs] at rd
    obtain ⟨v, _, rfl, rd, rfl⟩ := rd
    split at q
    · rename_i l el
      split at q
      · rename_i bs eb
        obtain ⟨p, ys, rfl, e5, hH, ht⟩ := rp.list el rd
        exact ⟨p, bs, rfl, .inl (.inl (by rw [hH, bools_rel eb ht])), q.ok rp rel_bl⟩
      · exact q.elim
    · exact q.elim
  · exact q.elim
theorem cm_sum (hc : X.calm = true) : CallM G X (.builtin "sum") fSum := .of (cr_sum hc) fun kk ρ H S xs ds Q W rp rd q => by
  unfold fSum at q
  split at q
  · rename_i n
    simp only [RelDs] at rd
    obtain ⟨v, _, rfl, rd, rfl⟩ := rd
    split at q
    · rename_i l el
      split at q
      · rename_i bs eb
        obtain ⟨p, ys, rfl, e5, hH, ht⟩ := rp.list el rd
        exact ⟨p, bs, rfl, .inl (.inl (by rw [hH, ints_rel eb ht])), q.ok rp rel_int⟩
      · exact q.elim
    · exact q.elim
  · exact q.elim

/-! ### defs -/
def spM (G : Glo) (m : MF) : Sp := fun vs H Q E => ∃ ds S ρ, RelDs G ρ H ds vs ∧ Rep G ρ S H ∧ Aft G (RelD G) ρ H (m ds S) Q E
abbrev FnM (G : Glo) (P : Program) (w : World) (mg : Str → Option Value) (base : Heap) (k : Nat) (f : Addr) (m : MF) : Prop := FnR P w G.K mg base (L2.CX P w) k f (spM G m)
theorem cm_fn {g : Addr} {m : MF} {k : Nat} (F : FnM G X.prog X.w X.mg X.base k g m) (hr : Room k X.A) : CallM G X (.ref g) m := fun W ok pins s σ H ρ S xs us ds Q I r rp rd q => by
  have F' : FnR X.prog X.w X.K X.mg X.base (L2.CX X.prog X.w) k g (spM G m) := by rw [← ok.kk]; exact F
  refine wpAny_call (codeAny_mono (F' X.A X.stack s H us xs Q (fun c a H' => W c a σ H') hr I.env0 r ⟨ds, S, ρ, rd, rp, q⟩) fun r s' hq => ?_)
  cases r with
  | error e => exact ok.tk e s' (XE.of_call I (fun cls d H' h => h) hq)
  | ok fl =>
    cases fl with
    | ret u => exact I.after hq
    | next => exact False.elim hq
    | brk => exact False.elim hq
    | cont => exact False.elim hq
def stD (n : Nat) (ds : List D) : SD := ds.map some ++ List.replicate (n - ds.length) none
def SRes.res (r : SRes) : Res D := match r with
  | .rt d S1 => .ok d S1
  | .nx _ S1 => .ok .non S1
  | .ex x _ S1 => .exc x S1
  | .pick t f => .pick t fun r => (f r).res
  | _ => .stuck
def mkF (n np : Nat) (b : MS) : MF := fun ds S => if ds.length = np then (b (stD n ds) S).res else .stuck
theorem stD_rel {N : List Str} {ds : List D} {vs : List V} (h : RelDs G ρ H ds vs) : RelSt G ρ H (stD N.length ds) (L2.start N vs) := by
  refine ⟨by simp [stD, L2.start, h.length], fun i d e => ?_⟩
  unfold stD at e
  unfold L2.start
  by_cases hi : i < ds.length
  · rw [List.getElem?_append_left (by simpa using hi), List.getElem?_map] at e
    obtain ⟨d', e1, e2⟩ := Option.map_eq_some_iff.mp e
    cases e2
    obtain ⟨v, ev, rv⟩ := h.get e1
    refine ⟨v, ?_, rv⟩
    rw [List.getElem?_append_left (by simpa [← h.length] using hi), List.getElem?_map, ev]
    rfl
  · rw [List.getElem?_append_right (by simpa using Nat.le_of_not_lt hi), List.getElem?_replicate] at e
    split at e <;> cases e
/-- a def keeps to its mirror -/
theorem fn_ok {P : Program} {w : World} {mg : Str → Option Value} {base : Heap} {x qual : Str} {st : Stmt} {f : Addr} {fd : FuncData} {N ps : List Str} {k n np : Nat} {b : MS} (F : Fun G.K x qual st f fd) (Sc : FnScope N ps (defScope st)) (hn : N.length = n) (hp : ps.length = np) (hb : Binds G.K fd ps [])
    (body : ∀ (cdv : Value) (A : Around) (outer : List Env) (s : Shared) (H : Hp) (E : XK), Room k (A.deeper (envOfC qual (defScope st) s.heap.objs.size f cdv)) → PSsm G (cxOf (L2.CX P w) P w G.K mg base N qual (defScope st) f cdv A outer s H E) (defBody st) b) :
    FnM G P w mg base (k + 1) f (mkF n np b) := by
  have R := (F.okX (P := P) (w := w) (mg := mg) (base := base) (k := k) (sp := spM G (mkF n np b)) Sc (fun vs H Q E h => ?_) (fun cdv A outer s H vs Q E hr h => ?_)).raw hb Paired.nil
  · exact R.imp fun vs H Q E h => by rw [List.append_nil]; exact h
  · obtain ⟨ds, S, ρ, rd, rp, q⟩ := h
    unfold mkF at q
    split at q
    · rename_i hl
      rw [← rd.length, hl, hp]
    · exact q.elim
  · obtain ⟨ds, S, ρ, rd, rp, q⟩ := h
    refine ⟨_, body cdv A outer s H E hr (fun cls d _ H => E cls d H) ⟨takes_of rfl rfl rfl rfl, passes_of rfl, rfl⟩, stD n ds, S, ρ, by rw [← hn]; exact stD_rel rd, rp, ?_⟩
    unfold mkF at q
    split at q
    · generalize b (stD n ds) S = r at q
      induction r with
      | rt d S1 => exact q
      | nx sd1 S1 => exact fun ρ' H' σ' le r1 _ => q ρ' H' .non le r1 rel_non
      | ex x sd1 S1 => exact fun ρ' H' σ' c d le r1 _ rx => q ρ' H' c d le r1 rx
      | bk sd1 S1 => exact q.elim
      | ct sd1 S1 => exact q.elim
      | stuck => exact q.elim
      | pick t f ih => exact fun r hr => ih r (q r hr)
    · exact q.elim
end
end Y

/-! Y8: short rules for printed derivations; isinstance; is None; the dice. -/
namespace Y
open PySem PySem.Spec PyProof.Rows L2
section
variable {G : Glo} {X : Cx} {ρ : Rho} {H : Hp}
theorem pgn {i : Nat} {x : Str} {pos : Pos} (hN : X.N.Nodup) (hi : X.N[i]? = some x := by rfl) (hx : Loc X.env.scope x := by first | exact Or.inl rfl | exact Or.inr rfl)
    (hf : X.fn x = true ∨ X.env.scope.names.lookup x = some .local := by first | exact .inl rfl | exact .inr rfl) : PG X (.Name x pos) (gOf X.K (.nm i)) := pg_name hN hi hx hf
theorem pgt {es : List Expr} {k : Nat} {l : List Tg} {pos : Pos} (hc : X.calm = true) (h : PGs X es (gsOf X.K l)) (hn : (assignEach es X.env).length = l.length := by rfl) (hst : (assignEach es X.env).findIdx? (·.1) = none := by rfl) : PG X (.Tuple es k pos) (gOf X.K (.tp l)) := pg_tup hc h hn hst
theorem pgs0 : PGs X [] (gsOf X.K []) := pgs_nil
theorem pgs1 {e : Expr} {es : List Expr} {t : Tg} {l : List Tg} (h1 : PG X e (gOf X.K t)) (h2 : PGs X es (gsOf X.K l)) (he : (assignEach (e :: es) X.env).map (·.2) = assign e X.env :: (assignEach es X.env).map (·.2) := by rfl) : PGs X (e :: es) (gsOf X.K (t :: l)) := by
  first | exact pgs_cons h1 h2 he | exact pgs_cons h1 h2
/-- a constant of the module -/
theorem pm_globE {x : Str} {d : D} {pos : Pos} (hm : ∃ u v, X.mg x = some u ∧ RelV v u ∧ ∀ ρ H, RelD G ρ H d v) (hg : Gl X x := by rfl) (hd : (x == ("__debug__" : Str)) = false := by decide) : PEm G X (.Name x pos) (mC d) :=
  let ⟨_, _, h1, h2, h3⟩ := hm
  pm_glob hg h1 h2 h3 hd
/-- a built-in class as a value -/
theorem pm_bty {x : Str} {n : Nat} {T : String} {pos : Pos} (hb : G.ca n = .type T) (hm : X.mg x = none) (hv : bootBuiltins x = some (.type T)) (hg : Gl X x := by rfl) (hn : x ≠ "__name__" := by decide) (hd : (x == ("__debug__" : Str)) = false := by decide) : PEm G X (.Name x pos) (mC (.cls n)) :=
  pm_c (v := .ty T) (pe_bltn hg hm hv rfl hn hd) fun _ _ => by simp only [RelD, hb]; rfl
theorem isN_ok {d e : D} {x y : V} (h : (isNon e && !isCls d) = true) (hd : RelD G ρ H d x) (he : RelD G ρ H e y) : y = .non ∧ decide (x = .non) = isNon d := by
  simp only [Bool.and_eq_true, Bool.not_eq_true'] at h
  have nc : ∀ n, d ≠ .cls n := fun n z => by
    rw [z] at h
    exact Bool.noConfusion (show true = false from h.2)
  refine ⟨?_, (isNon_ok hd nc).symm⟩
  cases e with
  | non => simpa only [RelD] using he
  | _ => exact Bool.noConfusion (show false = true from h.1)
theorem om_is : OpM G X (compareOp .Is) cIs := .of op_isN fun kk ρ H S x y d e Q W rp rd re q => by
  unfold cIs at q
  split at q
  · rename_i h
    obtain ⟨h1, h2⟩ := isN_ok h rd re
    exact ⟨h1, by rw [h2]; exact q.ok rp rel_bl⟩
  · exact q.elim
theorem om_isnot : OpM G X (compareOp .IsNot) cIsNot := .of op_notN fun kk ρ H S x y d e Q W rp rd re q => by
  unfold cIsNot at q
  split at q
  · rename_i h
    obtain ⟨h1, h2⟩ := isN_ok h rd re
    exact ⟨h1, by rw [h2]; exact q.ok rp rel_bl⟩
  · exact q.elim
/-! ### isinstance -/
theorem tyD_ok {S : Sto} {d : D} {x : V} {t : Nat} (kk : G.K = X.K) (bt : ∀ n T, btn n = some T → G.ca n = .type T) (rp : Rep G ρ S H) (rd : RelD G ρ H d x) (h : tyD d S = some t) :
    TyX X.K H x (G.ca t) ∨ ∃ a C dx vs, x = .ref a ∧ G.ca t = .ref C ∧ SlX.Slt H a C dx vs := by
  unfold tyD at h
  split at h
  · cases h
    simp only [RelD] at rd
    subst rd
    rw [bt 6 _ rfl]
    exact .inl (.base .non)
  · cases h
    simp only [RelD] at rd
    subst rd
    rw [bt 1 _ rfl]
    exact .inl (.base (.bl _))
  · cases h
    simp only [RelD] at rd
    subst rd
    rw [bt 0 _ rfl]
    exact .inl (.base (.int _))
  · cases h
    simp only [RelD] at rd
    subst rd
    rw [bt 2 _ rfl]
    exact .inl (.base (.str _))
  · cases h
    simp only [RelD] at rd
    obtain ⟨a, xs, rfl, hq, _⟩ := rd
    rw [bt 3 _ rfl]
    rw [kk] at hq
    rcases hq with (hq | ⟨o, hq⟩) | ⟨o, its, n, e, c, _⟩
    · exact .inl (.base (.tup hq))
    · exact .inl (.fTuple hq)
    · exact .inl (.kTuple e c)
  · cases h
    simp only [RelD] at rd
    obtain ⟨a, rfl, hq⟩ := rd
    rw [bt 4 _ rfl]
    have hq := hq.seq
    rw [kk] at hq
    rcases hq with (hq | ⟨o, hq⟩) | ⟨o, its, n, e, c, _⟩
    · exact .inl (.base (.lst hq))
    · exact .inl (.base (.frz hq))
    · exact .inl (.kList e c)
  · rename_i n
    split at h
    · rename_i l el
      cases h
      obtain ⟨a, xs, rfl, _, hH, _⟩ := rp.list el rd
      rw [bt 4 _ rfl]
      exact .inl (.base (.lst hH))
    · rename_i l el
      cases h
      simp only [RelD] at rd
      obtain ⟨a, e1, rfl⟩ := rd
      obtain ⟨b, e2, c⟩ := rp.cell n _ el
      rw [e1] at e2
      cases e2
      rw [bt 5 _ rfl]
      rcases c with ⟨kvs, hd, _⟩ | ⟨_, kvs, hd, _⟩
      · exact .inl (.base (.dK hd))
      · exact .inl (.base (.dT hd))
    · rename_i lk l el
      split at h
      · rename_i hk
        cases h
        obtain ⟨a, o, kvs, rfl, _, hd⟩ := dct_k rp el hk rd
        rw [bt 5 _ rfl]
        exact .inl (.fDict hd)
      · cases h
    · rename_i c l el
      cases h
      simp only [RelD] at rd
      obtain ⟨a, e1, rfl⟩ := rd
      obtain ⟨b, e2, C, dx, vs, hC, hs, _⟩ := rp.cell n _ el
      rw [e1] at e2
      cases e2
      exact .inr ⟨a, C, dx, vs, rfl, hC, hs⟩
    · cases h
  · cases h
/-- what isinstance asks of the classes: their numbers, the table of answers, the facts of own ones -/
structure KitOk (G : Glo) (kit : Nat → Nat → Option Bool) : Prop where
  bt : ∀ n T, btn n = some T → G.ca n = .type T
  ans : ∀ t c b, kit t c = some b → PySem.W.kitOne G.K (G.ca t) (G.ca c) = some b
  cl : ∀ c b t, kit t c = some b → ∃ v, RelV v (G.ca c) ∧ ClsV v (G.ca c)
  own : ∀ t c b C, kit t c = some b → G.ca t = .ref C → SlX.SCls G.K C ∧ SlX.SIsi G.K C
theorem cls_of {v : V} {u : Value} (h : RelV v u) {v' : V} (h' : RelV v' u) (k : ClsV v' u) : ClsV v u := by rw [h.inj h']; exact k
theorem cm_isi {kit : Nat → Nat → Option Bool} (ko : KitOk G kit) : CallM G X (.builtin "isinstance") (fIsI kit) := fun W ok pins s σ H ρ S xs us ds Q I r rp rd q => by
  unfold fIsI at q
  split at q
  · rename_i d c
    simp only [RelDs] at rd
    obtain ⟨x, _, rfl, rd, y, _, rfl, re, rfl⟩ := rd
    split at q
    · rename_i t et
      split at q
      · rename_i b eb
        simp only [RelD] at re
        obtain ⟨v', rv', kv'⟩ := ko.cl c b t eb
        have k1 := ko.ans t c b eb
        rw [ok.kk] at k1
        rcases tyD_ok (X := X) ok.kk ko.bt rp rd et with ty | ⟨a, C, dx, vs, rfl, hC, hs⟩
        · exact call_isi pins s σ H _ us Q I r ⟨x, y, _, _, b, rfl, cls_of re rv' kv', ty, k1, q.ok rp rel_bl⟩
        · obtain ⟨o1, o2⟩ := ko.own t c b C eb hC
          rw [ok.kk] at o1 o2
          rw [hC] at k1
          exact SlX.call_isiSl _ pins s σ H _ us Q I r ⟨a, C, dx, vs, y, b, rfl, re, fun w hw => (cls_of re rv' kv').eq hw, hs, o1, o2, k1, q.ok rp rel_bl⟩
      · exact q.elim
    · exact q.elim
  · exact q.elim
/-! ### the dice -/
/-- what is known of a cell may be exchanged -/
theorem Rep.turn {S : Sto} {i : Nat} {c c' : Cell} {a : Addr} (r : Rep G ρ S H) (hi : S.get i = some c) (ha : ρ i = some a) (q : CellOk G ρ H a c') : Rep G ρ (S.set i c') H := by
  refine ⟨fun j c2 e => ?_, r.inj, fun j hj => r.top j (by rw [Sto.set_n] at hj; exact hj), r.dom⟩
  by_cases h : j = i
  · rw [h, Sto.get_set_self hi] at e
    cases e
    exact ⟨a, by rw [h]; exact ha, q⟩
  · rw [Sto.get_set_ne h] at e
    exact r.cell j c2 e
theorem Sto.set_set {S : Sto} {i : Nat} {x y : Cell} : (S.set i x).set i y = S.set i y := by
  unfold Sto.set
  split
  · rename_i h
    simp only [h, if_true, List.set_set]
  · rfl
theorem Sto.set_get {S : Sto} {i : Nat} {x : Cell} (h : S.get i = some x) : S.set i x = S := by
  have hl := Sto.get_lt h
  unfold Sto.get at h
  rw [if_pos hl] at h
  unfold Sto.set
  rw [if_pos hl]
  obtain ⟨h1, h2⟩ := List.getElem?_eq_some_iff.mp h
  cases S with
  | mk n c =>
    simp only at h1 h2 ⊢
    congr 1
    rw [← h2]
    exact List.set_getElem_self h1
def dcell (x y z : Int) : Cell := .lst [.int x, .int y, .int z]
theorem Rep.undice {S : Sto} {i : Nat} (r : Rep G ρ S H) (hi : S.get i = some .dice) : ∃ x y z, Rep G ρ (S.set i (dcell x y z)) H := by
  obtain ⟨a, e, x, y, z, h⟩ := r.cell i _ hi
  exact ⟨x, y, z, r.turn hi e ⟨_, h, .cons rel_int (.cons rel_int (.one rel_int))⟩⟩
theorem Rep.dice {S : Sto} {i : Nat} {x y z : Int} (r : Rep G ρ S H) (hi : S.get i = some (dcell x y z)) : Rep G ρ (S.set i .dice) H := by
  obtain ⟨a, e, xs, h, t⟩ := r.cell i _ hi
  refine r.turn hi e ⟨x, y, z, ?_⟩
  simp only [RelDs, RelD] at t
  obtain ⟨_, _, rfl, rfl, _, _, rfl, rfl, _, _, rfl, rfl, rfl⟩ := t
  exact h
def mRoll : MF
  | [.loc d, .int t], S => (match S.get d with
    | some .dice => if 0 < t ∧ t.natAbs.log2 < 9000 then .pick t.toNat fun r => .ok (.int r) S else .stuck
    | _ => .stuck)
  | _, _ => .stuck
def mDice : MF
  | [.scr _, .int k], S => if 0 ≤ k ∧ k < 1000000 then .ok (.loc S.n) (S.new .dice) else .stuck
  | _, _ => .stuck
theorem fn_roll {P : Program} {w : World} {mg : Str → Option Value} {base : Heap} {k : Nat} {f : Addr} {m : MF} (F : FnM G P w mg base k f m)
    (run : ∀ (S : Sto) (d : Nat) (t x y z : Int), S.get d = some (dcell x y z) → 0 < t → t.natAbs.log2 < 9000 → ∃ r x' y' z', 0 ≤ r ∧ r < t ∧ m [.loc d, .int t] S = .ok (.int r) (S.set d (dcell x' y' z'))) : FnM G P w mg base k f mRoll := F.imp fun vs H Q E h => by
  obtain ⟨ds, S, ρ, rd, rp, q⟩ := h
  unfold mRoll at q
  split at q
  · rename_i d t
    split at q
    · rename_i ed
      split at q
      · rename_i ht
        obtain ⟨x, y, z, rp2⟩ := rp.undice ed
        have ed2 : (S.set d (dcell x y z)).get d = some (dcell x y z) := Sto.get_set_self ed
        obtain ⟨r, x', y', z', h0, h1, e⟩ := run (S.set d (dcell x y z)) d t x y z ed2 ht.1 ht.2
        refine ⟨_, _, ρ, rd, rp2, ?_⟩
        rw [e, Sto.set_set]
        intro ρ' H' v le r1 rv
        have r2 := r1.dice (Sto.get_set_self (y := dcell x' y' z') ed)
        rw [Sto.set_set, Sto.set_get ed] at r2
        refine q r.toNat (by omega) ρ' H' v le r2 ?_
        rw [Int.toNat_of_nonneg h0]
        exact rv
      · exact q.elim
    · exact q.elim
  · exact q.elim
theorem fn_dice {P : Program} {w : World} {mg : Str → Option Value} {base : Heap} {k : Nat} {f : Addr} {m : MF} (F : FnM G P w mg base k f m)
    (run : ∀ (S : Sto) (l : List Int) (i : Int), 0 ≤ i → i < 1000000 → ∃ x y z, m [.scr l, .int i] S = .ok (.loc S.n) (S.new (dcell x y z))) : FnM G P w mg base k f mDice := F.imp fun vs H Q E h => by
  obtain ⟨ds, S, ρ, rd, rp, q⟩ := h
  unfold mDice at q
  split at q
  · rename_i l i
    split at q
    · rename_i hi
      obtain ⟨x, y, z, e⟩ := run S l i hi.1 hi.2
      refine ⟨_, S, ρ, rd, rp, ?_⟩
      rw [e]
      intro ρ' H' v le r1 rv
      have r2 := r1.dice (i := S.n) (x := x) (y := y) (z := z) (by rw [Sto.get_new, if_pos rfl])
      have e2 : (S.new (dcell x y z)).set S.n .dice = S.new .dice := by
        unfold Sto.new Sto.set
        simp
      rw [e2] at r2
      exact q ρ' H' v le r2 rv
    · exact q.elim
  · exact q.elim
end
end Y

/-! Y9: defs that know that no repr runs around them; repr; the law's end. -/
namespace Y
open PySem PySem.Spec PyProof.Rows L2
/-- as FnM, where no repr runs around the call -/
def FnG (G : Glo) (P : Program) (w : World) (mg : Str → Option Value) (base : Heap) (k : Nat) (f : Addr) (m : MF) : Prop :=
  ∀ (A : Around) (outer : List Env) (s : Shared) (H : Hp) (us : List Value) (vs : List V) (Q : VK) (E : XK), Room k A → A.guards = some [] → Env0 P w G.K mg base A outer s H → Vals vs us → spM G m vs H Q E →
    codeAny (model P w) A (.call (.ref f) ⟨us, []⟩) (CR (L2.CX P w) outer P w H s Q E) s
section
variable {G : Glo} {X : Cx} {ρ : Rho} {H : Hp}
theorem FnM.g {P : Program} {w : World} {mg : Str → Option Value} {base : Heap} {k : Nat} {f : Addr} {m : MF} (F : FnM G P w mg base k f m) : FnG G P w mg base k f m := fun A outer s H us vs Q E hr _ => F A outer s H us vs Q E hr
theorem FnG.imp {P : Program} {w : World} {mg : Str → Option Value} {base : Heap} {k : Nat} {f : Addr} {m m' : MF} (F : FnG G P w mg base k f m) (h : ∀ vs H Q E, spM G m' vs H Q E → spM G m vs H Q E) : FnG G P w mg base k f m' := fun A outer s H us vs Q E hr hg e0 r hs => F A outer s H us vs Q E hr hg e0 r (h _ _ _ _ hs)
theorem cm_fnG {g : Addr} {m : MF} {k : Nat} (F : FnG G X.prog X.w X.mg X.base k g m) (hr : Room k X.A) (hg : X.A.guards = some []) : CallM G X (.ref g) m := fun W ok pins s σ H ρ S xs us ds Q I r rp rd q => by
  have e0 : Env0 X.prog X.w G.K X.mg X.base X.A X.stack s H := by rw [ok.kk]; exact I.env0
  refine wpAny_call (codeAny_mono (F X.A X.stack s H us xs Q (fun c a H' => W c a σ H') hr hg e0 r ⟨ds, S, ρ, rd, rp, q⟩) fun r s' hq => ?_)
  cases r with
  | error e => exact ok.tk e s' (XE.of_call I (fun cls d H' h => h) hq)
  | ok fl =>
    cases fl with
    | ret u => exact I.after hq
    | next => exact False.elim hq
    | brk => exact False.elim hq
    | cont => exact False.elim hq
theorem fn_okG {P : Program} {w : World} {mg : Str → Option Value} {base : Heap} {x qual : Str} {st : Stmt} {f : Addr} {fd : FuncData} {N ps : List Str} {k n np : Nat} {b : MS} (F : Fun G.K x qual st f fd) (Sc : FnScope N ps (defScope st)) (hn : N.length = n) (hp : ps.length = np) (hb : Binds G.K fd ps [])
    (body : ∀ (cdv : Value) (A : Around) (outer : List Env) (s : Shared) (H : Hp) (E : XK), Room k (A.deeper (envOfC qual (defScope st) s.heap.objs.size f cdv)) → (A.deeper (envOfC qual (defScope st) s.heap.objs.size f cdv)).guards = some [] →
      PSsm G (cxOf (L2.CX P w) P w G.K mg base N qual (defScope st) f cdv A outer s H E) (defBody st) b) :
    FnG G P w mg base (k + 1) f (mkF n np b) := by
  intro A outer s H us vs Q E hr hg e0 r h
  obtain ⟨oc, od, kV, doc, pm, an, cdv, ct, osl, rfl, lk, hcd⟩ := F.ex
  obtain ⟨ds, S, ρ, rd, rp, q⟩ := h
  unfold mkF at q
  split at q
  · rename_i hl
    have hlen : vs.length = ps.length := by rw [← rd.length, hl, hp]
    have hus : (us ++ []).length = ps.length := by rw [List.append_nil, ← r.length, hlen]
    have hbb := hb s us (e0.mod.kin.keeps fun b o e => (e0.bs b o e).1) hus
    rw [List.append_nil] at hbb
    refine LamX.run_ofS (N := N) lk hcd Sc hr e0 hbb r hlen fun hr2 => ?_
    refine ⟨_, body cdv A outer s H E hr2 hg (fun cls d _ H => E cls d H) ⟨takes_of rfl rfl rfl rfl, passes_of rfl, rfl⟩, stD n ds, S, ρ, by rw [← hn]; exact stD_rel rd, rp, ?_⟩
    generalize b (stD n ds) S = r at q
    induction r with
    | rt d S1 => exact q
    | nx sd1 S1 => exact fun ρ' H' σ' le r1 _ => q ρ' H' .non le r1 rel_non
    | ex x sd1 S1 => exact fun ρ' H' σ' c d le r1 _ rx => q ρ' H' c d le r1 rx
    | bk sd1 S1 => exact q.elim
    | ct sd1 S1 => exact q.elim
    | stuck => exact q.elim
    | pick t f ih => exact fun r hr => ih r (q r hr)
  · exact q.elim

/-! ### repr -/
def isDct0 (d : D) (S : Sto) : Bool := match d with
  | .loc k => (match S.get k with
    | some (.dct 0 []) => true
    | _ => false)
  | _ => false
def fRepr : MF
  | [d], S => if isDct0 d S then .ok (.str [123, 125]) S else (match toPy S 12 d with
    | some p => if p.showable && decide (p.shown.length ≤ 16777216) && decide (p.depth ≤ 60) && !p.hasDict then .ok (.str p.shown.cps.toList) S else .stuck
    | none => .stuck)
  | _, _ => .stuck
theorem str_eta (x : Str) : (⟨x.cps.toList.toArray⟩ : Str) = x := by
  cases x
  simp
theorem repr_any {pins : List (Addr × Obj)} {s : Shared} {σ : L2.St} {p : PyData} {u : Value} {as : List Addr} {Q : VK} (hg : X.A.guards = some []) (hu : X.A.units + 64 < cLine) (I : Inv X pins σ H s) (r : Reads s.heap u p as) (hs : p.showable = true) (hd : p.hasDict = true → sysModules ∉ as) (hz : p.shown.length ≤ sizeLine) (h6 : p.depth ≤ 60) (q : Q (.str p.shown) H) :
    wpAny (model X.prog X.w) X.A (call (.builtin "repr") [u]) (EP X pins σ Q) X.xe s := by
  cases r with
  | none => exact PySem.P.repr_of_none ⟨.str _, H, I.tok _, ⟨_, rfl⟩, q⟩
  | bool b => exact PySem.P.repr_of_bool ⟨.str _, H, I.tok _, ⟨_, rfl⟩, q⟩
  | int i t => exact PySem.P.repr_of_int (of_decide_eq_true hs) ⟨.str _, H, I.tok _, ⟨_, rfl⟩, q⟩
  | str x t => exact PySem.P.repr_of_str ⟨.str _, H, I.tok _, ⟨_, rfl⟩, q⟩ hz
  | list h1 h2 h3 h4 => exact repr_of_reads' (Reads.list h1 h2 h3 h4) hs hd hg (by omega) (fun _ _ e => e) (fun h' t tk k => ⟨.str _, H, I.kept (t' := tk) k, ⟨_, rfl⟩, q⟩) hz
  | tuple h1 h2 h3 h4 => exact repr_of_reads' (Reads.tuple h1 h2 h3 h4) hs hd hg (by omega) (fun _ _ e => e) (fun h' t tk k => ⟨.str _, H, I.kept (t' := tk) k, ⟨_, rfl⟩, q⟩) hz
  | dict h1 h2 h3 h4 h5 => exact repr_of_reads' (Reads.dict h1 h2 h3 h4 h5) hs hd hg (by omega) (fun _ _ e => e) (fun h' t tk k => ⟨.str _, H, I.kept (t' := tk) k, ⟨_, rfl⟩, q⟩) hz
theorem cm_repr (hg : X.A.guards = some []) (hu : X.A.units + 64 < cLine) : CallM G X (.builtin "repr") fRepr := fun W ok pins s σ H ρ S xs us ds Q I r rp rd q => by
  unfold fRepr at q
  split at q
  · rename_i d
    simp only [RelDs] at rd
    obtain ⟨v, _, rfl, rd, rfl⟩ := rd
    obtain ⟨u, rfl, rv⟩ := vals1 r
    split at q
    · rename_i h0
      unfold isDct0 at h0
      split at h0
      · rename_i k
        split at h0
        · rename_i el
          simp only [RelD] at rd
          obtain ⟨a, e1, rfl⟩ := rd
          cases rv
          obtain ⟨b, e2, c⟩ := rp.cell k _ el
          rw [e1] at e2
          cases e2
          rcases c with ⟨kvs, hd, pk⟩ | ⟨hne, _⟩
          · have hd : H a = some (.dK kvs) := hd
            have ek : kvs = [] := pk
            subst ek
            obtain ⟨_, hsys, vs, kv, o, es, ep, h1, hx, hdt, _, r2, _⟩ := I.hok a _ hd
            have ev : vs = [] := by cases kv; rfl
            subst ev
            have ees : es.toList = [] := by
              have := r2.length
              simp at this
              exact List.length_eq_zero_iff.mp (by simpa using this)
            have rr : Reads s.heap (.ref a) (.dict []) (a :: [] ++ []) := .dict (kvs := []) h1 hx.1 hdt (by rw [ees]; exact .nil) (by rw [ees]; exact .nil)
            refine repr_any hg hu I rr rfl (fun _ z => ?_) (by decide +kernel) (by decide +kernel) ?_
            · have e : sysModules = a := by simpa using z
              rw [← e] at hsys
              simp at hsys
            · have e : (PyData.shown (.dict []) : Str) = ⟨[123, 125].toArray⟩ := by decide +kernel
              rw [e]
              exact q.ok rp rel_str
          · exact absurd rfl hne
        · cases h0
      · cases h0
    · split at q
      · rename_i p ep
        split at q
        · rename_i hc
          simp only [Bool.and_eq_true, decide_eq_true_eq, Bool.not_eq_true'] at hc
          obtain ⟨as, ra⟩ := Dp.reads I p v u (toPy_dp ok.kk rp 12 ep rd) rv
          refine repr_any hg hu I ra hc.1.1.1 (fun z => by rw [hc.2] at z; cases z) (by rw [sizeLine_eq]; exact hc.1.1.2) hc.1.2 ?_
          have h := q.ok rp (rel_str (x := p.shown.cps.toList))
          rw [str_eta] at h
          exact h
        · exact q.elim
      · exact q.elim
  · exact q.elim
end
end Y

/-! Ya: the law's end. -/
namespace Y
open PySem PySem.Spec PyProof.Rows L2
/-- an abstract heap that holds the script alone, or nothing -/
structure Lone (K : PySem.W.Frag) (H : Hp) (a : Addr) (o : Obj) (ns : List Int) : Prop where
  only : ∀ b u, H b = some u → b = a ∧ u = .frz o (.lst (ns.map V.int))
  apart : ∀ u, H a = some u → K.lookup a = none
  scr : ScrAt K H a ns
theorem lone_ex {K : PySem.W.Frag} {h : Heap} {a : Addr} {o : Obj} {vs : List Value} {ns : List Int} (KX : K.In h) (eo : o = { cls := .type "list", data := .seq vs.toArray }) (ha : h.get? a = some o) (rv : Vals (ns.map V.int) vs) (hl : ns.length ≤ sizeLine) : ∃ H, Lone K H a o ns := by
  cases hk : K.lookup a with
  | none =>
    refine ⟨fun b => if b = a then some (.frz o (.lst (ns.map V.int))) else none, fun b u e => ?_, fun _ _ => hk, .inl ⟨o, if_pos rfl⟩⟩
    by_cases hb : b = a
    · have e2 := (if_pos hb).symm.trans e
      cases e2
      exact ⟨hb, rfl⟩
    · have e2 := (if_neg hb).symm.trans e
      cases e2
  | some o2 =>
    have e := KX a o2 hk
    rw [ha] at e
    cases e
    refine ⟨fun _ => none, fun b u e => (by cases e), fun u e => (by cases e), .inr fun H' => .inr ⟨o, vs.toArray, 0, hk, ?_⟩⟩
    subst eo
    refine ⟨rfl, rfl, rfl, ?_, by simpa using rv⟩
    have e1 := rv.length
    rw [List.length_map] at e1
    rw [List.size_toArray, ← e1]
    exact hl
/-- the law: its call at a script of at most n numbers -/
def FnT (G : Glo) (P : Program) (w : World) (mg : Str → Option Value) (base : Heap) (k n : Nat) (f : Addr) : Prop :=
  ∀ (A : Around) (outer : List Env) (s : Shared) (H : Hp) (us : List Value) (vs : List V) (ns : List Int) (ρ : Rho), Room k A → A.guards = some [] → Env0 P w G.K mg base A outer s H → Vals vs us → ns.length ≤ n → RelDs G ρ H [.scr ns] vs → Rep G ρ ⟨0, []⟩ H →
    codeAny (model P w) A (.call (.ref f) ⟨us, []⟩) (CR (L2.CX P w) outer P w H s (fun v _ => v = .bl true) (fun _ _ _ => False)) s
theorem law_end {P : Program} {w : World} {mg mb : Str → Option Value} {G : Glo} {k n : Nat} {fa a : Addr} {s1 : Shared} {vs : List Value} {ns : List Int} (KX : G.K.In s1.heap) (hns : s1.heap.Ns mainGlobals mg) (hb : s1.heap.Ns builtinsNs mb) (hbb : ∀ x : Str, x ≠ "__name__" → mb x = bootBuiltins x)
    (hlim : s1.heap.NoLimit) (hg : s1.gens = #[]) (ha : s1.heap.get? a = some { cls := .type "list", data := .seq vs.toArray }) (hi : IntsAre vs ns) (hl : ns.length ≤ sizeLine) (hn : ns.length ≤ n) (hr : Room k callerA)
    (F : ∀ base : Heap, G.K.In base → base.Ns mainGlobals mg → FnT G P w mg base k n fa) :
    codeAny (model P w) callerA (.call (.ref fa) ⟨[.ref a], []⟩) (fun r s' => r = .ok (.ret (.bool true)) ∧ OldK s1.heap s'.heap ∧ s'.os = s1.os ∧ AllBare s'.gens) s1 := by
  have rv := vals_ints hi
  obtain ⟨H, L⟩ := lone_ex KX rfl ha rv hl
  have nodict : ∀ {b : Addr} {ob : Obj} {es : Array DictEntry} {ep : Nat}, s1.heap.get? b = some ob → ob.data = .dict es ep → H b = none := fun {b ob es ep} e d => by
    cases q : H b with
    | none => rfl
    | some u =>
      obtain ⟨rfl, _⟩ := L.only b u q
      rw [ha] at e
      cases e
      exact absurd d (by intro z; cases z)
  have ns' : ∀ {b : Addr} {mp : Str → Option Value}, s1.heap.Ns b mp → (hidT s1.heap H).Ns b mp := fun {b mp} ⟨ob, es, ep, e, d, t⟩ => ⟨ob, es, ep, hidT_get e (nodict e d), d, t⟩
  have kb : G.K.In (hidT s1.heap H) := fun b ob e => hidT_get (KX b ob e) (by
    cases q : H b with
    | none => rfl
    | some u =>
      obtain ⟨rfl, _⟩ := L.only b u q
      rw [L.apart u q] at e
      cases e)
  have hok : HOk P w H s1.heap := fun b u e => by
    obtain ⟨rfl, rfl⟩ := L.only b u e
    exact ⟨ha, by rw [List.length_map]; exact hl, vs, 0, rv, ha⟩
  have lim' : (hidT s1.heap H).NoLimit := by
    obtain ⟨mc, h1, h2⟩ := hlim
    exact ⟨mc, ns' h1, h2⟩
  have e0 : Env0 P w G.K mg (hidT s1.heap H) callerA [] s1 H :=
    ⟨rfl, ⟨kb, ns' hns, ⟨mb, ns' hb, hbb⟩, lim'⟩, fun b ob e => of_hidT e, Nat.le_of_eq (hidT_size _ _), trivial, fun b z => absurd z (by simp [frs]), hok, .of_eq hg⟩
  have rep0 : Rep G (fun _ => none) ⟨0, []⟩ H := ⟨fun i c e => (by simp [Sto.get] at e), fun i j x e => (by cases e), fun _ _ => rfl, fun i x e => (by cases e)⟩
  have args : RelDs G (fun _ => none) H [.scr ns] [.ref a] := .one (by simp only [RelD]; exact ⟨a, rfl, L.scr⟩)
  refine codeAny_mono (F _ kb (ns' hns) callerA [] s1 H [.ref a] [.ref a] ns _ hr rfl e0 (.cons rfl .nil) hn args rep0) fun r s' h => ?_
  match r, h with
  | .error e, h =>
    obtain ⟨_, _, _, _, _, _, _, _, _, _, _, _, z⟩ := h
    exact z.elim
  | .ok .next, h => exact False.elim h
  | .ok .brk, h => exact False.elim h
  | .ok .cont, h => exact False.elim h
  | .ok (.ret u), h =>
    obtain ⟨v, H', os, bare, un, hok', r', q⟩ := h
    have q' : v = .bl true := q
    subst q'
    obtain rfl : u = Value.bool true := r'
    refine ⟨rfl, OldK.of_keep fun b ob e => ?_, os, bare⟩
    cases q : H b with
    | none => exact un.keep b ob e q (by simp [frs]) (by simp)
    | some x =>
      obtain ⟨rfl, rfl⟩ := L.only b x q
      obtain ⟨e2, _⟩ := hok' b _ (un.frzs b _ _ q)
      rw [ha] at e
      cases e
      exact e2
theorem walkG {l : PySem.W.OpenLaw} {n k : Nat} {q : Program} {loose : List Str} {XP : (Str → Option Value) → Heap → Prop} {YP : World → Heap → Prop} {d : DefRec} {K : Params → PySem.W.Frag} (hn : l.most = some n) (hn2 : n ≤ sizeLine) (hdf : d.params.defaults = []) (hr : Room k callerA)
    (hY : ∀ (w : World) (h : Heap), YP w h → (K w.params).In h)
    (F : ∀ (w : World) (mg : Str → Option Value) (fa : Addr) (h : Heap), (K w.params).In h → h.Ns mainGlobals mg → XP mg h → mg d.name = some (.ref fa) → ∃ G : Glo, G.K = K w.params ∧ ∀ base : Heap, (K w.params).In base → base.Ns mainGlobals mg → FnT G l.prog w mg base k n fa) :
    PySem.W.WalkO q loose XP YP l.row.toRowW d [] (fun f vs => PySem.call f vs) :=
  Att.attach_call hn hdf fun w s0 s1 mg mb fa o pm cd doc a vs ns Gr Y ho hd hcd hmg hobj hints hlen hg => by
    have KX := hY w _ Y
    obtain ⟨G, hK, hF⟩ := F w mg fa _ KX Gr.T.g Gr.X hmg
    have KX2 : G.K.In s1.heap := by rw [hK]; exact KX
    exact law_end KX2 Gr.T.g Gr.T.b Gr.T.builtins Gr.T.nolimit hg hobj hints (Nat.le_trans hlen hn2) hlen hr (fun base h1 h2 => hF base (by rw [← hK]; exact h1) h2)
end Y

/-! Yb: exceptions that keep a field: class C(B): def __init__(self, v): super().__init__('m'); self.f = v. -/
namespace Y
open PySem PySem.Spec PyProof.Rows L2
open PySem.W (Frag ksFn excInitIn excOver findIn isFn subIn clsIn mroIn nsIn codeIn keepIn typeIn takerIn hasDictIn ks_superIn alongIn excObj excTup kxs_mw Looks KxsFacts)

/-- what is known of the built-in base -/
structure KxT (B newId i : String) (bmB : List Value) : Prop where
  fb : ExcBaseFacts B newId i bmB
  kf : KxsFacts B i
  sf : StoreFacts B bmB "object.__setattr__" "object"
theorem kxt_Value : KxT "ValueError" "ValueError.__new__" "ValueError.__init__" [.type "ValueError", .type "Exception", .type "BaseException", .type "object"] := ⟨F.excBase_ValueError, PySem.W.kxs_ValueError, F.store_ValueError⟩
theorem kxt_Index : KxT "IndexError" "IndexError.__new__" "IndexError.__init__" [.type "IndexError", .type "LookupError", .type "Exception", .type "BaseException", .type "object"] := ⟨F.excBase_IndexError, PySem.W.kxs_IndexError, F.store_IndexError⟩
theorem kxt_Runtime : KxT "RuntimeError" "RuntimeError.__new__" "RuntimeError.__init__" [.type "RuntimeError", .type "Exception", .type "BaseException", .type "object"] := ⟨F.excBase_RuntimeError, PySem.W.kxs_RuntimeError, F.store_RuntimeError⟩
theorem kxt_Overflow : KxT "OverflowError" "OverflowError.__new__" "OverflowError.__init__" [.type "OverflowError", .type "ArithmeticError", .type "Exception", .type "BaseException", .type "object"] := ⟨F.excBase_OverflowError, PySem.W.kxs_OverflowError, F.store_OverflowError⟩
theorem kxt_Arithmetic : KxT "ArithmeticError" "ArithmeticError.__new__" "ArithmeticError.__init__" [.type "ArithmeticError", .type "Exception", .type "BaseException", .type "object"] := ⟨F.excBase_ArithmeticError, PySem.W.kxs_ArithmeticError, F.store_ArithmeticError⟩

/-- what the text says of the __init__ -/
structure KxS (st : Stmt) (sn vn f : Str) : Prop where
  sh : ∃ (m : Str) (j : Nat) (p0 p1 p2 p3 p4 p5 p6 p7 p8 p9 : Pos), defBody st = [.Expr (.Call (.Attribute (.Call (.Name "super" p0) [] [] p1) "__init__" p2) [.Constant (.str m) j p3] [] p4) p5, .Assign [.Attribute (.Name sn p6) f p7] (.Name vn p8) p9] ∧
    ∀ (qual : Str) (L fI : Addr) (cdv : Value) (cc : Addr), ∃ pl : Sem Bool, eval (.Call (.Attribute (.Call (.Name "super" p0) [] [] p1) "__init__" p2) [.Constant (.str m) j p3] [] p4) (PySem.W.ksEnv qual (defScope st) L fI cdv cc) = (do
      let ov ← attributeBase (.Call (.Name "super" p0) [] [] p1) "__init__" (PySem.W.ksEnv qual (defScope st) L fI cdv cc) (eval (.Call (.Name "super" p0) [] [] p1) (PySem.W.ksEnv qual (defScope st) L fI cdv cc))
      standAt p2.atName
      let (f, first) ← holding [ov] (getMethod ov "__init__" pl)
      callWith p4 f first (backTo p4 (starEach [.Constant (.str m) j p3] (PySem.W.ksEnv qual (defScope st) L fI cdv cc))) [])
  bd : ∀ (qual : Str) (kV doc pm : Value) (an : Option Addr) (cdv ct : Value) (cc : Addr) (u v : Value), bindArgs (ksFn "__init__" qual (defArgs st) (defBody st) (defScope st) .none kV doc pm an cdv ct cc) ⟨[u, v], []⟩ = pure [(sn, u), (vn, v)]
  hd : ∃ ar : Arg, ((defArgs st).posonlyargs ++ (defArgs st).args).head? = some ar ∧ ar.arg = sn
  ks : (defScope st).names.lookup ("super" : Str) = some .globalImplicit
  kc : (defScope st).names.lookup ("__class__" : Str) = some .free
  ksn : (defScope st).names.lookup sn = some .local
  kvn : (defScope st).names.lookup vn = some .local
  cell : ∀ x ∈ (defScope st).names, x.2 ≠ .cell
  kind : (defScope st).kind = .function
  co : (defScope st).isCoroutine = false
  gen : (defScope st).isGenerator = false
  ne : (sn == vn) = false
  sw : ∀ (env : Env) (p6 p7 p8 : Pos) (l : Nat), swapsWith (.Name vn p8) (some (.Attribute (.Name sn p6) f p7)) l env = pure false
  it : ∀ (qual : Str) (L fI : Addr) (cdv : Value) (cc : Addr), interactive (PySem.W.ksEnv qual (defScope st) L fI cdv cc) = false
  db1 : (sn == ("__debug__" : Str)) = false
  db2 : (vn == ("__debug__" : Str)) = false
/-- .. and what the written part says of the class -/
structure KxC (P : Program) (K : Frag) (C : Addr) (st : Stmt) (sn vn f : Str) : Prop where
  s : KxS st sn vn f
  ex : ∃ (B newId i : String) (bmB : List Value) (fI D cc cda : Addr) (qual : Str) (kV doc pm ct oc : Value) (an od : Option Addr) (osl : Array (Option Value)),
    KxT B newId i bmB ∧ excInitIn K C bmB newId = true ∧ excOver K C bmB = true ∧ subIn K (.ref C) (.type B) = some true ∧ findIn K (.ref C) "__init__" = some (some (.ref fI)) ∧ isFn K (.ref fI) = true ∧
    K.lookup fI = some ⟨oc, od, .func (ksFn "__init__" qual (defArgs st) (defBody st) (defScope st) .none kV doc pm an (.ref cda) ct cc), osl⟩ ∧ codeIn K (.ref cda) qual = true ∧
    (∃ (ccl : Value) (cdd : Option Addr) (vs : Array Value) (ccs : Array (Option Value)) (file : Str) (tf : Tok), K.lookup cda = some ⟨ccl, cdd, .fields vs, ccs⟩ ∧ vs[2]? = some (.str file tf) ∧ ((P.main.file : Str) == file) = true) ∧
    (∃ (cl : Value) (cld : Option Addr) (csl : Array (Option Value)), K.lookup cc = some ⟨cl, cld, .cell (some (.ref D)), csl⟩) ∧ (clsIn K D).isSome = true ∧ mroIn K C (.ref D) = some true ∧ ks_superIn K C D "__init__" = some (some (.builtin i))
  top : (P.main.scope.names.lookup ("super" : Str)).isSome = false
  third : nsIn K cStatics "thirdparty.any" = some none
  sa : findIn K (.ref C) "__setattr__" = some (some (.builtin "object.__setattr__"))
  tk : takerIn K C f = some none
  hd : hasDictIn K C = true
  xf : XfC K C
  nof : findIn K (.ref C) f = some none
  tyC : typeIn K (.ref C) = some (.type "type")
  kC : keepIn K (.ref C) = true

section
variable {P : Program} {w : World} {K : Frag} {A : Around} {h : Heap} {g : Array GenState} {d : Drawn} {t : Nat} {os : OsState} {C : Addr} {st : Stmt} {sn vn f : Str} {mg mb : Str → Option Value}
theorem ldn {M : Model} {A : Around} {E : Value → Shared → Prop} {s : Shared} {env : Env} {m : Str → Option Value} {x : Str} {pos : Pos} {v : Value} {Q : Value → Shared → Prop} (hn : s.heap.Ns env.locals m) (hv : m x = some v) (h : Q v s)
    (hk : env.scope.kind = .function) (hl : env.kindOf x = some .local) (hd : (x == ("__debug__" : Str)) = false) : wpAny M A (eval (.Name x pos) env) Q E s := wpAny_Name (wpAny_loadName_local hk hl hn hv h) hd
/-- self.f = v, the first one, on an exception without a dict -/
theorem set_first {B : String} {bmB : List Value} {E : Value → Shared → Prop} {Q : Unit → Shared → Prop} {e t0 : Addr} {u : Value} (SF : StoreFacts B bmB "object.__setattr__" "object") (X : K.In h) (he : h.get? e = some (excObj C t0 none .none)) (over : excOver K C bmB = true)
    (sa : findIn K (.ref C) "__setattr__" = some (some (.builtin "object.__setattr__"))) (tk : takerIn K C f = some none) (hd : hasDictIn K C = true)
    (hq : ∀ h' tk' dx, (∀ b o, b ≠ e → h.get? b = some o → h'.get? b = some o) → h.objs.size ≤ dx → dx ≠ e → h'.get? e = some (excObj C t0 (some dx) .none) → h'.Ns1 dx (fun y => if y = f then some u else none) → Q () ⟨h', g, d, tk', os⟩) :
    wpAny (model P w) A (setAttr (.ref e) f u) Q E ⟨h, g, d, t, os⟩ := by
  have I : PySem.W.InstAt h e (excObj C t0 none .none) C none := ⟨he, rfl, rfl, trivial⟩
  have hxs : e ≠ h.objs.size := Nat.ne_of_lt (Heap.lt_size he)
  refine PySem.W.set_plain X I sa (PySem.W.osa_openX SF X I over tk fun b => ?_)
  obtain ⟨cd, hc, hh⟩ := PySem.W.any_some hd
  have hcls : Looks (model P w) h (classData C) cd := PySem.W.looks_clsIn X hc
  show wpAny _ _ (Builtin.ObjectAttr.storeInOwnDict (.ref e) (.ref C) (.str f t) f u b) _ _ _
  obtain ⟨nm, bs, mro, ns, qn, hdd, snn, sb, ab, col, del⟩ := cd
  dsimp only at hh
  subst hh
  unfold Builtin.ObjectAttr.storeInOwnDict Builtin.ObjectAttr.ownDictForStores
  repeat (first | with_reducible refine HandSPX.store_in_new ?_ ?_ | with_reducible refine wpAny_loadPart_at he ?_ | with_reducible refine hcls.at ?_ | wp_step)
  · exact ⟨_, #[], _, (Heap.get?_update_ne _ _ _ _ hxs.symm).trans (Heap.get?_push_at rfl rfl), rfl, fun e he => absurd he (by simp), fun _ => rfl⟩
  · intro h' tk' hn' hs
    have hx₁ : (h.push { cls := .type "dict", data := .dict #[] }).get? e = some (excObj C t0 none .none) := Heap.get?_push_of_some _ he
    refine hq h' tk' h.objs.size (fun b o hb ho => ?_) (Nat.le_refl _) hxs.symm ?_ hn'
    · exact (hs.2 b (Nat.ne_of_lt (Heap.lt_size ho))).trans ((Heap.get?_update_ne _ _ _ _ hb).trans (Heap.get?_push_of_some _ ho))
    · exact (hs.2 e hxs).trans (Heap.get?_update_self _ hx₁ rfl)

/-- the __init__ walked -/
theorem init_run {R : Result → Shared → Prop} {B newId i : String} {bmB : List Value} {fI D cc cda e t0 : Addr} {qual : Str} {kV doc pm ct oc u : Value} {an od : Option Addr} {osl : Array (Option Value)} (T : KxC P K C st sn vn f)
    (kt : KxT B newId i bmB) (q : excInitIn K C bmB newId = true) (over : excOver K C bmB = true) (sub : subIn K (.ref C) (.type B) = some true)
    (lk : K.lookup fI = some ⟨oc, od, .func (ksFn "__init__" qual (defArgs st) (defBody st) (defScope st) .none kV doc pm an (.ref cda) ct cc), osl⟩) (hcd : codeIn K (.ref cda) qual = true)
    (hcode : ∃ (ccl : Value) (cdd : Option Addr) (vs : Array Value) (ccs : Array (Option Value)) (file : Str) (tf : Tok), K.lookup cda = some ⟨ccl, cdd, .fields vs, ccs⟩ ∧ vs[2]? = some (.str file tf) ∧ ((P.main.file : Str) == file) = true)
    (hcell : ∃ (cl : Value) (cld : Option Addr) (csl : Array (Option Value)), K.lookup cc = some ⟨cl, cld, .cell (some (.ref D)), csl⟩) (hD : (clsIn K D).isSome = true) (hm : mroIn K C (.ref D) = some true) (hsup : ks_superIn K C D "__init__" = some (some (.builtin i)))
    (X : K.In h) (hg : h.Ns mainGlobals mg) (hgs : mg "super" = none) (hb : h.Ns builtinsNs mb) (hbb : ∀ x : Str, x ≠ "__name__" → mb x = bootBuiltins x) (hlim : h.NoLimit) (hroom : A.depth < recursionLimit)
    (he : h.get? e = some (excObj C t0 none .none)) (hKe : K.lookup e = none)
    (hq : ∀ h' t' t1 dx, (∀ b o, b ≠ e → h.get? b = some o → h'.get? b = some o) → h.objs.size ≤ dx → h'.get? e = some (excObj C t1 (some dx) .none) → h'.Ns1 dx (fun y => if y = f then some u else none) → R (.ok (.ret .none)) ⟨h', g, d, t', os⟩) :
    codeAny (model P w) A (.call (.ref fI) ⟨[.ref e, u], []⟩) R ⟨h, g, d, t, os⟩ := by
  obtain ⟨m, j, p0, p1, p2, p3, p4, p5, p6, p7, p8, p9, hbody, hev⟩ := T.s.sh
  obtain ⟨ar, har, harn⟩ := T.s.hd
  obtain ⟨ccl, cdd, vs, ccs, file, tf, hcode, hvs, hfile⟩ := hcode
  obtain ⟨cl, cld, csl, hcell⟩ := hcell
  obtain ⟨cdD, hD⟩ := Option.isSome_iff_exists.mp hD
  have nn := T.s.ne
  refine ks_codeAny_call_defAt (fd := ksFn "__init__" qual (defArgs st) (defBody st) (defScope st) .none kV doc pm an (.ref cda) ct cc) (body := defBody st) (binds := [(sn, .ref e), (vn, u)]) hroom (X _ _ lk) rfl hlim (PySem.W.codeRec_of X hcd) rfl
    (BindsTo.of_eq (T.s.bd ..)) T.s.cell (fun x hx => ?_) (fun h1 hns k1 => ?_) T.s.co T.s.gen T.s.kind
  · rcases List.mem_cons.mp hx with rfl | hx
    · exact T.s.ksn
    rcases List.mem_cons.mp hx with rfl | hx
    · exact T.s.kvn
    · cases hx
  have ls : (List.reverse [(sn, Value.ref e), (vn, u)]).lookup sn = some (.ref e) := by
    show List.lookup sn [(vn, u), (sn, Value.ref e)] = _
    simp [List.lookup, nn]
  have lv : (List.reverse [(sn, Value.ref e), (vn, u)]).lookup vn = some u := by
    show List.lookup vn [(vn, u), (sn, Value.ref e)] = _
    simp [List.lookup]
  generalize hL : (⟨h, g, d, t, os⟩ : Shared).heap.objs.size = L at hns ⊢
  have hL' : h.objs.size = L := hL
  have X1 : K.In h1 := X.keeps k1
  have he1 := k1 _ _ he
  obtain ⟨oD, hD1, hD2⟩ : ∃ oD, h1.get? D = some oD ∧ oD.data = .cls cdD := by
    unfold clsIn at hD
    split at hD
    · rename_i c d cd' sl ho
      cases hD
      exact ⟨_, X1 _ _ ho, rfl⟩
    · cases hD
  rw [hbody]
  show PySem.wpAt _ _ _ (execs _ (PySem.W.ksEnv qual (defScope st) L fI (.ref cda) cc)) _ _ ⟨h1, g, d, t + 2, os⟩
  obtain ⟨pl, hev⟩ := hev qual L fI (.ref cda) cc
  refine ks_wpAt_execs_cons (ks_wpAt_Expr_any (ks_wpAt_MethodCall (pl := pl) ?_ hev) (T.s.it ..))
  refine ks_wpAt_super_base (s := ⟨h1, g, d, t + 2, os⟩) T.s.ks T.s.kc (by decide) rfl (X1 _ _ lk) rfl har rfl (X1 _ _ hcode) rfl hvs hfile T.top ?_
  refine PySem.W.ks_loadName_global T.s.kind T.s.ks (Calls.loadGlobal_builtin (env := PySem.W.ksEnv qual (defScope st) L fI (.ref cda) cc) (hg.keeps k1) hgs (hb.keeps k1) ((hbb _ (by decide +kernel)).trans PyProof.Rows.Boot.«super») ⟨rfl, ?_⟩)
  refine wpAny_loadName_free T.s.kind T.s.kc rfl ⟨_, X1 _ _ hcell, rfl⟩ ?_
  refine wpAny_loadName_local T.s.kind (by rw [harn]; exact T.s.ksn) hns (by rw [harn]; exact ls) ?_
  refine ks_wpAny_isType_cls hD1 hD2 ⟨rfl, ?_⟩
  refine ks_wpAny_call_super hD1 hD2 he1 rfl (fun c z => by cases z) (PySem.W.looks_mroIn X1 hm) (fun h2 hso k2 => ?_)
  have X2 : K.In h2 := X1.keeps k2
  have he2 := k2 _ _ he1
  have I2 : PySem.W.InstAt h2 e (excObj C t0 none .none) C none := ⟨he2, rfl, rfl, trivial⟩
  have hI : Looks (model P w) h2 (isInstance (.ref e) (.type B)) true := I2.type.andThen (PySem.W.looks_subIn X2 sub)
  cases hc : clsIn K C with
  | none => unfold ks_superIn at hsup; rw [hc] at hsup; cases hsup
  | some cd =>
  unfold ks_superIn at hsup
  rw [hc] at hsup
  refine PySem.W.kxs_getMethod kt.kf hso (PySem.W.looks_opaque X2 T.third) (l₀ := cd.mro) (fun A Q E s k q => wpAny_bind ((PySem.W.looks_clsIn X2 hc) A _ E s k (wpAny_pure q))) rfl X2 hsup hI (PySem.W.ks_ne X2 I2 hc) (by decide) ?_
  have he3 : (h2.push (kxs_mw i e)).get? e = some (excObj C t0 none .none) := Heap.get?_push_of_some _ he2
  have hu3 : (h2.push (kxs_mw i e)).get? h2.objs.size = some (kxs_mw i e) := Heap.get?_push_at rfl rfl
  refine PySem.W.kxs_callWith (i := i) (x := e) (by rfl) ?_
  show wpAny _ _ (evalArgs _ true ((false, eval (.Constant (.str m) j p3) _) :: backTo p4 (starEach [] _)) []) _ _ _
  refine Calls.evalArgs_plain (Calls.spliced_cons (Calls.Constant_str (Calls.spliced_nil ⟨hu3, ?_⟩)))
  obtain ⟨nm, N', qn, bs, bm, hdct, snn, subs, ab, col, dd, k0, k1', k2', k3', k5, hC, hT⟩ := PySem.W.excInit_of (X2.keeps fun b o z => Heap.get?_push_of_some (kxs_mw i e) z) q
  refine wpAny_call (codeAny_of_tree ?_)
  show wpAny _ _ (callAny (.ref h2.objs.size) ⟨_, []⟩) _ _ _
  simp only [callAny]
  refine wpAny_bind (wpAny_load hu3 ?_)
  simp only [kxs_mw, show (Value.type "method-wrapper" == Value.type "method" || Value.type "method-wrapper" == Value.type "builtin_function_or_method" || Value.type "method-wrapper" == Value.type "method-wrapper") = true by decide, if_true]
  refine PySem.W.KFB.if_so (by decide) ?_
  refine wpAny_bind (PySem.W.check_bound_init kt.fb.toExcCallFacts hC he3 rfl ?_)
  refine wpAny_bind (wpAny_pure (wpAny_pure ?_))
  refine ⟨plainId_quiet kt.fb.init.plain _, codeAny_builtin kt.fb.initEntry ?_⟩
  refine PySem.W.exc_init_tree (cls := .ref C) (t0 := t0) (dv := none) (c2 := .none) (c3 := .none) (b4 := .bool false) he3 (by simp [sizeLine_eq]) fun h4 k4 he4 _ => ?_
  show PySem.wpAt _ _ _ (execs _ _) _ _ _
  have X4 : K.In h4 := fun b o z => k4 b o (fun y => by rw [y, hKe] at z; cases z) (Heap.get?_push_of_some _ (X2 b o z))
  have eL : e < L := by rw [← hL']; exact Heap.lt_size he
  have ns4 : h4.Ns L fun x => List.lookup x [(sn, Value.ref e), (vn, u)].reverse := ((hns.keeps k2).keeps fun b o z => Heap.get?_push_of_some (kxs_mw i e) z).at fun o z => k4 L o (Nat.ne_of_gt eL) z
  refine ks_wpAt_execs_cons (ks_wpAt_Assign_Attr (PySem.wpAt_of_wpAny (ldn ns4 lv (ldn ns4 ls (set_first kt.sf X4 he4 over T.sa T.tk T.hd fun h5 t5 dx k5 s5 ne5 he5 n5 => ?_) T.s.kind T.s.ksn T.s.db1) T.s.kind T.s.kvn T.s.db2)) (T.s.sw ..))
  show PySem.wpAt _ _ _ (execs [] _) _ _ _
  refine PySem.wpAt_of_wpAny (wpAny_execs_nil ?_)
  have up : ∀ b o, b ≠ e → h.get? b = some o → h4.get? b = some o := fun b o hb z => k4 b o hb (Heap.get?_push_of_some _ (k2 b o (k1 b o z)))
  refine hq h5 _ _ dx (fun b o hb z => k5 b o hb (up b o hb z)) (Nat.le_trans ?_ s5) he5 n5
  obtain ⟨oL, _, _, zL, _⟩ := ns4
  rw [hL']
  exact Nat.le_of_lt (Heap.lt_size zL)

/-- C(v): a new exception that keeps v -/
theorem call_kept {E : Value → Shared → Prop} {Q : Value → Shared → Prop} {u : Value} {k : Nat} (T : KxC P K C st sn vn f) (X : K.In h) (hg : h.Ns mainGlobals mg) (hgs : mg "super" = none) (hb : h.Ns builtinsNs mb) (hbb : ∀ x : Str, x ≠ "__name__" → mb x = bootBuiltins x) (hlim : h.NoLimit)
    (hr : Room (k + 1) A)
    (hq : ∀ h' t' a t1 dx, (∀ b o, h.get? b = some o → h'.get? b = some o) → h.get? a = none → h.get? dx = none → h'.get? a = some (excObj C t1 (some dx) .none) → h'.Ns1 dx (fun y => if y = f then some u else none) → Q (.ref a) ⟨h', g, d, t', os⟩) :
    wpAny (model P w) A (call (.ref C) [u]) Q E ⟨h, g, d, t, os⟩ := by
  obtain ⟨B, newId, i, bmB, fI, D, cc, cda, qual, kV, doc, pm, ct, oc, an, od, osl, kt, q, over, sub, iC, tI, lk, hcd, hcode, hcell, hD, hm, hsup⟩ := T.ex
  obtain ⟨nm, N', qn, bs, bm, hdct, snn, subs, ab, col, dd, k0, k1', k2', k3', k5, hC, hT⟩ := PySem.W.excInit_of X q
  obtain ⟨oI, hoI, hcI⟩ : ∃ oI, h.get? fI = some oI ∧ oI.cls = .type "function" := by
    obtain ⟨o, ho, hc⟩ := Option.map_eq_some_iff.mp (show (K.lookup fI).map (·.cls) = some (.type "function") from beq_iff_eq.mp tI)
    exact ⟨o, X _ _ ho, hc⟩
  have kk : ∀ b o, h.get? b = some o → ((h.push (PySem.W.kdv_tup [u])).push (PySem.PX.excO C h.objs.size)).get? b = some o := fun b o e => Heap.get?_push_of_some _ (Heap.get?_push_of_some _ e)
  have hget : ((h.push (PySem.W.kdv_tup [u])).push (PySem.PX.excO C h.objs.size)).get? (h.objs.size + 1) = some (PySem.PX.excO C h.objs.size) := by heap_get
  have hnew : h.get? (h.objs.size + 1) = none := Heap.get?_none_of_le (Nat.le_succ _)
  have hKe : K.lookup (h.objs.size + 1) = none := by
    cases z : K.lookup (h.objs.size + 1) with
    | none => rfl
    | some o =>
      rw [X _ _ z] at hnew
      cases hnew
  refine wpAny_call (PySem.PX.call_own kt.fb hT hC (PySem.W.looks_findIn X iC) (fun self => PySem.W.exc_bind hoI hcI self) (by simp [sizeLine_eq]) ?_)
  refine init_run T kt q over sub lk hcd hcode hcell hD hm hsup (X.keeps kk) (hg.keeps kk) hgs (hb.keeps kk) hbb (hlim.keeps kk) ?_ hget hKe fun h' t' t1 dx k2 hs he n => ?_
  · have := (hr.make C [u] []).dp
    omega
  · refine ⟨rfl, ?_⟩
    refine hq h' t' _ t1 dx (fun b o z => k2 b o (Nat.ne_of_lt (Nat.lt_succ_of_lt (Heap.lt_size z))) (kk b o z)) hnew (Heap.get?_none_of_le ?_) he n
    rw [Heap.size_push, Heap.size_push] at hs
    omega
end
end Y

/-! Yc: exceptions as values, raise. -/
namespace Y
open PySem PySem.Spec PyProof.Rows L2
open PySem.W (Frag findIn subIn clsIn mroIn specialIn takesIn keepIn typeIn)
section
variable {G : Glo} {X : Cx} {ρ : Rho} {H : Hp}
/-- an own exception class without own __init__ -/
structure KpC (K : Frag) (C : Addr) : Prop where
  ex : ∃ (B newId initId : String) (bmB : List Value), ExcBaseFacts B newId initId bmB ∧ PySem.W.excIn K C bmB newId = true
  exC : subIn K (.ref C) (.type "BaseException") = some true
  tyC : typeIn K (.ref C) = some (.type "type")
  kC : keepIn K (.ref C) = true
/-- what isinstance wants of an exception class -/
structure KiC (K : Frag) (C : Addr) : Prop where
  cl : (clsIn K C).isSome = true
  ga : findIn K (.ref C) "__getattribute__" = some (some (.builtin "BaseException.__getattribute__"))
  gt : ∃ gt, findIn K (.ref C) "__getattr__" = some gt
  sub : subIn K (.ref C) (.type "BaseException") = some true
  ca : findIn K (.ref C) "__class__" = some (some (.builtin "object.__class__"))
  sp : specialIn K (.builtin "object.__class__") "__get__" = some (some (.builtin "getset_descriptor.__get__"))
  tk : takesIn K (.builtin "object.__class__") = some true
  mo : mroIn K C (.type "object") = some true
def fExc (c : Nat) : MF
  | [_], S => .ok (.loc S.n) (S.new (.exv c []))
  | _, _ => .stuck
def fExcK (c : Nat) (f : Str) : MF
  | [d], S => .ok (.loc S.n) (S.new (.exv c [(f, d)]))
  | _, _ => .stuck
theorem cm_exc {c : Nat} {C : Addr} (hC : G.ca c = .ref C) (T : KpC G.K C) : CallM G X (.ref C) (fExc c) := fun W ok pins s σ H ρ S xs us ds Q I r rp rd q => by
  unfold fExc at q
  split at q
  · rename_i d
    simp only [RelDs] at rd
    obtain ⟨v, _, rfl, rd, rfl⟩ := rd
    obtain ⟨u, rfl, rv⟩ := vals1 r
    obtain ⟨B, newId, initId, bmB, F, qq⟩ := T.ex
    rw [ok.kk] at qq
    obtain ⟨bm, N, nm, qn, bs, hdct, sn, sub, ab, col, dd, k0, k1, k2, k3, k5, mN, hc, hN, hni, T2⟩ := exc_obj I.kIn qq
    refine wpAny_call_exc_subT F T2 hc hN hni (fun h' a hm => ?_) (by show 1 ≤ sizeLine; rw [sizeLine_eq]; omega)
    have hn : H a = none := I.hok.gone hm.new
    obtain ⟨t, ht, _, _⟩ := hm.there
    refine ⟨.ref a, upd H a (exo a C none), I.laidN hm.keeps hm.new hn (exo_ok ht), rfl, ?_⟩
    exact q (ext ρ S.n a) _ _ ((Le.ext (rp.top _ (Nat.le_refl _))).trans (Le.same (same_new hn))) (rp.new hn ⟨C, none, hC, upd_same, .inl ⟨rfl, rfl⟩⟩) (RelD.loc' ext_same)
  · exact q.elim
/-- a new exception that keeps v: as an object of ours -/
theorem run_kept {st : Stmt} {sn vn f : Str} {C : Addr} {k : Nat} {pins : List (Addr × Obj)} {s : Shared} {σ : L2.St} {v : V} {u : Value} {Q : Value → Shared → Prop} {E : Value → Shared → Prop} (T : KxC X.prog X.K C st sn vn f) (hgs : X.mg "super" = none) (hr : Room (k + 1) X.A) (I : Inv X pins σ H s) (rv : RelV v u)
    (h : ∀ a dx s' G', H a = none → H dx = none → dx ≠ a → (∃ t1, s'.heap.get? a = some (PySem.W.excObj C t1 (some dx) .none)) → G'.heap.get? a = none → (∀ b o, G'.heap.get? b = some o → s'.heap.get? b = some o) → s'.os = G'.os → s'.gens = G'.gens → AllBare s'.gens →
      Inv X pins σ (upd H dx (.xd [(f, v)])) G' → Inv X pins σ (upd (upd H dx (.xd [(f, v)])) a (exo a C (some dx))) s' → Q (.ref a) s') :
    wpAny (model X.prog X.w) X.A (call (.ref C) [u]) Q E s := by
  obtain ⟨mb, b1, b2⟩ := I.mod.blt
  obtain ⟨hp, g, d, t, os⟩ := s
  refine call_kept T I.kIn (I.mod.glob.keeps I.bk) hgs (b1.keeps I.bk) b2 (I.mod.nolimit.keeps I.bk) hr fun h' t' a t1 dx kp na nd ha hn => ?_
  have Ha : H a = none := I.hok.gone na
  have Hd : H dx = none := I.hok.gone nd
  obtain ⟨od, eD, epD, hod, hdd, hr2⟩ := id hn
  have hda : dx ≠ a := fun z => by
    rw [z, ha] at hod
    have z2 := Option.some.inj hod
    subst z2
    cases hdd
  obtain ⟨G1, g1, g2⟩ := restrict h' fun b => decide (b ≠ a)
  have gk : ∀ b, b ≠ a → G1.get? b = h'.get? b := fun b hb => g1 b (decide_eq_true hb)
  have ge : G1.get? a = none := g2 a (by simp)
  have kG : ∀ b o, hp.get? b = some o → G1.get? b = some o := fun b o z => by
    rw [gk b (fun y => by rw [y, na] at z; cases z)]
    exact kp b o z
  have gs : ∀ b o, G1.get? b = some o → h'.get? b = some o := fun b o z => by
    by_cases hb : b = a
    · rw [hb, ge] at z
      cases z
    · rw [← gk b hb]
      exact z
  have J1 : Inv X pins σ (upd H dx (.xd [(f, v)])) ⟨G1, g, d, t', os⟩ := I.laidN (t' := t') kG nd Hd ⟨_, hn.at fun o y => (gk dx hda).trans y, fun g => by
    rw [lookup_put]
    by_cases e : g = f
    · rw [if_pos e, if_pos e]
      exact rv
    · rw [if_neg e, if_neg e]
      trivial⟩
  have Ha1 : upd H dx (.xd [(f, v)]) a = none := by rw [upd_ne (Ne.symm hda)]; exact Ha
  have J2 : Inv X pins σ (upd (upd H dx (.xd [(f, v)])) a (exo a C (some dx))) ⟨h', g, d, t', os⟩ := J1.laidN (t' := t') gs ge Ha1 (exo_ok ha)
  exact h a dx ⟨h', g, d, t', os⟩ ⟨G1, g, d, t', os⟩ Ha Hd hda ⟨t1, ha⟩ ge gs rfl rfl I.bare J1 J2
theorem cm_excK {c k : Nat} {C : Addr} {st : Stmt} {sn vn f : Str} (hC : G.ca c = .ref C) (T : KxC X.prog G.K C st sn vn f) (hgs : X.mg "super" = none) (hr : Room (k + 1) X.A) : CallM G X (.ref C) (fExcK c f) := fun W ok pins s σ H ρ S xs us ds Q I r rp rd q => by
  unfold fExcK at q
  split at q
  · rename_i d
    simp only [RelDs] at rd
    obtain ⟨v, _, rfl, rd, rfl⟩ := rd
    obtain ⟨u, rfl, rv⟩ := vals1 r
    rw [ok.kk] at T
    refine run_kept T hgs hr I rv fun a dx s' G' Ha Hd hda hget _ _ _ _ _ J1 J2 => ?_
    have Ha1 : upd H dx (.xd [(f, v)]) a = none := by rw [upd_ne (Ne.symm hda)]; exact Ha
    have rp1 : Rep G ρ S (upd H dx (.xd [(f, v)])) := rp.free Hd
    refine ⟨.ref a, _, J2, rfl, ?_⟩
    have le1 : Le G ρ H ρ (upd H dx (.xd [(f, v)])) := Le.same (same_new Hd)
    have le2 : Le G ρ (upd H dx (.xd [(f, v)])) (ext ρ S.n a) (upd (upd H dx (.xd [(f, v)])) a (exo a C (some dx))) := (Le.ext (rp.top _ (Nat.le_refl _))).trans (Le.same (same_new Ha1))
    refine q (ext ρ S.n a) _ _ (le1.trans le2) (rp1.new Ha1 ⟨C, some dx, hC, upd_same, .inr ⟨dx, _, rfl, by rw [upd_ne hda, upd_same], fun g e z => ?_⟩⟩) (RelD.loc' ext_same)
    by_cases hg : g = f
    · subst hg
      have z' : d = e := by simpa [List.lookup] using z
      subst z'
      exact ⟨v, by simp [List.lookup], rd.mono (le1.trans le2)⟩
    · have : (g == f) = false := by simpa using hg
      simp [List.lookup, this] at z
  · exact q.elim
/-! ### isinstance, fields -/
def fIsE (kit kix : Nat → Nat → Option Bool) : MF
  | [.loc n, .cls c], S => (match S.get n with
    | some (.exv t _) => (match kix t c with
      | some b => .ok (.bl b) S
      | none => .stuck)
    | _ => fIsI kit [.loc n, .cls c] S)
  | ds, S => fIsI kit ds S
structure KixOk (G : Glo) (kix : Nat → Nat → Option Bool) : Prop where
  ans : ∀ t c b, kix t c = some b → PySem.W.kitOne G.K (G.ca t) (G.ca c) = some b
  cl : ∀ c b t, kix t c = some b → ∃ v, RelV v (G.ca c) ∧ ClsV v (G.ca c)
  own : ∀ t c b C, kix t c = some b → G.ca t = .ref C → KiC G.K C
theorem exv_inst {pins : List (Addr × Obj)} {s : Shared} {σ : L2.St} {S : Sto} {n c : Nat} {fs : List (Str × D)} {x : V} (I : Inv X pins σ H s) (rp : Rep G ρ S H) (rd : RelD G ρ H (.loc n) x) (e : S.get n = some (.exv c fs)) :
    ∃ a C ox od, x = .ref a ∧ G.ca c = .ref C ∧ PySem.W.InstAt s.heap a ox C od ∧ ∀ f d, fs.lookup f = some d → ∃ v u, RelD G ρ H d v ∧ RelV v u ∧ od.isSome = true ∧ ∀ o, od = some o → PySem.W.lookIn f o = some (some u) := by
  simp only [RelD] at rd
  obtain ⟨a, e1, rfl⟩ := rd
  obtain ⟨b, e2, C, d, hC, ha, hf⟩ := rp.cell n _ e
  rw [e1] at e2
  cases e2
  obtain ⟨t1, ho⟩ := exo_at I.hok ha
  rcases hf with ⟨rfl, rfl⟩ | ⟨dx, gs, rfl, hd, hl⟩
  · exact ⟨a, C, _, none, rfl, hC, ⟨ho, rfl, rfl, trivial⟩, fun f d z => by cases z⟩
  · have hx : ObjOk X.prog X.w H s.heap dx (.xd gs) := I.hok dx _ hd
    obtain ⟨mA, hns, hr⟩ := hx
    obtain ⟨od, hod, hlk⟩ := lookIn_ns hns
    refine ⟨a, C, _, some od, rfl, hC, ⟨ho, rfl, rfl, hod⟩, fun f d z => ?_⟩
    obtain ⟨v, q1, q2⟩ := hl f d z
    obtain ⟨u, hu, ru⟩ := RelO.some_of (v := v) (o := mA f) (by rw [← q1]; exact hr f)
    exact ⟨v, u, q2, ru, rfl, fun o eo => by cases eo; rw [hlk, hu]⟩
theorem cm_ise {kit kix : Nat → Nat → Option Bool} (ko : KitOk G kit) (kx : KixOk G kix) : CallM G X (.builtin "isinstance") (fIsE kit kix) := fun W ok pins s σ H ρ S xs us ds Q I r rp rd q => by
  unfold fIsE at q
  split at q
  · rename_i n c
    split at q
    · rename_i t fs et
      split at q
      · rename_i b eb
        simp only [RelDs] at rd
        obtain ⟨x, _, rfl, rd, y, _, rfl, re, rfl⟩ := rd
        obtain ⟨u1, u2, rfl, r1, r2⟩ := vals2 r
        simp only [RelD] at re
        obtain ⟨v', rv', kv'⟩ := kx.cl c b t eb
        cases (cls_of re rv' kv').eq r2
        have k1 := kx.ans t c b eb
        obtain ⟨a, C, ox, od, rfl, hC, J, _⟩ := exv_inst I rp rd et
        have o1 := kx.own t c b C eb hC
        rw [hC] at k1
        rw [ok.kk] at o1 k1
        obtain ⟨gt, hgt⟩ := o1.gt
        cases (show u1 = Value.ref a from r1)
        exact PySem.W.kia_one (PySem.W.kitx_exc o1.cl o1.ga hgt o1.sub o1.ca o1.sp o1.tk o1.mo) I.kIn J k1 (fun z => nomatch z) fun tk => ⟨.bl b, H, I.tok _, rfl, q.ok rp rel_bl⟩
      · exact q.elim
    · exact cm_isi ko W ok pins s σ H ρ S xs us _ Q I r rp rd q
  · exact cm_isi ko W ok pins s σ H ρ S xs us _ Q I r rp rd q
/-- e.f, a field of an exception -/
def fldE (c : Nat) (f : Str) : D → Sto → Res D
  | .loc n, S1 => (match S1.get n with
    | some (.exv c' fs) => (match c' == c, fs.lookup f with
      | true, some e => .ok e S1
      | _, _ => .stuck)
    | _ => .stuck)
  | _, _ => .stuck
theorem te_un {m : ME} {f : D → Sto → Res D} {W : WX} {σ : L2.St} {H : Hp} {Q : VK} (h : te G (mUn f m) W σ H Q) : te G m W σ H fun v H1 => ∃ ρ1 d S1, Rep G ρ1 S1 H1 ∧ RelD G ρ1 H1 d v ∧ Aft G (RelD G) ρ1 H1 (f d S1) Q (fun c a H' => W c a σ H') := by
  obtain ⟨sd, S, ρ, hs, hr, h⟩ := h
  exact ⟨sd, S, ρ, hs, hr, Aft.bind h fun ρ1 H1 v d S1 le r1 rd h1 => ⟨ρ1, d, S1, r1, rd, h1⟩⟩
theorem pm_fldE {e : Expr} {f : Str} {m : ME} {pos : Pos} {c : Nat} {C : Addr} (hC : G.ca c = .ref C) (T : XfC G.K C) (hno : PySem.W.findIn G.K (.ref C) f = some none) (he : PEm G X e m) (hb : attributeBase e f X.env (eval e X.env) = eval e X.env := by rfl) :
    PEm G X (.Attribute e f pos) (mUn (fldE c f) m) := fun W ok => by
  refine ⟨fun pins s σ H Q I h => ?_⟩
  refine attr_of hb (thn ((he W ok).run pins s σ H _ I (te_un h)) fun u s1 hh => ?_)
  obtain ⟨v, H1, I1, rv, ρ1, d, S1, r1, rd, h1⟩ := hh
  unfold fldE at h1
  split at h1
  · rename_i n
    split at h1
    · rename_i c' fs en
      split at h1
      · rename_i d2 ec el
        obtain ⟨a, C', ox, od, rfl, hC', J, hl⟩ := exv_inst I1 r1 rd en
        have ec' : c' = c := by simpa using ec
        rw [ec', hC] at hC'
        cases hC'
        obtain ⟨v2, u2, rd2, ru2, hsome, hlk⟩ := hl f d2 el
        cases (show u = Value.ref a from rv)
        cases od with
        | none => cases hsome
        | some o =>
          rw [ok.kk] at T hno
          exact HandSPX.exc_get I1.kIn J T.ga T.gg T.exC (PySem.W.findObj_own T.hdC hno rfl (hlk o rfl)) (handed_of ru2) ⟨v2, H1, I1.tok _, ru2, h1.ok r1 rd2⟩
      · exact h1.elim
    · exact h1.elim
  · exact h1.elim
/-! ### raise -/
def sRaiseP (c : Nat) : MS := fun sd S => .ex ⟨c, []⟩ sd S
def sRaiseK (c : Nat) (f : Str) (m : ME) : MS := fun sd S => bindS (m sd S) sd fun d S1 => .ex ⟨c, [(f, d)]⟩ sd S1
/-- raise X('m') -/
theorem ps_raiseP {x m : Str} {j c : Nat} {C : Addr} {p p2 pos pos' : Pos} (hc : X.calm = true) (hC : G.ca c = .ref C) (T : KpC G.K C) (hg : Gl X x) (gC : X.mg x = some (.ref C)) (hdb : (x == ("__debug__" : Str)) = false := by decide) :
    PSm G X (.Raise (some (.Call (.Name x p) [.Constant (.str m) j p2] [] pos)) none pos') (sRaiseP c) := fun W ok => by
  obtain ⟨B, newId, initId, bmB, F, qq⟩ := T.ex
  have e1 := T.exC
  have e2 := T.tyC
  have e3 := T.kC
  rw [ok.kk] at qq e1 e2 e3
  refine PS_imp (ps_raise hc ok.tk (pmk_own F qq gC e3 (raises_own e1 e2) hg hdb)) fun E σ H ⟨sd, S, ρ, hs, hr, h⟩ => ?_
  exact h ρ H σ _ _ Le.refl hr hs ⟨hC.symm, trivial⟩
/-- raise X(e), kept -/
theorem ps_raiseK {x : Str} {c k : Nat} {C : Addr} {st : Stmt} {sn vn f : Str} {e : Expr} {m : ME} {p pos pos' : Pos} (hc : X.calm = true) (hC : G.ca c = .ref C) (T : KxC X.prog G.K C st sn vn f) (hgs : X.mg "super" = none) (hr : Room (k + 1) X.A) (hg : Gl X x) (gC : X.mg x = some (.ref C)) (he : PEm G X e m)
    (hdb : (x == ("__debug__" : Str)) = false := by decide) (hst : starEach [e] X.env = (false, eval e X.env) :: starEach [] X.env := by rfl) :
    PSm G X (.Raise (some (.Call (.Name x p) [e] [] pos)) none pos') (sRaiseK c f m) := fun W ok => by
  rw [ok.kk] at T
  have mk : PMk X (.Call (.Name x p) [e] [] pos) (fun σ H Q => te G m W σ H fun v H1 => ∀ dx, H1 dx = none → Q (.ref C) (some dx) (upd H1 dx (.xd [(f, v)]))) := by
    intro pins s σ H Q I h
    refine wpAny_Call_Name_kw (ld_glob I hg gC ?_ hdb)
    refine PySem.W.callWith_K (h₀ := X.base) I.ok.mod.kin T.kC ?_ hst (by rfl)
    rw [hst]
    show wpAny _ _ (spliced ((false, eval e X.env) :: backTo pos (starEach [] X.env))) _ _ s
    refine Calls.spliced_cons (thn ((he W ok).run pins s σ H _ I h) fun u s1 ⟨v, H1, I1, r1, q1⟩ => ?_)
    refine Calls.spliced_nil ⟨I1.kIn, ?_⟩
    show wpAny _ _ (call (.ref C) [u]) _ _ _
    refine run_kept T hgs hr I1 r1 fun a dx s' G' Ha Hd hda hget ga gs ho hg2 hb J1 J2 => ?_
    obtain ⟨t1, hget⟩ := hget
    exact ⟨a, _, _, G', _, .ref C, some dx, rfl, J1, gs, ga, hget, ⟨rfl, rfl⟩, rfl, rfl, by rw [upd_ne (Ne.symm hda)]; exact Ha, ho, hb, raises_own T.xf.exC T.tyC, q1 dx Hd⟩
  refine PS_imp (ps_raise hc ok.tk mk) fun E σ H ⟨sd, S, ρ, hs, hr, h⟩ => ?_
  refine ⟨sd, S, ρ, hs, hr, AftS.bind h hs fun ρ1 H1 v d S1 le r1 rd h1 dx hd => ?_⟩
  have le1 : Le G ρ1 H1 ρ1 (upd H1 dx (.xd [(f, v)])) := Le.same (same_new hd)
  refine h1 ρ1 _ σ _ _ le1 (r1.free hd) (hs.mono (le.trans le1)) ⟨hC.symm, ?_⟩
  refine ⟨_, upd_same, fun g e z => ?_⟩
  by_cases hg : g = f
  · subst hg
    have z' : d = e := by simpa [List.lookup] using z
    subst z'
    exact ⟨v, by simp [List.lookup], rd.mono le1⟩
  · have : (g == f) = false := by simpa using hg
    simp [List.lookup, this] at z
end
end Y

/-! Yd: {}, classes as values, what is never reached, repr of a list of empty dicts. -/
namespace Y
open PySem PySem.Spec PyProof.Rows L2
section
variable {G : Glo} {X : Cx} {ρ : Rho} {H : Hp}
def mDct0 : ME := fun _ S => .ok (.loc S.n) (S.new (.dct 0 []))
theorem pm_dct0 {pos : Pos} : PEm G X (.Dict [] [] pos) mDct0 := fun W ok => PE_imp pe_dnewK fun σ H Q ⟨sd, S, ρ, hs, hr, h⟩ p hp => by
  exact h (ext ρ S.n p) _ _ ((Le.ext (hr.top _ (Nat.le_refl _))).trans (Le.same (same_new hp))) (hr.new hp (.inl ⟨[], upd_same, rfl⟩)) (RelD.loc' ext_same)
theorem pm_cls {x : Str} {n : Nat} {v : V} {pos : Pos} (hg : Gl X x) (hm : X.mg x = some (G.ca n)) (r : RelV v (G.ca n)) (hd : (x == ("__debug__" : Str)) = false := by decide) : PEm G X (.Name x pos) (mC (.cls n)) :=
  pm_glob hg hm r (fun _ _ => by simp only [RelD]; exact r) hd
theorem pm_bcl {x : Str} {n : Nat} {T : String} {pos : Pos} (hg : Gl X x) (hm : X.mg x = none) (hb : bootBuiltins x = some (.type T)) (hc : G.ca n = .type T) (hn : x ≠ "__name__" := by decide) (hd : (x == ("__debug__" : Str)) = false := by decide) : PEm G X (.Name x pos) (mC (.cls n)) :=
  pm_c (pe_bltn hg hm hb (v := .ty T) rfl hn hd) fun _ _ => by simp only [RelD, hc]; rfl
/-- never reached -/
def mNo : ME := fun _ _ => .stuck
def sNo : MS := fun _ _ => .stuck
theorem pm_no {e : Expr} : PEm G X e mNo := fun W ok => ⟨fun pins s σ H Q I ⟨sd, S, ρ, hs, hr, h⟩ => h.elim⟩
theorem ps_no {st : Stmt} : PSm G X st sNo := fun W ok => ⟨fun pins s σ H D I ⟨sd, S, ρ, hs, hr, h⟩ => h.elim⟩
theorem pss_no {st : List Stmt} : PSsm G X st sNo := fun W ok => ⟨fun pins s σ H D I ⟨sd, S, ρ, hs, hr, h⟩ => h.elim⟩

/-! ### repr of a list of empty dicts -/
def allD0 (S : Sto) : List D → Bool
  | [] => true
  | d :: r => isDct0 d S && allD0 S r
def isDs0 (d : D) (S : Sto) : Option Nat := match d with
  | .loc k => (match S.get k with
    | some (.lst (x :: l)) => if allD0 S (x :: l) then some (l.length + 1) else none
    | _ => none)
  | _ => none
def fReprD : MF
  | [d], S => (match isDs0 d S with
    | some n => if (PyData.shown (.list (List.replicate n (.dict [])))).length ≤ 16777216 then .ok (.str (PyData.shown (.list (List.replicate n (.dict [])))).cps.toList) S else .stuck
    | none => fRepr [d] S)
  | _, _ => .stuck
theorem dct0_reads {pins : List (Addr × Obj)} {s : Shared} {σ : L2.St} {S : Sto} {d : D} {v : V} {u : Value} (I : Inv X pins σ H s) (rp : Rep G ρ S H) (rd : RelD G ρ H d v) (rv : RelV v u) (h0 : isDct0 d S = true) : ∃ a, (a == sysModules) = false ∧ Reads s.heap u (.dict []) [a] := by
  unfold isDct0 at h0
  split at h0
  · rename_i k
    split at h0
    · rename_i el
      simp only [RelD] at rd
      obtain ⟨a, e1, rfl⟩ := rd
      cases rv
      obtain ⟨b, e2, c⟩ := rp.cell k _ el
      rw [e1] at e2
      cases e2
      rcases c with ⟨kvs, hd, pk⟩ | ⟨hne, _⟩
      · have hd : H a = some (.dK kvs) := hd
        have ek : kvs = [] := pk
        subst ek
        obtain ⟨_, hsys, vs, kv, o, es, ep, h1, hx, hdt, _, r2, _⟩ := I.hok a _ hd
        have ev : vs = [] := by cases kv; rfl
        subst ev
        have ees : es.toList = [] := by
          have := r2.length
          simp at this
          exact List.length_eq_zero_iff.mp (by simpa using this)
        exact ⟨a, hsys, .dict (kvs := []) (as := []) (bs := []) h1 hx.1 hdt (by rw [ees]; exact .nil) (by rw [ees]; exact .nil)⟩
      · exact absurd rfl hne
    · cases h0
  · cases h0
theorem dcts_reads {pins : List (Addr × Obj)} {s : Shared} {σ : L2.St} {S : Sto} (I : Inv X pins σ H s) (rp : Rep G ρ S H) : ∀ {l : List D} {xs : List V} {us : List Value}, RelDs G ρ H l xs → Vals xs us → allD0 S l = true → ∃ bs, sysModules ∉ bs ∧ ReadsAll s.heap us (List.replicate l.length (.dict [])) bs
  | [], xs, us, h, r, _ => by
    simp only [RelDs] at h
    subst h
    cases r
    exact ⟨[], by simp, .nil⟩
  | d :: l, xs, us, h, r, q => by
    simp only [RelDs] at h
    obtain ⟨v, ys, rfl, h1, h2⟩ := h
    unfold allD0 at q
    rw [Bool.and_eq_true] at q
    cases r with
    | cons rv rr =>
      obtain ⟨a, ha, ra⟩ := dct0_reads I rp h1 rv q.1
      obtain ⟨bs, hb, rb⟩ := dcts_reads I rp h2 rr q.2
      refine ⟨[a] ++ bs, fun z => ?_, .cons ra rb⟩
      rcases List.mem_append.mp z with z | z
      · have e : sysModules = a := by simpa using z
        rw [← e] at ha
        simp at ha
      · exact hb z
theorem showable_rep (n : Nat) : PyData.showableAll (List.replicate n (.dict [])) = true := by
  induction n with
  | zero => rfl
  | succ n ih => rw [List.replicate_succ]; simp [PyData.showableAll, PyData.showable, PyData.showableKv, ih]
theorem depth_rep (n : Nat) : PyData.depthAll (List.replicate n (.dict [])) ≤ 5 := by
  induction n with
  | zero => decide
  | succ n ih => rw [List.replicate_succ]; simp [PyData.depthAll, PyData.depth, PyData.depthKv]; omega
theorem cm_reprD (hg : X.A.guards = some []) (hu : X.A.units + 64 < cLine) : CallM G X (.builtin "repr") fReprD := fun W ok pins s σ H ρ S xs us ds Q I r rp rd q => by
  unfold fReprD at q
  split at q
  · rename_i d
    split at q
    · rename_i n en
      split at q
      · rename_i hz
        unfold isDs0 at en
        split at en
        · rename_i k
          split at en
          · rename_i x l el
            split at en
            · rename_i hall
              cases en
              simp only [RelDs] at rd
              obtain ⟨v, _, rfl, rd, rfl⟩ := rd
              obtain ⟨u, rfl, rv⟩ := vals1 r
              obtain ⟨a, ys, rfl, e5, hH, ht⟩ := rp.list el rd
              cases rv
              obtain ⟨h1, vs, n, hv, h2⟩ := I.hok a _ hH
              obtain ⟨bs, hbs, rb⟩ := dcts_reads I rp ht hv hall
              have rr : Reads s.heap (.ref a) (.list (List.replicate (l.length + 1) (.dict []))) (a :: bs) := .list h2 rfl rfl (by simpa using rb)
              have hz' : (listText (PyData.shownAll (List.replicate (l.length + 1) (.dict [])))).length ≤ sizeLine := by
                rw [sizeLine_eq]
                simpa only [PyData.shown] using hz
              obtain ⟨bs2, hb, hk⟩ := ReprAllK.of_readsAll (prog := X.prog) (w := X.w) (by simpa using rb) (showable_rep (l.length + 1)) (fun _ => hbs) (fun t ht => Nat.le_trans (listText_mem_le ht) hz')
              have hna : a ∉ bs2 := not_mem_of_deeper rr (by simp only [PyData.depth]; omega) hb
              have hdp := depth_rep (l.length + 1)
              cases hv with
              | nil =>
                simp only [RelDs] at ht
                obtain ⟨_, _, z, _⟩ := ht
                cases z
              | @cons _ x0 _ vs0 rv0 hv0 =>
                refine call_repr_slot (T := "list") (by omega) ⟨_, h2, rfl⟩ F.slot_list_repr.toG ?_
                refine call_list_reprK (d := PyData.depthAll (List.replicate (l.length + 1) (.dict []))) (ts := PyData.shownAll (List.replicate (l.length + 1) (.dict []))) h2 rfl rfl hna (by simpa using hk.length_eq) (fun i y e => hk.item i y (by simpa using e)) hg (fun b _ => Clear.nil b) (by show X.A.units + 1 + _ < cLine; omega) (fun _ _ e => e) (fun h' u tk k => ⟨_, _, rfl, ?_⟩) hz'
                refine ⟨.str _, H, I.kept (t' := tk) k, ⟨_, rfl⟩, ?_⟩
                have h := q.ok rp (rel_str (x := (PyData.shown (.list (List.replicate (l.length + 1) (.dict [])))).cps.toList))
                rw [str_eta] at h
                simpa only [PyData.shown] using h
            · cases en
          · cases en
        · cases en
      · exact q.elim
    · exact cm_repr hg hu W ok pins s σ H ρ S xs us _ Q I r rp rd q
  · exact q.elim
end
end Y

/-! Ye: what the written part says, asked by one look each. -/
namespace Y
open PySem PySem.Spec PyProof.Rows L2
open PySem.W (Frag findIn subIn clsIn mroIn specialIn takesIn keepIn typeIn kitOne excIn)
def caOf (l : List (Nat × Value)) (n : Nat) : Value := (l.lookup n).getD .none
abbrev ca0 : List (Nat × Value) := [(0, .type "int"), (1, .type "bool"), (2, .type "str"), (3, .type "tuple"), (4, .type "list"), (5, .type "dict"), (6, .type "NoneType"), (100, .type "ValueError"), (101, .type "IndexError"), (102, .type "KeyError"), (103, .type "RuntimeError"), (104, .type "OverflowError"), (105, .type "ArithmeticError")]
def caL (l : List (Nat × Value)) : Nat → Value := caOf (List.append ca0 l)
theorem bt_caL {l : List (Nat × Value)} : ∀ n T, btn n = some T → caL l n = .type T := fun n T h => by
  unfold btn at h
  split at h <;> first | (cases h; rfl) | cases h
theorem bt_ca0 {l : List (Nat × Value)} : ∀ n T, btn n = some T → caOf (ca0 ++ l) n = .type T := fun n T h => by
  unfold btn at h
  split at h <;> first | (cases h; rfl) | cases h
def kitOf (ts cs : List Nat) (f : Nat → Nat → Bool) : Nat → Nat → Option Bool := fun t c => if ts.contains t && cs.contains c then some (f t c) else none
def kitB (K : Frag) (ca : Nat → Value) (ts cs : List Nat) (f : Nat → Nat → Bool) : Bool := ts.all fun t => cs.all fun c => kitOne K (ca t) (ca c) == some (f t c)
def clB (ca : Nat → Value) (cs : List Nat) : Bool := cs.all fun c => match ca c with
  | .type _ => true
  | .ref _ => true
  | _ => false
theorem kit_has {ts cs : List Nat} {f : Nat → Nat → Bool} {t c : Nat} {b : Bool} (h : kitOf ts cs f t c = some b) : t ∈ ts ∧ c ∈ cs ∧ f t c = b := by
  unfold kitOf at h
  split at h
  · rename_i z
    rw [Bool.and_eq_true, List.contains_iff_mem, List.contains_iff_mem] at z
    cases h
    exact ⟨z.1, z.2, rfl⟩
  · cases h
theorem kitB_at {K : Frag} {ca : Nat → Value} {ts cs : List Nat} {f : Nat → Nat → Bool} (h : kitB K ca ts cs f = true) {t c : Nat} {b : Bool} (e : kitOf ts cs f t c = some b) : kitOne K (ca t) (ca c) = some b := by
  obtain ⟨h1, h2, h3⟩ := kit_has e
  have := List.all_eq_true.mp (List.all_eq_true.mp h t h1) c h2
  rw [← h3]
  exact beq_iff_eq.mp this
theorem clB_at {ca : Nat → Value} {cs : List Nat} (h : clB ca cs = true) {c : Nat} (hc : c ∈ cs) : ∃ v, RelV v (ca c) ∧ ClsV v (ca c) := by
  have := List.all_eq_true.mp h c hc
  split at this
  · rename_i n e
    rw [e]
    exact ⟨.ty n, rfl, .ty n⟩
  · rename_i C e
    rw [e]
    exact ⟨.ref C, rfl, .own C⟩
  · cases this
def slB (ca : Nat → Value) (K : Frag) (p : Addr → Bool) (ts : List Nat) : Bool := ts.all fun t => match ca t with
  | .ref C => p C
  | _ => true
theorem slB_at {ca : Nat → Value} {K : Frag} {p : Addr → Bool} {ts : List Nat} (h : slB ca K p ts = true) {t : Nat} (ht : t ∈ ts) {C : Addr} (e : ca t = .ref C) : p C = true := by
  have := List.all_eq_true.mp h t ht
  rw [e] at this
  exact this
theorem kitOk_of {G : Glo} {ts cs : List Nat} {f : Nat → Nat → Bool} {p : Addr → Bool} (bt : ∀ n T, btn n = some T → G.ca n = .type T) (h : kitB G.K G.ca ts cs f = true) (hc : clB G.ca cs = true) (hs : slB G.ca G.K p ts = true) (hp : ∀ C, p C = true → SlX.SCls G.K C ∧ SlX.SIsi G.K C) : KitOk G (kitOf ts cs f) :=
  ⟨bt, fun t c b e => kitB_at h e, fun c b t e => clB_at hc (kit_has e).2.1, fun t c b C e eC => hp C (slB_at hs (kit_has e).1 eC)⟩
/-- what isinstance wants of an exception class -/
def kiB (K : Frag) (C : Addr) : Bool :=
  (clsIn K C).isSome && findIn K (.ref C) "__getattribute__" == some (some (.builtin "BaseException.__getattribute__")) && (findIn K (.ref C) "__getattr__").isSome && subIn K (.ref C) (.type "BaseException") == some true &&
    findIn K (.ref C) "__class__" == some (some (.builtin "object.__class__")) && specialIn K (.builtin "object.__class__") "__get__" == some (some (.builtin "getset_descriptor.__get__")) && takesIn K (.builtin "object.__class__") == some true && mroIn K C (.type "object") == some true
theorem kiB_ok {K : Frag} {C : Addr} (h : kiB K C = true) : KiC K C := by
  unfold kiB at h
  simp only [Bool.and_eq_true, beq_iff_eq] at h
  obtain ⟨⟨⟨⟨⟨⟨⟨h1, h2⟩, h3⟩, h4⟩, h5⟩, h6⟩, h7⟩, h8⟩ := h
  exact ⟨h1, h2, Option.isSome_iff_exists.mp h3, h4, h5, h6, h7, h8⟩
theorem kixOk_of {G : Glo} {ts cs : List Nat} {f : Nat → Nat → Bool} (h : kitB G.K G.ca ts cs f = true) (hc : clB G.ca cs = true) (hs : slB G.ca G.K (kiB G.K) ts = true) : KixOk G (kitOf ts cs f) :=
  ⟨fun t c b e => kitB_at h e, fun c b t e => clB_at hc (kit_has e).2.1, fun t c b C e eC => kiB_ok (slB_at hs (kit_has e).1 eC)⟩
/-- an own exception class over ValueError without own __init__ -/
def kpB (K : Frag) (C : Addr) : Bool :=
  excIn K C [.type "ValueError", .type "Exception", .type "BaseException", .type "object"] "ValueError.__new__" && subIn K (.ref C) (.type "BaseException") == some true && typeIn K (.ref C) == some (.type "type") && keepIn K (.ref C)
theorem kpB_ok {K : Frag} {C : Addr} (h : kpB K C = true) : KpC K C := by
  unfold kpB at h
  simp only [Bool.and_eq_true, beq_iff_eq] at h
  obtain ⟨⟨⟨h1, h2⟩, h3⟩, h4⟩ := h
  exact ⟨⟨_, _, _, _, F.excBase_ValueError, h1⟩, h2, h3, h4⟩
/-- an own exception class that keeps a field -/
def kxB (K : Frag) (C D fI : Addr) (f : Str) (B newId i : String) (bmB : List Value) : Bool :=
  PySem.W.excInitIn K C bmB newId && PySem.W.excOver K C bmB && subIn K (.ref C) (.type B) == some true && findIn K (.ref C) "__init__" == some (some (.ref fI)) && PySem.W.isFn K (.ref fI) && (clsIn K D).isSome && mroIn K C (.ref D) == some true &&
    PySem.W.ks_superIn K C D "__init__" == some (some (.builtin i)) && PySem.W.nsIn K cStatics "thirdparty.any" == some none && findIn K (.ref C) "__setattr__" == some (some (.builtin "object.__setattr__")) && PySem.W.takerIn K C f == some none &&
    PySem.W.hasDictIn K C && xfB K C && findIn K (.ref C) f == some none && typeIn K (.ref C) == some (.type "type") && keepIn K (.ref C)
theorem kxC_of {P : Program} {K : Frag} {C D fI cc cda : Addr} {st : Stmt} {sn vn f : Str} {B newId i : String} {bmB : List Value} {qual : Str} {kV doc pm ct oc ccl cl : Value} {an od cdd cld : Option Addr} {osl ccs csl : Array (Option Value)} {vs : Array Value} {file : Str} {tf : Tok} (s : KxS st sn vn f) (kt : KxT B newId i bmB)
    (l : K.lookup fI = some ⟨oc, od, .func (PySem.W.ksFn "__init__" qual (defArgs st) (defBody st) (defScope st) .none kV doc pm an (.ref cda) ct cc), osl⟩) (c : PySem.W.codeIn K (.ref cda) qual = true) (l2 : K.lookup cda = some ⟨ccl, cdd, .fields vs, ccs⟩) (hv : vs[2]? = some (.str file tf)) (hf : ((P.main.file : Str) == file) = true)
    (l3 : K.lookup cc = some ⟨cl, cld, .cell (some (.ref D)), csl⟩) (top : (P.main.scope.names.lookup ("super" : Str)).isSome = false) (h : kxB K C D fI f B newId i bmB = true) : KxC P K C st sn vn f := by
  unfold kxB at h
  simp only [Bool.and_eq_true, beq_iff_eq] at h
  obtain ⟨⟨⟨⟨⟨⟨⟨⟨⟨⟨⟨⟨⟨⟨⟨h1, h2⟩, h3⟩, h4⟩, h5⟩, h6⟩, h7⟩, h8⟩, h9⟩, h10⟩, h11⟩, h12⟩, h13⟩, h14⟩, h15⟩, h16⟩ := h
  exact ⟨s, ⟨B, newId, i, bmB, fI, D, cc, cda, qual, kV, doc, pm, ct, oc, an, od, osl, kt, h1, h2, h3, h4, h5, l, c, ⟨ccl, cdd, vs, ccs, file, tf, l2, hv, hf⟩, ⟨cl, cld, csl, l3⟩, h6, h7, h8⟩, top, h9, h10, h11, h12, xfB_ok h13, h14, h15, h16⟩
def inCls (s : Stmt) (k : Nat) : Stmt := match s with
  | .ClassDef _ _ _ b _ _ _ _ _ _ _ => b.getD k (.Pass ⟨0, 0, 0, 0⟩)
  | _ => .Pass ⟨0, 0, 0, 0⟩
section
variable {G : Glo} {X : Cx}
theorem pm_clsO {x : Str} {n : Nat} {C : Addr} {pos : Pos} (hg : Gl X x) (hm : X.mg x = some (.ref C)) (hC : G.ca n = .ref C) (hd : (x == ("__debug__" : Str)) = false := by decide) : PEm G X (.Name x pos) (mC (.cls n)) :=
  pm_cls (v := .ref C) hg (by rw [hC]; exact hm) (by rw [hC]; rfl) hd
end
/-- a name that the top leaves as it is told -/
theorem loose_int {lv : List (Str × PySem.W.WData)} {mg : Str → Option Value} {h : Heap} {G : Glo} {x : Str} {i : Int} (L : PySem.W.LooseAre lv mg h) (hm : (x, PySem.W.WData.int i) ∈ lv) : ∃ u v, mg x = some u ∧ RelV v u ∧ ∀ ρ H, RelD G ρ H (.int i) v := by
  obtain ⟨v, a, b⟩ := L.val _ hm
  cases b
  exact ⟨_, .int i, a, ⟨_, rfl⟩, fun _ _ => rel_int⟩
theorem glob_int {K : Frag} {h : Heap} {mg : Str → Option Value} {G : Glo} {x : Str} {i : Int} {t : Tok} (X : K.In h) (Gn : h.Ns mainGlobals mg) (e : PySem.W.nsIn K mainGlobals x = some (some (.int i t))) : ∃ u v, mg x = some u ∧ RelV v u ∧ ∀ ρ H, RelD G ρ H (.int i) v :=
  ⟨_, .int i, PySem.W.mg_of X Gn e, ⟨t, rfl⟩, fun _ _ => rel_int⟩
end Y

/-! Yf: the dice, by their mirrors (the same in every law). -/
namespace Y
open PySem PySem.Spec PyProof.Rows L2
def b_Lroll : MS := (sSeq (sIf (mTst cGt (mBin ixD (mVar 0) (mC (.int 0))) (mC (.int 0))) (sSeq (sSet 2 (mBin bMod (mCall fInt (mCons (mBin ixD (mVar 0) (mC (.int 0))) mNil)) (mVar 1)))
  (sSeq (sStL (mVar 0) (mC (.int 0)) (mBin bDiv (mBin ixD (mVar 0) (mC (.int 0))) (mVar 1)))
  (sRet (mVar 2)))) sSkip)
  (sSeq (sStL (mVar 0) (mC (.int 2)) (mBin bAdd (mBin ixD (mVar 0) (mC (.int 2))) (mC (.int 1))))
  (sSeq (sSet 3 (mBin bMod (mCall fInt (mCons (mBin bAdd (mBin ixD (mVar 0) (mC (.int 1))) (mBin bMul (mC (.int 49979719)) (mBin ixD (mVar 0) (mC (.int 2))))) mNil)) (mC (.int 2305843009213693613))))
  (sSeq (sSet 4 (mBin bAdd (mBin bMul (mBin bMod (mCall fInt (mCons (mBin bAdd (mBin bMul (mVar 3) (mVar 3)) (mBin bMul (mC (.int 97)) (mBin ixD (mVar 0) (mC (.int 2))))) mNil)) (mC (.int 2305843009213693907))) (mC (.int 7368797))) (mVar 3)))
  (sRet (mBin bMod (mCall fInt (mCons (mBin bDiv (mVar 4) (mC (.int 65536))) mNil)) (mVar 1)))))))
def m_Lroll : MF := mkF 5 2 b_Lroll
def b_Ldice : MS := (sSeq (sSet 2 (mIf (mTst cLt (mVar 1) (mCall fLen (mCons (mVar 0) mNil))) (mCall fInt (mCons (mBin ixD (mVar 0) (mVar 1)) mNil)) (mBin bAdd (mBin bMul (mC (.int 67)) (mVar 1)) (mC (.int 19)))))
  (sSeq (sSet 3 (mBin bMod (mCall fMax2 (mCons (mC (.int 0)) (mCons (mBin bSub (mCall fAbs (mCons (mVar 2) mNil)) (mBin bPow (mC (.int 10)) (mC (.int 16)))) mNil))) (mBin bMul (mBin bPow (mC (.int 10)) (mC (.int 60))) (mBin bPow (mC (.int 10)) (mC (.int 60))))))
  (sRet (mLst (mCons (mVar 3) (mCons (mBin bAdd (mBin bAdd (mBin bAdd (mBin bMul (mBin bMod (mCall fAbs (mCons (mVar 2) mNil)) (mC (.int 1152921504606846817))) (mC (.int 47))) (mBin bMul (mC (.int 821)) (mVar 1))) (mBin bMul (mC (.int 31)) (mCall fInt (mCons (mBin cLt (mVar 2) (mC (.int 0))) mNil)))) (mC (.int 3))) (mCons (mC (.int 0)) mNil)))))))
def m_Ldice : MF := mkF 4 2 b_Ldice
theorem mulOk_small {i j : Int} (h : i.natAbs < 18446744073709551616) : mulOk i j = true := by
  unfold mulOk
  rw [decide_eq_true h]
  rfl
theorem run_roll : ∀ (S : Sto) (d : Nat) (t x y z : Int), S.get d = some (dcell x y z) → 0 < t → t.natAbs.log2 < 9000 → ∃ r x' y' z', 0 ≤ r ∧ r < t ∧ m_Lroll [.loc d, .int t] S = .ok (.int r) (S.set d (dcell x' y' z')) := by
  intro S d t x y z h ht hl
  unfold dcell at h
  have hi : ∀ (c : Cell), (S.set d c).get d = some c := fun c => Sto.get_set_self h
  by_cases hx : 0 < x
  · refine ⟨x % t, x / t, y, z, Int.emod_nonneg _ (by omega), Int.emod_lt_of_pos _ ht, ?_⟩
    simp [m_Lroll, mkF, stD, b_Lroll, sSeq, SRes.andThen, sIf, bindS, mTst, mBin, mVar, mC, Res.bind, ixD, cGt, atI, ixN, h, hx, sSet, mCall, mCons, mNil, fInt, bMod, ht, sStL, stL, bDiv, hl, sRet, SRes.res, dcell]
  · obtain ⟨one, e1⟩ : ∃ one : Int, one = (y + 49979719 * (z + 1)) % 2305843009213693613 := ⟨_, rfl⟩
    obtain ⟨tw, e2⟩ : ∃ tw : Int, tw = (one * one + 97 * (z + 1)) % 2305843009213693907 := ⟨_, rfl⟩
    have b1 : mulOk one one = true := mulOk_small (by omega)
    have b2 : mulOk tw 7368797 = true := mulOk_small (by omega)
    have b3 : ∀ j, mulOk 49979719 j = true := fun j => mulOk_small (by decide)
    have b4 : ∀ j, mulOk 97 j = true := fun j => mulOk_small (by decide)
    have b5 : Nat.log2 65536 < 9000 := by decide +kernel
    refine ⟨(tw * 7368797 + one) / 65536 % t, x, y, z + 1, Int.emod_nonneg _ (by omega), Int.emod_lt_of_pos _ ht, ?_⟩
    simp [m_Lroll, mkF, stD, b_Lroll, sSeq, SRes.andThen, sIf, bindS, mTst, mBin, mVar, mC, Res.bind, ixD, cGt, atI, ixN, h, hi, hx, sSet, sSkip, mCall, mCons, mNil, fInt, bMod, bAdd, bMul, ht, sStL, stL, bDiv, hl, sRet, SRes.res, dcell, b1, b2, b3, b4, b5, ← e1, ← e2]
theorem run_dice : ∀ (S : Sto) (l : List Int) (i : Int), 0 ≤ i → i < 1000000 → ∃ x y z, m_Ldice [.scr l, .int i] S = .ok (.loc S.n) (S.new (dcell x y z)) := by
  intro S l i h0 h1
  have b1 : ∀ j, mulOk 67 j = true := fun j => mulOk_small (by decide)
  have b2 : ∀ j, mulOk 821 j = true := fun j => mulOk_small (by decide)
  have b3 : ∀ j, mulOk 31 j = true := fun j => mulOk_small (by decide)
  have b4 : mulOk (10 ^ 60) (10 ^ 60) = true := by decide +kernel
  have b5 : ∀ j : Int, mulOk (j % 1152921504606846817) 47 = true := fun j => mulOk_small (by omega)
  have b6 : (0 : Int) < 10 ^ 60 * 10 ^ 60 := by decide
  obtain ⟨c, hc⟩ : ∃ c : Int, (mIf (mTst cLt (mVar 1) (mCall fLen (mCons (mVar 0) mNil))) (mCall fInt (mCons (mBin ixD (mVar 0) (mVar 1)) mNil)) (mBin bAdd (mBin bMul (mC (.int 67)) (mVar 1)) (mC (.int 19)))) [some (.scr l), some (.int i), none, none] S = .ok (.int c) S := by
    by_cases hl : i < (l.length : Int)
    · have hj : i.toNat < l.length := by omega
      have ha : atI l i = some l[i.toNat] := by
        unfold atI ixN
        rw [if_pos h0, if_pos hl, Option.bind_some, List.getElem?_eq_getElem hj]
      exact ⟨l[i.toNat], by simp [mIf, mTst, mBin, mVar, mC, mCall, mCons, mNil, Res.bind, cLt, fLen, hl, ixD, ha, fInt]⟩
    · exact ⟨67 * i + 19, by simp [mIf, mTst, mBin, mVar, mC, mCall, mCons, mNil, Res.bind, cLt, fLen, hl, bMul, b1, bAdd]⟩
  have e1 : m_Ldice [.scr l, .int i] S = mkF 4 2 b_Ldice [.scr l, .int i] S := rfl
  have c1 : (0 : Int) ≤ 16 ∧ (16 : Int) ≤ 1000000 ∧ (10 : Int).natAbs < 18446744073709551616 := by decide
  have c2 : (0 : Int) ≤ 60 ∧ (60 : Int) ≤ 1000000 ∧ (10 : Int).natAbs < 18446744073709551616 := by decide
  have c3 : (0 : Int) < 1152921504606846817 := by decide
  have t16 : (16 : Int).toNat = 16 := rfl
  have t60 : (60 : Int).toNat = 60 := rfl
  generalize hab : (if c < 0 then -c else c) = ab
  refine ⟨(if ab - 10 ^ 16 > 0 then ab - 10 ^ 16 else 0) % (10 ^ 60 * 10 ^ 60), ab % 1152921504606846817 * 47 + 821 * i + 31 * (if decide (c < 0) = true then 1 else 0) + 3, 0, ?_⟩
  rw [e1]
  have st : stD 4 [.scr l, .int i] = [some (.scr l), some (.int i), none, none] := rfl
  simp only [mkF, st, b_Ldice, sSeq, sSet, hc, bindS, SRes.andThen, mBin, mVar, mC, mCall, mCons, mNil, Res.bind, fMax2, fAbs, bSub, bPow, bMod, bMul, b2, b3, b4, b5, b6, c1, c2, c3, t16, t60, bAdd, cLt, fInt, mLst, sRet, SRes.res, dcell, hab, List.set_cons_zero, List.set_cons_succ, List.getElem?_cons_zero, List.getElem?_cons_succ, List.length_cons, List.length_nil, if_true, and_self]
  rfl
end Y

/-! Yg: the law's own def: states that may be forgotten in part, loops over ranges. -/
namespace Y
open PySem PySem.Spec PyProof.Rows L2
mutual
def D.ren (r : Nat → Nat) : D → D
  | .tup l => .tup (rens r l)
  | .loc n => .loc (r n)
  | .non => .non
  | .bl b => .bl b
  | .int i => .int i
  | .str x => .str x
  | .cls n => .cls n
  | .scr l => .scr l
def rens (r : Nat → Nat) : List D → List D
  | [] => []
  | d :: l => d.ren r :: rens r l
end
mutual
def D.bd (n : Nat) : D → Bool
  | .tup l => bds n l
  | .loc k => decide (k < n)
  | _ => true
def bds (n : Nat) : List D → Bool
  | [] => true
  | d :: l => d.bd n && bds n l
end
def Cell.ren (r : Nat → Nat) : Cell → Cell
  | .lst l => .lst (rens r l)
  | .dct lk l => .dct lk (l.map fun p => (p.1.ren r, p.2.ren r))
  | .ins c l => .ins c (l.map fun o => o.map (D.ren r))
  | .dice => .dice
  | .exv c fs => .exv c (fs.map fun p => (p.1, p.2.ren r))
def Cell.bd (n : Nat) : Cell → Bool
  | .lst l => bds n l
  | .dct _ l => l.all fun p => p.1.bd n && p.2.bd n
  | .ins _ l => l.all fun o => match o with
    | some d => d.bd n
    | none => true
  | .dice => true
  | .exv _ fs => fs.all fun p => p.2.bd n
section
variable {G : Glo} {ρ ρ' : Rho} {H : Hp} {r : Nat → Nat} {n : Nat}
mutual
theorem RelD.unren (hr : ∀ j, j < n → ρ' j = ρ (r j)) : ∀ {d : D} {v : V}, d.bd n = true → RelD G ρ H (d.ren r) v → RelD G ρ' H d v
  | .non, v, _, h => by simpa only [D.ren, RelD] using h
  | .bl _, v, _, h => by simpa only [D.ren, RelD] using h
  | .int _, v, _, h => by simpa only [D.ren, RelD] using h
  | .str _, v, _, h => by simpa only [D.ren, RelD] using h
  | .cls _, v, _, h => by simpa only [D.ren, RelD] using h
  | .scr _, v, _, h => by simpa only [D.ren, RelD] using h
  | .loc k, v, b, h => by
    simp only [D.ren, RelD] at h ⊢
    simp only [D.bd, decide_eq_true_eq] at b
    rw [hr k b]
    exact h
  | .tup l, v, b, h => by
    simp only [D.ren, RelD] at h ⊢
    simp only [D.bd] at b
    obtain ⟨a, xs, e, hs, ht⟩ := h
    exact ⟨a, xs, e, hs, RelDs.unren hr b ht⟩
theorem RelDs.unren (hr : ∀ j, j < n → ρ' j = ρ (r j)) : ∀ {l : List D} {xs : List V}, bds n l = true → RelDs G ρ H (rens r l) xs → RelDs G ρ' H l xs
  | [], xs, _, h => by simpa only [rens, RelDs] using h
  | d :: l, xs, b, h => by
    simp only [rens, RelDs] at h ⊢
    simp only [bds, Bool.and_eq_true] at b
    obtain ⟨v, ys, e, h1, h2⟩ := h
    exact ⟨v, ys, e, RelD.unren hr b.1 h1, RelDs.unren hr b.2 h2⟩
end
theorem keyD_ren (d : D) : keyD (d.ren r) = keyD d := by cases d <;> simp only [D.ren, keyD]
theorem keysD_ren : ∀ l : List D, keysD (rens r l) = keysD l
  | [] => by simp only [rens]
  | d :: l => by simp only [rens, keysD, keyD_ren, keysD_ren l]
theorem keyT_ren (d : D) : keyT (d.ren r) = keyT d := by cases d <;> simp only [D.ren, keyT, keysD_ren]
theorem PairK.unren {κ : Type} {kf : D → Option κ} (hk : ∀ d : D, kf (d.ren r) = kf d) (hr : ∀ j, j < n → ρ' j = ρ (r j)) : ∀ {l : List (D × D)} {ys : List (κ × V)}, (l.all fun p => p.1.bd n && p.2.bd n) = true → PairK kf G ρ H (l.map fun p => (p.1.ren r, p.2.ren r)) ys → PairK kf G ρ' H l ys
  | [], ys, _, h => h
  | p :: l, ys, b, h => by
    rw [List.all_cons, Bool.and_eq_true, Bool.and_eq_true] at b
    obtain ⟨k, v, zs, e, h1, h2, h3⟩ := h
    exact ⟨k, v, zs, e, by rw [← hk]; exact h1, RelD.unren hr b.1.2 h2, PairK.unren hk hr b.2 h3⟩
theorem RelSl.unren (hr : ∀ j, j < n → ρ' j = ρ (r j)) {l : List (Option D)} {vs : List (Option V)} (b : ∀ (i : Nat) (d : D), l[i]? = some (some d) → d.bd n = true) (h : RelSl G ρ H (l.map fun o => o.map (D.ren r)) vs) : RelSl G ρ' H l vs := fun i d e => by
  obtain ⟨v, e1, q⟩ := h i (d.ren r) (by rw [List.getElem?_map, e]; rfl)
  exact ⟨v, e1, RelD.unren hr (b i d e) q⟩
theorem lookup_ren : ∀ {fs : List (Str × D)} {f : Str} {e : D}, fs.lookup f = some e → (fs.map fun p => (p.1, p.2.ren r)).lookup f = some (e.ren r) ∧ ∃ k, (k, e) ∈ fs
  | [], f, e, h => by cases h
  | p :: fs, f, e, h => by
    obtain ⟨a, b⟩ := p
    by_cases hf : f = a
    · subst hf
      have e2 : b = e := by simpa [List.lookup] using h
      subst e2
      exact ⟨by simp [List.lookup], f, List.mem_cons_self ..⟩
    · have hf' : (f == a) = false := by simpa using hf
      have h' : fs.lookup f = some e := by simpa [List.lookup, hf'] using h
      obtain ⟨q1, k, q2⟩ := lookup_ren h'
      exact ⟨by simpa [List.lookup, hf'] using q1, k, List.mem_cons_of_mem _ q2⟩
theorem CellOk.unren (hr : ∀ j, j < n → ρ' j = ρ (r j)) {a : Addr} {c : Cell} (b : c.bd n = true) (h : CellOk G ρ H a (c.ren r)) : CellOk G ρ' H a c := by
  cases c with
  | lst l =>
    obtain ⟨xs, h1, h2⟩ := h
    exact ⟨xs, h1, RelDs.unren hr b h2⟩
  | dct lk l =>
    rcases h with ⟨kvs, h1, h2⟩ | ⟨hne, kvs, h1, h2⟩
    · exact .inl ⟨kvs, h1, PairK.unren keyD_ren hr b h2⟩
    · exact .inr ⟨fun z => hne (by rw [z]; rfl), kvs, h1, PairK.unren keyT_ren hr b h2⟩
  | ins k l =>
    obtain ⟨C, dx, vs, e, h1, h2⟩ := h
    refine ⟨C, dx, vs, e, h1, RelSl.unren hr (fun i d e => ?_) h2⟩
    exact List.all_eq_true.mp b (some d) (List.mem_of_getElem? e)
  | dice => exact h
  | exv k fs =>
    obtain ⟨C, d, e, h1, h2⟩ := h
    refine ⟨C, d, e, h1, ?_⟩
    rcases h2 with ⟨z1, z2⟩ | ⟨dx, gs, e1, h3, h4⟩
    · refine .inl ⟨z1, ?_⟩
      cases fs with
      | nil => rfl
      | cons p q => cases z2
    · refine .inr ⟨dx, gs, e1, h3, fun f x q => ?_⟩
      obtain ⟨q1, k, q2⟩ := lookup_ren (r := r) q
      obtain ⟨v, q3, q4⟩ := h4 f _ q1
      exact ⟨v, q3, RelD.unren hr (List.all_eq_true.mp b _ q2) q4⟩
end
/-- from (sd, S) less is known: (sd', S') -/
def Weak (sd : SD) (S : Sto) (sd' : SD) (S' : Sto) : Prop := ∀ (G : Glo) (ρ : Rho) (H : Hp) (σ : L2.St), RelSt G ρ H sd σ → Rep G ρ S H → ∃ ρ', RelSt G ρ' H sd' σ ∧ Rep G ρ' S' H
theorem Weak.refl {sd : SD} {S : Sto} : Weak sd S sd S := fun G ρ H σ a b => ⟨ρ, a, b⟩
theorem Weak.trans {sd sd1 sd2 : SD} {S S1 S2 : Sto} (a : Weak sd S sd1 S1) (b : Weak sd1 S1 sd2 S2) : Weak sd S sd2 S2 := fun G ρ H σ h1 h2 =>
  let ⟨ρ1, h3, h4⟩ := a G ρ H σ h1 h2
  b G ρ1 H σ h3 h4
theorem Weak.of {sd sd' : SD} {S S' : Sto} (r : Nat → Nat) (hl : sd'.length = sd.length) (hs : ∀ (i : Nat) (d : D), sd'[i]? = some (some d) → d.bd S'.n = true ∧ sd[i]? = some (some (d.ren r))) (hc : ∀ j c, S'.get j = some c → c.bd S'.n = true ∧ S.get (r j) = some (c.ren r))
    (hi : ∀ i j, i < S'.n → j < S'.n → r i = r j → i = j) : Weak sd S sd' S' := fun G ρ H σ hσ hr => by
  have e : ∀ j, j < S'.n → (fun j => if j < S'.n then ρ (r j) else none : Rho) j = ρ (r j) := fun j hj => if_pos hj
  refine ⟨fun j => if j < S'.n then ρ (r j) else none, ⟨by rw [hl]; exact hσ.1, fun i d q => ?_⟩, ⟨fun j c q => ?_, fun i j a q1 q2 => ?_, fun i h => if_neg (Nat.not_lt.mpr h), fun i a q => ?_⟩⟩
  · obtain ⟨b, q1⟩ := hs i d q
    obtain ⟨v, q2, q3⟩ := hσ.2 i _ q1
    exact ⟨v, q2, RelD.unren e b q3⟩
  · have hj := Sto.get_lt q
    obtain ⟨q2, q3⟩ := hc j c q
    obtain ⟨a, q4, q5⟩ := hr.cell _ _ q3
    exact ⟨a, (e j hj).trans q4, CellOk.unren e q2 q5⟩
  · have h1 : i < S'.n := by
      by_cases z : i < S'.n
      · exact z
      · simp only [if_neg z] at q1
        cases q1
    have h2 : j < S'.n := by
      by_cases z : j < S'.n
      · exact z
      · simp only [if_neg z] at q2
        cases q2
    simp only [if_pos h1] at q1
    simp only [if_pos h2] at q2
    exact hi i j h1 h2 (hr.inj _ _ a q1 q2)
  · have h1 : i < S'.n := by
      by_cases z : i < S'.n
      · exact z
      · simp only [if_neg z] at q
        cases q
    simp only [if_pos h1] at q
    exact hr.dom _ _ q
mutual
theorem D.ren_id : ∀ d : D, d.ren id = d
  | .non => rfl
  | .bl _ => rfl
  | .int _ => rfl
  | .str _ => rfl
  | .cls _ => rfl
  | .scr _ => rfl
  | .loc _ => rfl
  | .tup l => by simp only [D.ren, rens_id l]
theorem rens_id : ∀ l : List D, rens id l = l
  | [] => rfl
  | d :: l => by simp only [rens, D.ren_id d, rens_id l]
end
theorem Cell.ren_id (c : Cell) : c.ren id = c := by
  cases c with
  | lst l => simp only [Cell.ren, rens_id]
  | dct lk l => simp [Cell.ren, D.ren_id]
  | ins c l =>
    simp only [Cell.ren]
    congr 1
    refine (List.map_congr_left (g := id) fun o _ => ?_).trans (List.map_id l)
    cases o <;> simp [D.ren_id]
  | dice => rfl
  | exv c fs => simp [Cell.ren, D.ren_id]
/-- names and younger cells forgotten -/
theorem Weak.cut {sd sd' : SD} {S S' : Sto} (hl : sd'.length = sd.length) (hs : ∀ (i : Nat) (d : D), sd'[i]? = some (some d) → d.bd S'.n = true ∧ sd[i]? = some (some d)) (hc : ∀ j c, S'.get j = some c → c.bd S'.n = true ∧ S.get j = some c) : Weak sd S sd' S' :=
  .of id hl (fun i d q => ⟨(hs i d q).1, by rw [D.ren_id]; exact (hs i d q).2⟩) (fun j c q => ⟨(hc j c q).1, by rw [Cell.ren_id]; exact (hc j c q).2⟩) (fun i j _ _ e => e)
/-- the same, seen by one look at the names -/
def sdIn : SD → SD → Nat → Prop
  | [], [], _ => True
  | some d :: r, o :: r', n => d.bd n = true ∧ o = some d ∧ sdIn r r' n
  | none :: r, _ :: r', n => sdIn r r' n
  | _, _, _ => False
theorem sdIn_ok : ∀ {sd' sd : SD} {n : Nat}, sdIn sd' sd n → sd'.length = sd.length ∧ ∀ (i : Nat) (d : D), sd'[i]? = some (some d) → d.bd n = true ∧ sd[i]? = some (some d)
  | [], [], n, _ => ⟨rfl, fun i d e => by simp at e⟩
  | some d :: r, o :: r', n, h => by
    obtain ⟨h1, h2, h3⟩ := h
    obtain ⟨k1, k2⟩ := sdIn_ok h3
    refine ⟨by simp [k1], fun i e q => ?_⟩
    cases i with
    | zero =>
      simp only [List.getElem?_cons_zero, Option.some.injEq] at q ⊢
      subst q
      exact ⟨h1, h2⟩
    | succ i =>
      simp only [List.getElem?_cons_succ] at q ⊢
      exact k2 i e q
  | none :: r, o :: r', n, h => by
    obtain ⟨k1, k2⟩ := sdIn_ok (sd' := r) (sd := r') h
    refine ⟨by simp [k1], fun i e q => ?_⟩
    cases i with
    | zero =>
      simp only [List.getElem?_cons_zero, Option.some.injEq] at q
      cases q
    | succ i =>
      simp only [List.getElem?_cons_succ] at q ⊢
      exact k2 i e q
  | [], _ :: _, n, h => h.elim
  | some _ :: _, [], n, h => h.elim
  | none :: _, [], n, h => h.elim
theorem Weak.look {sd sd' : SD} {S S' : Sto} (h : sdIn sd' sd S'.n) (hc : ∀ j c, S'.get j = some c → c.bd S'.n = true ∧ S.get j = some c) : Weak sd S sd' S' := .cut (sdIn_ok h).1 (sdIn_ok h).2 hc
theorem Weak.look0 {sd sd' : SD} {S : Sto} (h : sdIn sd' sd 0) : Weak sd S sd' ⟨0, []⟩ := .look h fun j c q => by simp [Sto.get] at q
/-- one cell, the dice, is kept -/
theorem Weak.dice {sd sd' : SD} {S : Sto} (h : sdIn sd' sd 1) (hd : S.get 0 = some .dice) : Weak sd S sd' ⟨1, [.dice]⟩ := .look h fun j c q => by
  have hj := Sto.get_lt q
  have hj : j < 1 := hj
  have e : j = 0 := by omega
  subst e
  have e2 : c = .dice := by simpa [Sto.get] using q.symm
  subst e2
  exact ⟨rfl, hd⟩

/-! ### all ends -/
inductive AllR {α : Type} : Res α → (α → Sto → Prop) → Prop
  | ok {a : α} {S : Sto} {P : α → Sto → Prop} (h : P a S) : AllR (.ok a S) P
  | pick {t : Nat} {f : Nat → Res α} {P : α → Sto → Prop} (h : ∀ k, k < t → AllR (f k) P) : AllR (.pick t f) P
theorem AllR.mono {α : Type} {r : Res α} {P Q : α → Sto → Prop} (h : AllR r P) (f : ∀ a S, P a S → Q a S) : AllR r Q := by
  induction h with
  | ok h => exact .ok (f _ _ h)
  | pick h ih => exact .pick fun k hk => ih k hk f
theorem AllR.bind {α β : Type} {r : Res α} {k : α → Sto → Res β} {P : β → Sto → Prop} (h : AllR r fun a S => AllR (k a S) P) : AllR (r.bind k) P := by
  generalize hq : (fun a S => AllR (k a S) P) = q at h
  induction h with
  | ok h => subst hq; exact h
  | pick h ih => exact .pick fun j hj => ih j hj hq
theorem AllR.aft {G : Glo} {α β : Type} {RL : Rho → Hp → α → β → Prop} {ρ : Rho} {H : Hp} {r : Res α} {Q : β → Hp → Prop} {W : XK} {P : α → Sto → Prop} (h : AllR r P) (f : ∀ a S, P a S → ∀ ρ' H' v, Le G ρ H ρ' H' → Rep G ρ' S H' → RL ρ' H' a v → Q v H') : Aft G RL ρ H r Q W := by
  induction h with
  | ok h => exact f _ _ h
  | pick h ih => exact fun k hk => ih k hk f
/-- by one look at all ends -/
def endsR {α : Type} (p : α → Sto → Bool) : Res α → Bool
  | .ok a S => p a S
  | .pick t f => (List.range t).all fun k => endsR p (f k)
  | _ => false
theorem AllR.look {α : Type} {p : α → Sto → Bool} : ∀ {r : Res α}, endsR p r = true → AllR r fun a S => p a S = true
  | .ok a S, h => .ok h
  | .pick t f, h => .pick fun k hk => AllR.look (List.all_eq_true.mp h k (List.mem_range.mpr hk))
  | .exc _ _, h => by simp only [endsR] at h; cases h
  | .stuck, h => by simp only [endsR] at h; cases h
inductive AllS : SRes → (SD → Sto → Prop) → (D → Sto → Prop) → Prop
  | nx {sd : SD} {S : Sto} {N : SD → Sto → Prop} {T : D → Sto → Prop} (h : N sd S) : AllS (.nx sd S) N T
  | rt {d : D} {S : Sto} {N : SD → Sto → Prop} {T : D → Sto → Prop} (h : T d S) : AllS (.rt d S) N T
  | pick {t : Nat} {f : Nat → SRes} {N : SD → Sto → Prop} {T : D → Sto → Prop} (h : ∀ k, k < t → AllS (f k) N T) : AllS (.pick t f) N T
theorem AllS.aft {G : Glo} {ρ : Rho} {H : Hp} {r : SRes} {E : Ends} {W : WX} {N : SD → Sto → Prop} {T : D → Sto → Prop} (h : AllS r N T) (f : ∀ sd S, N sd S → ∀ ρ' H' σ', Rep G ρ' S H' → RelSt G ρ' H' sd σ' → E.nx σ' H') (g : ∀ d S, T d S → ∀ ρ' H' v, Rep G ρ' S H' → RelD G ρ' H' d v → E.rt v H') : AftS G ρ H r E W := by
  induction h with
  | nx h => exact fun ρ' H' σ' _ a b => f _ _ h ρ' H' σ' a b
  | rt h => exact fun ρ' H' v _ a b => g _ _ h ρ' H' v a b
  | pick h ih => exact fun k hk => ih k hk f g
theorem AllS.mono {r : SRes} {N N' : SD → Sto → Prop} {T T' : D → Sto → Prop} (h : AllS r N T) (f : ∀ sd S, N sd S → N' sd S) (g : ∀ d S, T d S → T' d S) : AllS r N' T' := by
  induction h with
  | nx h => exact .nx (f _ _ h)
  | rt h => exact .rt (g _ _ h)
  | pick h ih => exact .pick fun k hk => ih k hk f g
theorem AllS.bind {α : Type} {r : Res α} {sd : SD} {k : α → Sto → SRes} {N : SD → Sto → Prop} {T : D → Sto → Prop} (h : AllR r fun a S => AllS (k a S) N T) : AllS (bindS r sd k) N T := by
  generalize hq : (fun a S => AllS (k a S) N T) = q at h
  induction h with
  | ok h => subst hq; exact h
  | pick h ih => exact .pick fun j hj => ih j hj hq
theorem AllS.andThen {r : SRes} {f : MS} {N : SD → Sto → Prop} {T : D → Sto → Prop} (h : AllS r (fun sd S => AllS (f sd S) N T) T) : AllS (r.andThen f) N T := by
  generalize hq : (fun sd S => AllS (f sd S) N T) = q at h
  induction h with
  | nx h => subst hq; exact h
  | rt h => exact .rt h
  | pick h ih => exact .pick fun j hj => ih j hj hq
theorem AllS.turn {r : SRes} {f : MS} {N : SD → Sto → Prop} {T : D → Sto → Prop} (h : AllS r (fun sd S => AllS (f sd S) N T) T) : AllS (r.turn f) N T := by
  generalize hq : (fun sd S => AllS (f sd S) N T) = q at h
  induction h with
  | nx h => subst hq; exact h
  | rt h => exact .rt h
  | pick h ih => exact .pick fun j hj => ih j hj hq
theorem AllS.res {r : SRes} {P : D → Sto → Prop} (h : AllS r (fun _ S => P .non S) P) : AllR r.res P := by
  generalize hq : (fun (_ : SD) S => P .non S) = q at h
  induction h with
  | nx h => subst hq; exact .ok h
  | rt h => exact .ok h
  | pick h ih => exact .pick fun j hj => ih j hj hq
theorem AllR.mk {n np : Nat} {b : MS} {ds : List D} {S : Sto} {P : D → Sto → Prop} (hl : ds.length = np) (h : AllS (b (stD n ds) S) (fun _ S => P .non S) P) : AllR (mkF n np b ds S) P := by
  unfold mkF
  rw [if_pos hl]
  exact h.res

/-! ### the top's judgements -/
def tl (G : Glo) (sd : SD) (S : Sto) : L2.St → Hp → Prop := fun σ H => ∃ ρ, RelSt G ρ H sd σ ∧ Rep G ρ S H
theorem tl.weak {G : Glo} {sd sd' : SD} {S S' : Sto} {σ : L2.St} {H : Hp} (h : tl G sd S σ H) (w : Weak sd S sd' S') : tl G sd' S' σ H :=
  let ⟨ρ, a, b⟩ := h
  w G ρ H σ a b
theorem tl.set {G : Glo} {sd : SD} {S : Sto} {σ : L2.St} {H : Hp} {i : Nat} {k : Int} (h : tl G sd S σ H) : tl G (sd.set i (some (.int k))) S (σ.set i (some (.int k))) H :=
  let ⟨ρ, a, b⟩ := h
  ⟨ρ, a.set rel_int i, b⟩
section
variable {G : Glo} {X : Cx}
/-- a plain statement -/
theorem topS {st : Stmt} {m : MS} {W : WX} (h : PSm G X st m) (ok : XOk G X W) {sd sd' : SD} {S S' : Sto} (a : AllS (m sd S) (fun sd1 S1 => Weak sd1 S1 sd' S') fun _ _ => False) : PS X st (fun E σ H => tl G sd S σ H ∧ ∀ σ' H', tl G sd' S' σ' H' → E.nx σ' H') :=
  PS_imp (h W ok) fun E σ H ⟨⟨ρ, hs, hr⟩, k⟩ => ⟨sd, S, ρ, hs, hr, a.aft (fun sd1 S1 w ρ' H' σ' r1 r2 => k σ' H' (tl.weak ⟨ρ', r2, r1⟩ w)) fun d S1 z => z.elim⟩
theorem topSx {st : Stmt} {m : MS} {W : WX} (h : PSm G X st m) (ok : XOk G X W) {sd : Nat → SD} {sd' : SD} {S S' : Sto} {n : Nat} (a : ∀ i, i < n → AllS (m (sd i) S) (fun sd1 S1 => Weak sd1 S1 sd' S') fun _ _ => False) : PS X st (fun E σ H => (∃ i, i < n ∧ tl G (sd i) S σ H) ∧ ∀ σ' H', tl G sd' S' σ' H' → E.nx σ' H') :=
  PS_imp (h W ok) fun E σ H ⟨⟨i, hi, ρ, hs, hr⟩, k⟩ => ⟨sd i, S, ρ, hs, hr, (a i hi).aft (fun sd1 S1 w ρ' H' σ' r1 r2 => k σ' H' (tl.weak ⟨ρ', r2, r1⟩ w)) fun d S1 z => z.elim⟩
/-- the answer -/
theorem topR {e : Expr} {m : ME} {W : WX} {pos : Pos} (h : PEm G X e m) (ok : XOk G X W) {sd : SD} {S : Sto} (a : AllR (m sd S) fun d _ => d = .bl true) : PS X (.Return (some e) pos) (fun E σ H => tl G sd S σ H ∧ ∀ H', E.rt (.bl true) H') :=
  PS_imp (ps_ret (h W ok)) fun E σ H ⟨⟨ρ, hs, hr⟩, k⟩ => ⟨sd, S, ρ, hs, hr, a.aft fun d S1 e ρ' H' v _ _ rd => by
    subst e
    simp only [RelD] at rd
    subst rd
    exact k H'⟩
/-- a test that is never so -/
def Never (G : Glo) (X : Cx) (e : Expr) (sd : SD) (S : Sto) : Prop := ∃ T, PT X e T ∧ ∀ σ H Q, tl G sd S σ H → (∀ H1, tl G sd S σ H1 → Q false H1) → T σ H Q
def NeverW (G : Glo) (X : Cx) (e : Expr) (sd : SD) (S : Sto) : Prop := ∃ T, PW X e T ∧ ∀ σ H Q, tl G sd S σ H → (∀ H1, tl G sd S σ H1 → Q false H1) → T σ H Q
theorem never1 {e : Expr} {m : MT} {W : WX} (h : PTm G X e m) (ok : XOk G X W) {sd : SD} {S : Sto} (a : AllR (m sd S) fun b S1 => b = false ∧ Weak sd S1 sd S) : Never G X e sd S :=
  ⟨_, h W ok, fun σ H Q ⟨ρ, hs, hr⟩ k => ⟨sd, S, ρ, hs, hr, a.aft fun b S1 ⟨e, w⟩ ρ' H' v le r1 rb => by
    have e2 : b = v := rb
    subst e2
    subst e
    exact k H' (tl.weak ⟨ρ', hs.mono le, r1⟩ w)⟩⟩
theorem neverW1 {e : Expr} {pos : Pos} {sd : SD} {S : Sto} (h : Never G X e sd S) : NeverW G X (.BoolOp .Or [e] pos) sd S :=
  let ⟨T, h1, h2⟩ := h
  ⟨T, pw_or1 h1, h2⟩
theorem neverWc {e f : Expr} {es : List Expr} {pos : Pos} {sd : SD} {S : Sto} (h : Never G X e sd S) (h' : NeverW G X (.BoolOp .Or (f :: es) pos) sd S) : NeverW G X (.BoolOp .Or (e :: f :: es) pos) sd S :=
  let ⟨T, h1, h2⟩ := h
  let ⟨T', h3, h4⟩ := h'
  ⟨_, pw_or h1 h3, fun σ H Q ht k => h2 σ H _ ht fun H1 ht1 => h4 σ H1 Q ht1 k⟩
theorem neverW {e : Expr} {sd : SD} {S : Sto} (h : NeverW G X e sd S) : Never G X e sd S :=
  let ⟨T, h1, h2⟩ := h
  ⟨T, h1.pt, h2⟩
/-- if never: .. -/
theorem topI {c : Expr} {a : List Stmt} {pos : Pos} {sd : SD} {S : Sto} (h : Never G X c sd S) : PS X (.If c a [] pos) (fun E σ H => tl G sd S σ H ∧ ∀ σ' H', tl G sd S σ' H' → E.nx σ' H') := by
  obtain ⟨T, h1, h2⟩ := h
  have no : PSs X a (fun _ _ _ => False) := ⟨fun pins s σ H D I h => h.elim⟩
  exact PS_imp (ps_if h1 no pss_nil) fun E σ H ⟨ht, k⟩ => h2 σ H _ ht fun H1 ht1 => k σ H1 ht1
/-- a row of statements, the state between them told -/
theorem topC {st : Stmt} {rest : List Stmt} {sd sd' : SD} {S S' : Sto} {t : TS} (h : PS X st (fun E σ H => tl G sd S σ H ∧ ∀ σ' H', tl G sd' S' σ' H' → E.nx σ' H')) (h' : PSs X rest t) (k : ∀ E σ H, tl G sd' S' σ H → t E σ H → True) :
    PSs X (st :: rest) (fun E σ H => tl G sd S σ H ∧ ∀ σ' H', tl G sd' S' σ' H' → t E σ' H') := PSs_imp (pss_cons h h') fun E σ H ⟨a, b⟩ => ⟨a, b⟩
/-- for x in range(a): body -/
theorem topF {x : Str} {i : Nat} {a : Expr} {body : List Stmt} {ma : MA} {W : WX} {p p1 p2 pos : Pos} {tb : TS} {sd sd' : SD} {S S' : Sto} {j : Int} (ok : XOk G X W) (hc : X.calm = true) (hg : Gl X "range") (hm : X.mg "range" = none) (ha : PAm G X [a] ma) (hgt : PG X (.Name x p1) (gOf X.K (.nm i))) (hb : PSs X body tb)
    (e : ma sd S = .ok [.int j] S) (hj : -4611686018427387904 ≤ j ∧ j < 4611686018427387904) (w : Weak sd S sd' S') (hs : starEach [a] X.env = [(false, eval a X.env)] := by rfl) (hf : ∀ x, foldedSetIterable (.Call (.Name "range" p) [a] [] p2) X.env x = pure x := by intro _; rfl) :
    PS X (.For (.Name x p1) (.Call (.Name "range" p) [a] [] p2) body [] pos) (fun E σ H => tl G sd S σ H ∧ (∀ k : Nat, k < j.toNat → ∀ σ' H', tl G (sd'.set i (some (.int k))) S' σ' H' → tb { E with nx := tl G sd' S', ct := tl G sd' S', bk := E.nx } σ' H') ∧ ∀ σ' H', tl G sd' S' σ' H' → E.nx σ' H') := by
  refine PS_imp (ps_for ok.own hc (pi_range1 hg hm (ha W ok) hs) hgt hb hf) fun E σ H ⟨⟨ρ, hs, hr⟩, hbody, hend⟩ => ?_
  refine ⟨sd, S, ρ, hs, hr, ?_⟩
  rw [e]
  intro ρ1 H1 xs le r1 rd
  simp only [RelDs, RelD] at rd
  obtain ⟨_, _, rfl, rfl, rfl⟩ := rd
  refine ⟨j, rfl, hj.1, hj.2, ?_⟩
  have t1 : tl G sd' S' σ H1 := tl.weak ⟨ρ1, hs.mono le, r1⟩ w
  refine ⟨fun k m σ H => k + m = j.toNat ∧ tl G sd' S' σ H, ⟨j.toNat, by omega, t1⟩, fun k m σ H ⟨hk, ht⟩ => ?_⟩
  obtain ⟨ρ2, hs2, hr2⟩ := id ht
  have it := it_rng (G := G) (ρ := ρ2) (H := H) (lo := 0) (n := j.toNat) k ρ2 H S' Le.refl hr2
  simp only [itNext] at it
  by_cases hlt : k < j.toNat
  · rw [if_pos hlt] at it
    obtain ⟨go, yl⟩ := it
    refine .inr ⟨go, tl G sd' S', fun σ' H' q => ⟨m - 1, by omega, by omega, q⟩, fun v H2 hy => ?_⟩
    obtain ⟨l2, r2, rd⟩ := yl v H2 hy
    refine gOf_ok (ρ := ρ2) (sd := sd') (sd' := sd'.set i (some (.int (0 + k * 1)))) ok.kk rd (hs2.mono l2) rfl fun σ' s' _ => ?_
    refine hbody k hlt σ' H2 ⟨ρ2, ?_, r2⟩
    have e2 : (0 + (k : Int) * 1) = k := by omega
    rw [e2] at s'
    exact s'
  · rw [if_neg hlt] at it
    exact .inl ⟨it, hend σ H ht⟩
end
theorem fn_top {G : Glo} {P : Program} {w : World} {mg : Str → Option Value} {base : Heap} {x qual : Str} {st : Stmt} {f : Addr} {fd : FuncData} {N ps : List Str} {k nn : Nat} (F : Fun G.K x qual st f fd) (Sc : FnScope N ps (defScope st)) (hp : ps.length = 1) (hb : Binds G.K fd ps [])
    (body : ∀ (cdv : Value) (A : Around) (outer : List Env) (s : Shared) (H : Hp) (W : WX) (ns : List Int), ns.length ≤ nn → Room k (A.deeper (envOfC qual (defScope st) s.heap.objs.size f cdv)) → (A.deeper (envOfC qual (defScope st) s.heap.objs.size f cdv)).guards = some [] →
      XOk G (cxOf (L2.CX P w) P w G.K mg base N qual (defScope st) f cdv A outer s H (fun _ _ _ => False)) W →
      ∃ t : TS, PSs (cxOf (L2.CX P w) P w G.K mg base N qual (defScope st) f cdv A outer s H (fun _ _ _ => False)) (defBody st) t ∧ ∀ (E : Ends) σ H, tl G (some (.scr ns) :: List.replicate (N.length - 1) none) ⟨0, []⟩ σ H → (∀ H', E.rt (.bl true) H') → t E σ H) : FnT G P w mg base (k + 1) nn f := by
  intro A outer s H us vs ns ρ hr hg e0 r hn rd rp
  obtain ⟨oc, od, kV, doc, pm, an, cdv, ct, osl, rfl, lk, hcd⟩ := F.ex
  have hlen : vs.length = ps.length := by rw [← rd.length, hp]; rfl
  have hus : (us ++ []).length = ps.length := by rw [List.append_nil, ← r.length, hlen]
  have hbb := hb s us (e0.mod.kin.keeps fun b o e => (e0.bs b o e).1) hus
  rw [List.append_nil] at hbb
  refine LamX.run_ofS (N := N) lk hcd Sc hr e0 hbb r hlen fun hr2 => ?_
  obtain ⟨t, h1, h2⟩ := body cdv A outer s H (fun cls d _ H => False) ns hn hr2 hg ⟨takes_of rfl rfl rfl rfl, passes_of rfl, rfl⟩
  exact ⟨t, h1, h2 _ _ _ ⟨ρ, stD_rel (N := N) rd, rp⟩ fun _ => rfl⟩
end Y

/-! Yh: stores that grow, comprehensions whose parts change nothing. -/
namespace Y
open PySem PySem.Spec PyProof.Rows L2
def Ext (S S' : Sto) : Prop := ∀ j c, S.get j = some c → S'.get j = some c
theorem Ext.refl {S : Sto} : Ext S S := fun _ _ h => h
theorem Ext.trans {S S1 S2 : Sto} (a : Ext S S1) (b : Ext S1 S2) : Ext S S2 := fun j c h => b j c (a j c h)
theorem Ext.new {S : Sto} {c : Cell} : Ext S (S.new c) := fun j c' h => by
  rw [Sto.get_new]
  have := Sto.get_lt h
  rw [if_neg (by omega)]
  exact h
theorem Sto.get_new_self {S : Sto} {c : Cell} : (S.new c).get S.n = some c := by
  rw [Sto.get_new, if_pos rfl]
theorem Ext.newset {S : Sto} {c c' : Cell} : Ext S ((S.new c).set S.n c') := fun j x h => by
  have := Sto.get_lt h
  rw [Sto.get_set_ne (by omega)]
  exact Ext.new j x h
theorem lc_gen {l : List D} {q : MT} {e : ME} {sd : SD} {dl : Nat} {p : D → Bool} {f : D → D} (hq : ∀ d ∈ l, ∀ S, q (sd.set 1 (some d)) S = .ok (p d) S) (he : ∀ d ∈ l, ∀ S, e (sd.set 1 (some d)) S = .ok (f d) S) : ∀ (n i : Nat) (acc : List D) (S : Sto), S.get dl = some (.lst acc) → acc.length + l.length ≤ 16777216 + i → i ≤ l.length → l.length < n + i →
    lcLoop (.tup l) (.nm 1) q e sd dl n i S = .ok (.loc dl) (S.set dl (.lst (acc ++ ((l.drop i).filter p).map f)))
  | 0, i, acc, S, hd, hl, hi, hn => by omega
  | n + 1, i, acc, S, hd, hl, hi, hn => by
    unfold lcLoop
    by_cases h : i < l.length
    · have e1 : l[i]? = some l[i] := List.getElem?_eq_getElem h
      have hm : l[i] ∈ l := List.getElem_mem h
      have dr : l.drop i = l[i] :: l.drop (i + 1) := List.drop_eq_getElem_cons h
      simp only [itNext, e1, asg, hq _ hm S, Res.bindX]
      cases hp : p l[i] with
      | true =>
        have e2 := he _ hm S
        have g2 : (S.set dl (.lst (acc ++ [f l[i]]))).get dl = some (.lst (acc ++ [f l[i]])) := Sto.get_set_self hd
        have ih := lc_gen hq he n (i + 1) (acc ++ [f l[i]]) (S.set dl (.lst (acc ++ [f l[i]]))) g2 (by simp; omega) h (by omega)
        simp only [e2, Res.bindX, hd, if_true]
        rw [if_pos (by omega), ih, Sto.set_set, dr, List.filter_cons, hp]
        simp
      | false =>
        have ih := lc_gen hq he n (i + 1) acc S hd (by omega) h (by omega)
        simp only [Bool.false_eq_true, if_false]
        rw [ih, dr, List.filter_cons, hp]
        simp
    · have e1 : l[i]? = none := List.getElem?_eq_none (by omega)
      have dr : l.drop i = [] := List.drop_eq_nil_of_le (by omega)
      simp only [itNext, e1]
      rw [dr]
      simp only [List.filter_nil, List.map_nil, List.append_nil]
      rw [Sto.set_get hd]
theorem fRepr_ok {S : Sto} {d : D} {p : PyData} (h1 : isDs0 d S = none) (h2 : isDct0 d S = false) (h3 : toPy S 12 d = some p) (h4 : p.showable = true) (h5 : p.shown.length ≤ 16777216) (h6 : p.depth ≤ 60) (h7 : p.hasDict = false) : fReprD [d] S = .ok (.str p.shown.cps.toList) S := by
  simp only [fReprD, h1, fRepr, h2, h3, h4, h6, h7, Bool.true_and, Bool.false_eq_true, if_false, decide_true, Bool.and_true, Bool.not_false, decide_eq_true_eq, if_pos h5]
theorem eq_str {S : Sto} {x : List Nat} (h : PyData.strOk ⟨x.toArray⟩ = true) : eqDat S (.str x) (.str x) = some true := by
  have e : toPy S 12 (.str x) = some (.str ⟨x.toArray⟩) := rfl
  have sh : SeqAt.shaped (.str ⟨x.toArray⟩) = true := by
    unfold SeqAt.shaped
    rw [Bool.and_eq_true]
    exact ⟨h, by rw [decide_eq_true_eq]; simp [PyData.depth]⟩
  have ev : PyData.eqv (.str ⟨x.toArray⟩) (.str ⟨x.toArray⟩) = true := by
    show ((⟨x.toArray⟩ : Str) == ⟨x.toArray⟩) = true
    exact beq_self_eq_true _
  unfold eqDat
  rw [e]
  simp only [sh, ev, Bool.and_self, if_true]
theorem cNe_str {S : Sto} {x : List Nat} (h : PyData.strOk ⟨x.toArray⟩ = true) : cNe (.str x) (.str x) S = .ok (.bl false) S := by
  unfold cNe
  rw [eq_str h]
  rfl
theorem cEq_str {S : Sto} {x : List Nat} (h : PyData.strOk ⟨x.toArray⟩ = true) : cEq (.str x) (.str x) S = .ok (.bl true) S := by
  unfold cEq
  rw [eq_str h]
section
variable {f : MF} {g : D → D → Sto → Res D} {h : D → Sto → Res D} {m a b : ME} {r : MA} {t : MT} {s s' : MS} {sd sd1 : SD} {S S1 S2 : Sto} {x y : D} {xs : List D} {i : Nat}
theorem mCall_ok (e : r sd S = .ok xs S1) : mCall f r sd S = f xs S1 := by unfold mCall; rw [e]; rfl
theorem mCons_ok (e : m sd S = .ok x S1) (e2 : r sd S1 = .ok xs S2) : mCons m r sd S = .ok (x :: xs) S2 := by unfold mCons; rw [e]; show (r sd S1).bind _ = _; rw [e2]; rfl
theorem mNil_ok : mNil sd S = .ok [] S := rfl
theorem mCall1 (e : m sd S = .ok x S1) : mCall f (mCons m mNil) sd S = f [x] S1 := mCall_ok (mCons_ok e mNil_ok)
theorem mLst_ok (e : r sd S = .ok xs S1) (hl : xs.length ≤ 16777216) : mLst r sd S = .ok (.loc S1.n) (S1.new (.lst xs)) := by unfold mLst; rw [e]; show (if _ then _ else _) = _; rw [if_pos hl]
theorem mTup_ok (e : r sd S = .ok xs S1) (hl : xs.length ≤ 16777216) : mTup r sd S = .ok (.tup xs) S1 := by unfold mTup; rw [e]; show (if _ then _ else _) = _; rw [if_pos hl]
theorem mAndV_t (e : a sd S = .ok (.bl true) S1) : mAndV a b sd S = b sd S1 := by unfold mAndV; rw [e]; rfl
theorem mAndV_f (e : a sd S = .ok (.bl false) S1) : mAndV a b sd S = .ok (.bl false) S1 := by unfold mAndV; rw [e]; rfl
theorem mBin_ok (e : a sd S = .ok x S1) (e2 : b sd S1 = .ok y S2) : mBin g a b sd S = g x y S2 := by unfold mBin; rw [e]; show (b sd S1).bind _ = _; rw [e2]; rfl
theorem mUn_ok (e : m sd S = .ok x S1) : mUn h m sd S = h x S1 := by unfold mUn; rw [e]; rfl
theorem mTst_ok {k : Bool} (e : mBin g a b sd S = .ok (.bl k) S1) : mTst g a b sd S = .ok k S1 := by unfold mTst; rw [e]; rfl
theorem sRet_ok (e : m sd S = .ok x S1) : sRet m sd S = .rt x S1 := by unfold sRet; rw [e]; rfl
theorem sSet_ok (e : m sd S = .ok x S1) : sSet i m sd S = .nx (sd.set i (some x)) S1 := by unfold sSet; rw [e]; rfl
theorem sIf_t (e : t sd S = .ok true S1) : sIf t s s' sd S = s sd S1 := by unfold sIf; rw [e]; rfl
theorem sIf_f (e : t sd S = .ok false S1) : sIf t s s' sd S = s' sd S1 := by unfold sIf; rw [e]; rfl
theorem sSeq_nx (e : s sd S = .nx sd1 S1) : sSeq s s' sd S = s' sd1 S1 := by unfold sSeq; rw [e]; rfl
theorem sSeq_rt (e : s sd S = .rt x S1) : sSeq s s' sd S = .rt x S1 := by unfold sSeq; rw [e]; rfl
end
end Y

/-! Yi: texts: how long they are, that their signs are such. -/
namespace Y
open PySem PySem.Spec PyProof.Rows L2
structure Txt (t : Str) (n : Nat) : Prop where
  len : t.length ≤ n
  ok : PyData.strOk t = true
theorem strOk_app (a b : Str) : PyData.strOk (a ++ b) = (PyData.strOk a && PyData.strOk b) := by
  show (a.cps ++ b.cps).all (· < 0x110000) = _
  rw [Array.all_append]
  rfl
theorem strOk_of (s : String) : PyData.strOk (Str.ofString s) = true := by
  rw [Str.ofString_eq_toList]
  unfold PyData.strOk
  rw [← Array.all_toList, List.all_eq_true]
  intro c hc
  simp only [List.mem_map] at hc
  obtain ⟨ch, _, rfl⟩ := hc
  have h := ch.valid
  rw [decide_eq_true_eq]
  have h2 : ch.toNat = ch.val.toNat := rfl
  rw [h2]
  rcases h with h | h
  · have : ch.val.toNat < 0xd800 := h
    omega
  · have : ch.val.toNat < 0x110000 := h.2
    omega
theorem Txt.app {a b : Str} {n m : Nat} (h : Txt a n) (h2 : Txt b m) : Txt (a ++ b) (n + m) := ⟨by rw [strLen_append]; exact Nat.add_le_add h.len h2.len, by rw [strOk_app, h.ok, h2.ok]; rfl⟩
theorem Txt.mono {a : Str} {n m : Nat} (h : Txt a n) (l : n ≤ m) : Txt a m := ⟨Nat.le_trans h.len l, h.ok⟩
theorem Txt.lit (s : String) {n : Nat} (h : (Str.ofString s).length ≤ n) : Txt (Str.ofString s) n := ⟨h, strOk_of s⟩
theorem Txt.sep (k : Nat) : Txt ((if k > 0 then ", " else "" : String) : Str) 2 := by
  split
  · exact .lit _ (by decide +kernel)
  · exact .lit _ (by decide +kernel)
theorem Txt.from_ {m : Nat} : ∀ {ts : List Str} {k n : Nat} {acc : Str}, Txt acc n → (∀ t ∈ ts, Txt t m) → Txt (textFrom k acc ts) (n + ts.length * (m + 2))
  | [], k, n, acc, h, _ => by simpa [textFrom] using h
  | t :: ts, k, n, acc, h, h2 => by
    have ih := Txt.from_ (ts := ts) (k := k + 1) ((h.app (.sep k)).app (h2 t (List.mem_cons_self ..))) fun x hx => h2 x (List.mem_cons_of_mem _ hx)
    refine ih.mono ?_
    rw [List.length_cons, Nat.succ_mul]
    omega
theorem Txt.list {m : Nat} {ts : List Str} (h : ∀ t ∈ ts, Txt t m) : Txt (listText ts) (2 + ts.length * (m + 2)) :=
  ((Txt.from_ (k := 0) (Txt.lit "[" (n := 1) (by decide +kernel)) h).app (Txt.lit "]" (n := 1) (by decide +kernel))).mono (by omega)
theorem Txt.join {m : Nat} : ∀ {ts : List Str}, (∀ t ∈ ts, Txt t m) → Txt (Str.join ", " ts) (ts.length * (m + 2))
  | [], _ => ⟨Nat.zero_le _, by decide +kernel⟩
  | [x], h => (h x (List.mem_cons_self ..)).mono (by simp)
  | x :: y :: r, h => by
    have ih := Txt.join (ts := y :: r) fun t ht => h t (List.mem_cons_of_mem _ ht)
    have e := ((h x (List.mem_cons_self ..)).app (Txt.lit ", " (n := 2) (by decide +kernel))).app ih
    refine (show Txt (Str.join ", " (x :: y :: r)) _ from e).mono ?_
    have q : (x :: y :: r).length * (m + 2) = (y :: r).length * (m + 2) + (m + 2) := by rw [List.length_cons, Nat.succ_mul]
    omega
theorem Txt.tuple {m : Nat} {ts : List Str} (h : ∀ t ∈ ts, Txt t m) : Txt (tupleText ts) (3 + ts.length * (m + 2)) := by
  have e : Txt ((if ts.length == 1 then ",)" else ")" : String) : Str) 2 := by
    split
    · exact .lit _ (by decide +kernel)
    · exact .lit _ (by decide +kernel)
  exact (((Txt.lit "(" (n := 1) (by decide +kernel)).app (Txt.join h)).app e).mono (by omega)
theorem Txt.int {i : Int} (h : i.natAbs.log2 < 1920) : Txt (Str.ofString (toString i)) 1921 := .lit _ (PyProof.Rows.int_text_len_1921 h)
/-- data whose text is told without more ado -/
structure Tells (p : PyData) (n k : Nat) : Prop where
  sh : p.showable = true
  nd : p.hasDict = false
  dp : p.depth ≤ k
  tx : Txt p.shown n
structure TellsA (ps : List PyData) (n k : Nat) : Prop where
  sh : PyData.showableAll ps = true
  nd : PyData.hasDictAll ps = false
  dp : PyData.depthAll ps ≤ k
  tx : ∀ t ∈ PyData.shownAll ps, Txt t n
theorem TellsA.nil {n k : Nat} : TellsA [] n k := ⟨rfl, rfl, by simp [PyData.depthAll], fun t ht => by cases ht⟩
theorem TellsA.cons {p : PyData} {ps : List PyData} {n k : Nat} (h : Tells p n k) (h2 : TellsA ps n k) : TellsA (p :: ps) n k :=
  ⟨by simp [PyData.showableAll, h.sh, h2.sh], by simp [PyData.hasDictAll, h.nd, h2.nd], by
    have a := h.dp
    have b := h2.dp
    simp only [PyData.depthAll]
    omega, fun t ht => by
    rcases List.mem_cons.mp (show t ∈ p.shown :: PyData.shownAll ps from ht) with rfl | ht
    · exact h.tx
    · exact h2.tx t ht⟩
theorem shownAll_len : ∀ ps : List PyData, (PyData.shownAll ps).length = ps.length
  | [] => rfl
  | p :: ps => by simp [PyData.shownAll, shownAll_len ps]
theorem TellsA.list {ps : List PyData} {n k : Nat} (h : TellsA ps n k) : Tells (.list ps) (2 + ps.length * (n + 2)) (k + 1) :=
  ⟨h.sh, h.nd, by have := h.dp; simp only [PyData.depth]; omega, by
    have e := Txt.list h.tx
    rw [shownAll_len] at e
    exact e⟩
theorem TellsA.tuple {ps : List PyData} {n k : Nat} (h : TellsA ps n k) : Tells (.tuple ps) (3 + ps.length * (n + 2)) (k + 1) :=
  ⟨h.sh, h.nd, by have := h.dp; simp only [PyData.depth]; omega, by
    have e := Txt.tuple h.tx
    rw [shownAll_len] at e
    exact e⟩
theorem Tells.int {i : Int} (h : i.natAbs.log2 < 1920) : Tells (.int i) 1921 1 := ⟨by simp only [PyData.showable, decide_eq_true_eq]; exact h, rfl, by simp [PyData.depth], Txt.int h⟩
theorem Tells.mono {p : PyData} {n k m l : Nat} (h : Tells p n k) (hn : n ≤ m) (hk : k ≤ l) : Tells p m l := ⟨h.sh, h.nd, Nat.le_trans h.dp hk, h.tx.mono hn⟩
theorem repr_tells {S : Sto} {d : D} {p : PyData} {n : Nat} (h1 : isDs0 d S = none) (h2 : isDct0 d S = false) (h3 : toPy S 12 d = some p) (h : Tells p n 60) (hn : n ≤ 16777216) : fReprD [d] S = .ok (.str p.shown.cps.toList) S := fRepr_ok h1 h2 h3 h.sh (Nat.le_trans h.tx.len hn) h.dp h.nd
theorem strOk_shown {p : PyData} {n k : Nat} (h : Tells p n k) : PyData.strOk ⟨p.shown.cps.toList.toArray⟩ = true := by rw [str_eta]; exact h.tx.ok
end Y

namespace K00
open PySem PySem.Spec PyProof.Rows L2 Y
abbrev pw : Program := PySem.Challenge.pw_crosswebs_k00_words_and_errors
def top (i : Nat) : Stmt := PySem.Challenge.pw_crosswebs_k00_words_and_errors.main.body.getD i (.Pass ⟨0, 0, 0, 0⟩)
abbrev s_is_integer : Stmt := top 3
abbrev s_is_count : Stmt := top 4
abbrev s_are_counts : Stmt := top 5
abbrev s_Ldice : Stmt := top 29
abbrev s_Lroll : Stmt := top 30
abbrev s_Lpick : Stmt := top 31
abbrev s_Lis_number : Stmt := top 32
abbrev s_Lare_numbers : Stmt := top 33
abbrev s_Lvalues : Stmt := top 34
abbrev s_Lwords_right : Stmt := top 35
abbrev s_Lraised_by : Stmt := top 36
abbrev s_Lplain_errors : Stmt := top 37
abbrev s_Lcaught_by : Stmt := top 38
abbrev s_Lerrors_right : Stmt := top 39
abbrev s_law : Stmt := top 40
abbrev si_NothingToUndo : Stmt := inCls (top 25) 0
theorem kxs_NothingToUndo : KxS si_NothingToUndo "self" "asked" "asked" := ⟨⟨_, _, _, _, _, _, _, _, _, _, _, _, rfl, fun _ _ _ _ _ => ⟨_, rfl⟩⟩, fun _ _ _ _ _ _ _ _ _ _ => rfl, ⟨_, rfl, rfl⟩, rfl, rfl, rfl, rfl, by decide +kernel, rfl, rfl, rfl, by decide +kernel, fun _ _ _ _ _ => rfl, fun _ _ _ _ _ => rfl, by decide +kernel, by decide +kernel⟩
abbrev si_InvalidNumber : Stmt := inCls (top 24) 0
theorem kxs_InvalidNumber : KxS si_InvalidNumber "self" "value" "value" := ⟨⟨_, _, _, _, _, _, _, _, _, _, _, _, rfl, fun _ _ _ _ _ => ⟨_, rfl⟩⟩, fun _ _ _ _ _ _ _ _ _ _ => rfl, ⟨_, rfl, rfl⟩, rfl, rfl, rfl, rfl, by decide +kernel, rfl, rfl, rfl, by decide +kernel, fun _ _ _ _ _ => rfl, fun _ _ _ _ _ => rfl, by decide +kernel, by decide +kernel⟩
abbrev si_ParseError : Stmt := inCls (top 23) 0
theorem kxs_ParseError : KxS si_ParseError "self" "number" "number" := ⟨⟨_, _, _, _, _, _, _, _, _, _, _, _, rfl, fun _ _ _ _ _ => ⟨_, rfl⟩⟩, fun _ _ _ _ _ _ _ _ _ _ => rfl, ⟨_, rfl, rfl⟩, rfl, rfl, rfl, rfl, by decide +kernel, rfl, rfl, rfl, by decide +kernel, fun _ _ _ _ _ => rfl, fun _ _ _ _ _ => rfl, by decide +kernel, by decide +kernel⟩
abbrev si_Refused : Stmt := inCls (top 27) 0
theorem kxs_Refused : KxS si_Refused "self" "pledge" "pledge" := ⟨⟨_, _, _, _, _, _, _, _, _, _, _, _, rfl, fun _ _ _ _ _ => ⟨_, rfl⟩⟩, fun _ _ _ _ _ _ _ _ _ _ => rfl, ⟨_, rfl, rfl⟩, rfl, rfl, rfl, rfl, by decide +kernel, rfl, rfl, rfl, by decide +kernel, fun _ _ _ _ _ => rfl, fun _ _ _ _ _ => rfl, by decide +kernel, by decide +kernel⟩
abbrev si_TooMany : Stmt := inCls (top 26) 0
theorem kxs_TooMany : KxS si_TooMany "self" "limit" "limit" := ⟨⟨_, _, _, _, _, _, _, _, _, _, _, _, rfl, fun _ _ _ _ _ => ⟨_, rfl⟩⟩, fun _ _ _ _ _ _ _ _ _ _ => rfl, ⟨_, rfl, rfl⟩, rfl, rfl, rfl, rfl, by decide +kernel, rfl, rfl, rfl, by decide +kernel, fun _ _ _ _ _ => rfl, fun _ _ _ _ _ => rfl, by decide +kernel, by decide +kernel⟩
abbrev kit_t : List Nat := [0, 1, 2, 3, 4, 5, 6]
abbrev kit_c : List Nat := [0, 1, 2, 3, 4, 5, 6]
def kit_f (t c : Nat) : Bool := (t == 0 && c == 0) || (t == 1 && c == 0) || (t == 1 && c == 1) || (t == 2 && c == 2) || (t == 3 && c == 3) || (t == 4 && c == 4) || (t == 5 && c == 5) || (t == 6 && c == 6)
abbrev kit : Nat → Nat → Option Bool := kitOf kit_t kit_c kit_f
abbrev kix_t : List Nat := [10, 16, 15, 14, 13, 12, 11, 21, 20, 19, 18, 17, 25, 24, 23, 22, 26, 28, 27, 30, 29]
abbrev kix_c : List Nat := [10, 16, 15, 14, 13, 12, 11, 21, 20, 19, 18, 17, 25, 24, 23, 22, 26, 28, 27, 30, 29, 100, 101, 102, 103, 104, 105]
def kix_f (t c : Nat) : Bool := (t == 10 && c == 10) || (t == 10 && c == 100) || (t == 16 && c == 10) || (t == 16 && c == 16) || (t == 16 && c == 100) || (t == 15 && c == 10) || (t == 15 && c == 15) || (t == 15 && c == 100) || (t == 14 && c == 10) || (t == 14 && c == 14) || (t == 14 && c == 100) || (t == 13 && c == 10) || (t == 13 && c == 13) || (t == 13 && c == 100) || (t == 12 && c == 10) || (t == 12 && c == 12) || (t == 12 && c == 100) || (t == 11 && c == 10) || (t == 11 && c == 11) || (t == 11 && c == 100) || (t == 21 && c == 10) || (t == 21 && c == 21) || (t == 21 && c == 100) || (t == 20 && c == 10) || (t == 20 && c == 20) || (t == 20 && c == 100) || (t == 19 && c == 10) || (t == 19 && c == 19) || (t == 19 && c == 100) || (t == 18 && c == 10) || (t == 18 && c == 18) || (t == 18 && c == 100) || (t == 17 && c == 10) || (t == 17 && c == 17) || (t == 17 && c == 100) || (t == 25 && c == 10) || (t == 25 && c == 25) || (t == 25 && c == 100) || (t == 24 && c == 10) || (t == 24 && c == 24) || (t == 24 && c == 100) || (t == 23 && c == 10) || (t == 23 && c == 23) || (t == 23 && c == 100) || (t == 22 && c == 10) || (t == 22 && c == 22) || (t == 22 && c == 100) || (t == 26 && c == 10) || (t == 26 && c == 26) || (t == 26 && c == 100) || (t == 28 && c == 28) || (t == 28 && c == 103) || (t == 27 && c == 27) || (t == 27 && c == 101) || (t == 30 && c == 30) || (t == 30 && c == 105) || (t == 29 && c == 29) || (t == 29 && c == 104) || (t == 29 && c == 105)
abbrev kix : Nat → Nat → Option Bool := kitOf kix_t kix_c kix_f
structure Ad where
  a_is_integer : Addr
  fd_is_integer : FuncData
  a_is_count : Addr
  fd_is_count : FuncData
  a_are_counts : Addr
  fd_are_counts : FuncData
  a_Ldice : Addr
  fd_Ldice : FuncData
  a_Lroll : Addr
  fd_Lroll : FuncData
  a_Lpick : Addr
  fd_Lpick : FuncData
  a_Lis_number : Addr
  fd_Lis_number : FuncData
  a_Lare_numbers : Addr
  fd_Lare_numbers : FuncData
  a_Lvalues : Addr
  fd_Lvalues : FuncData
  a_Lwords_right : Addr
  fd_Lwords_right : FuncData
  a_Lraised_by : Addr
  fd_Lraised_by : FuncData
  a_Lplain_errors : Addr
  fd_Lplain_errors : FuncData
  a_Lcaught_by : Addr
  fd_Lcaught_by : FuncData
  a_Lerrors_right : Addr
  fd_Lerrors_right : FuncData
  a_law : Addr
  fd_law : FuncData
  c_CrossError : Addr
  c_InvalidWeb : Addr
  c_InvalidCourse : Addr
  c_InvalidMove : Addr
  c_InvalidEnd : Addr
  c_InvalidDrawing : Addr
  c_InvalidRow : Addr
  c_InvalidPaper : Addr
  c_InvalidTree : Addr
  c_InvalidOrder : Addr
  c_InvalidSmoothing : Addr
  c_InvalidShade : Addr
  c_InvalidOperation : Addr
  c_InvalidColouring : Addr
  c_InvalidMatching : Addr
  c_InvalidPairing : Addr
  c_ParseError : Addr
  c_NothingToUndo : Addr
  c_InvalidNumber : Addr
  c_Refused : Addr
  c_TooMany : Addr
structure TT (P : Program) (G : Glo) (mg : Str → Option Value) (A : Ad) : Prop where
  ko : KitOk G kit
  kx : KixOk G kix
  f_is_integer : Fun G.K "is_integer" "is_integer" s_is_integer A.a_is_integer A.fd_is_integer
  g_is_integer : mg "is_integer" = some (.ref A.a_is_integer)
  f_is_count : Fun G.K "is_count" "is_count" s_is_count A.a_is_count A.fd_is_count
  g_is_count : mg "is_count" = some (.ref A.a_is_count)
  f_are_counts : Fun G.K "are_counts" "are_counts" s_are_counts A.a_are_counts A.fd_are_counts
  g_are_counts : mg "are_counts" = some (.ref A.a_are_counts)
  f_Ldice : Fun G.K "_law_dice" "_law_dice" s_Ldice A.a_Ldice A.fd_Ldice
  g_Ldice : mg "_law_dice" = some (.ref A.a_Ldice)
  f_Lroll : Fun G.K "_law_roll" "_law_roll" s_Lroll A.a_Lroll A.fd_Lroll
  g_Lroll : mg "_law_roll" = some (.ref A.a_Lroll)
  f_Lpick : Fun G.K "_law_pick" "_law_pick" s_Lpick A.a_Lpick A.fd_Lpick
  g_Lpick : mg "_law_pick" = some (.ref A.a_Lpick)
  f_Lis_number : Fun G.K "_law_is_number" "_law_is_number" s_Lis_number A.a_Lis_number A.fd_Lis_number
  g_Lis_number : mg "_law_is_number" = some (.ref A.a_Lis_number)
  f_Lare_numbers : Fun G.K "_law_are_numbers" "_law_are_numbers" s_Lare_numbers A.a_Lare_numbers A.fd_Lare_numbers
  g_Lare_numbers : mg "_law_are_numbers" = some (.ref A.a_Lare_numbers)
  f_Lvalues : Fun G.K "_law_values" "_law_values" s_Lvalues A.a_Lvalues A.fd_Lvalues
  g_Lvalues : mg "_law_values" = some (.ref A.a_Lvalues)
  f_Lwords_right : Fun G.K "_law_words_right" "_law_words_right" s_Lwords_right A.a_Lwords_right A.fd_Lwords_right
  g_Lwords_right : mg "_law_words_right" = some (.ref A.a_Lwords_right)
  f_Lraised_by : Fun G.K "_law_raised_by" "_law_raised_by" s_Lraised_by A.a_Lraised_by A.fd_Lraised_by
  g_Lraised_by : mg "_law_raised_by" = some (.ref A.a_Lraised_by)
  f_Lplain_errors : Fun G.K "_law_plain_errors" "_law_plain_errors" s_Lplain_errors A.a_Lplain_errors A.fd_Lplain_errors
  g_Lplain_errors : mg "_law_plain_errors" = some (.ref A.a_Lplain_errors)
  f_Lcaught_by : Fun G.K "_law_caught_by" "_law_caught_by" s_Lcaught_by A.a_Lcaught_by A.fd_Lcaught_by
  g_Lcaught_by : mg "_law_caught_by" = some (.ref A.a_Lcaught_by)
  f_Lerrors_right : Fun G.K "_law_errors_right" "_law_errors_right" s_Lerrors_right A.a_Lerrors_right A.fd_Lerrors_right
  g_Lerrors_right : mg "_law_errors_right" = some (.ref A.a_Lerrors_right)
  f_law : Fun G.K "law" "law" s_law A.a_law A.fd_law
  g_law : mg "law" = some (.ref A.a_law)
  n_isinstance : mg "isinstance" = none
  n_int : mg "int" = none
  n_bool : mg "bool" = none
  n_abs : mg "abs" = none
  n_tuple : mg "tuple" = none
  n_all : mg "all" = none
  n_len : mg "len" = none
  n_max : mg "max" = none
  n_range : mg "range" = none
  n_repr : mg "repr" = none
  n_ValueError : mg "ValueError" = none
  bx_ValueError : G.ca 100 = .type "ValueError"
  n_IndexError : mg "IndexError" = none
  bx_IndexError : G.ca 101 = .type "IndexError"
  n_KeyError : mg "KeyError" = none
  bx_KeyError : G.ca 102 = .type "KeyError"
  n_RuntimeError : mg "RuntimeError" = none
  bx_RuntimeError : G.ca 103 = .type "RuntimeError"
  n_OverflowError : mg "OverflowError" = none
  bx_OverflowError : G.ca 104 = .type "OverflowError"
  n_ArithmeticError : mg "ArithmeticError" = none
  bx_ArithmeticError : G.ca 105 = .type "ArithmeticError"
  n_enumerate : mg "enumerate" = none
  n_super : mg "super" = none
  n_min : mg "min" = none
  c_BOUND : ∃ u v, mg "BOUND" = some u ∧ RelV v u ∧ ∀ ρ H, RelD G ρ H (.int 1000000000000000000000000000000000000000000000000000000000000) v
  c_MAX_FIGURES : ∃ u v, mg "MAX_FIGURES" = some u ∧ RelV v u ∧ ∀ ρ H, RelD G ρ H (.int 60) v
  g_CrossError : mg "CrossError" = some (.ref A.c_CrossError)
  ca_CrossError : G.ca 10 = .ref A.c_CrossError
  g_InvalidWeb : mg "InvalidWeb" = some (.ref A.c_InvalidWeb)
  ca_InvalidWeb : G.ca 16 = .ref A.c_InvalidWeb
  g_InvalidCourse : mg "InvalidCourse" = some (.ref A.c_InvalidCourse)
  ca_InvalidCourse : G.ca 15 = .ref A.c_InvalidCourse
  g_InvalidMove : mg "InvalidMove" = some (.ref A.c_InvalidMove)
  ca_InvalidMove : G.ca 14 = .ref A.c_InvalidMove
  g_InvalidEnd : mg "InvalidEnd" = some (.ref A.c_InvalidEnd)
  ca_InvalidEnd : G.ca 13 = .ref A.c_InvalidEnd
  g_InvalidDrawing : mg "InvalidDrawing" = some (.ref A.c_InvalidDrawing)
  ca_InvalidDrawing : G.ca 12 = .ref A.c_InvalidDrawing
  g_InvalidRow : mg "InvalidRow" = some (.ref A.c_InvalidRow)
  ca_InvalidRow : G.ca 11 = .ref A.c_InvalidRow
  g_InvalidPaper : mg "InvalidPaper" = some (.ref A.c_InvalidPaper)
  ca_InvalidPaper : G.ca 21 = .ref A.c_InvalidPaper
  g_InvalidTree : mg "InvalidTree" = some (.ref A.c_InvalidTree)
  ca_InvalidTree : G.ca 20 = .ref A.c_InvalidTree
  g_InvalidOrder : mg "InvalidOrder" = some (.ref A.c_InvalidOrder)
  ca_InvalidOrder : G.ca 19 = .ref A.c_InvalidOrder
  g_InvalidSmoothing : mg "InvalidSmoothing" = some (.ref A.c_InvalidSmoothing)
  ca_InvalidSmoothing : G.ca 18 = .ref A.c_InvalidSmoothing
  g_InvalidShade : mg "InvalidShade" = some (.ref A.c_InvalidShade)
  ca_InvalidShade : G.ca 17 = .ref A.c_InvalidShade
  g_InvalidOperation : mg "InvalidOperation" = some (.ref A.c_InvalidOperation)
  ca_InvalidOperation : G.ca 25 = .ref A.c_InvalidOperation
  g_InvalidColouring : mg "InvalidColouring" = some (.ref A.c_InvalidColouring)
  ca_InvalidColouring : G.ca 24 = .ref A.c_InvalidColouring
  g_InvalidMatching : mg "InvalidMatching" = some (.ref A.c_InvalidMatching)
  ca_InvalidMatching : G.ca 23 = .ref A.c_InvalidMatching
  g_InvalidPairing : mg "InvalidPairing" = some (.ref A.c_InvalidPairing)
  ca_InvalidPairing : G.ca 22 = .ref A.c_InvalidPairing
  g_ParseError : mg "ParseError" = some (.ref A.c_ParseError)
  ca_ParseError : G.ca 26 = .ref A.c_ParseError
  g_NothingToUndo : mg "NothingToUndo" = some (.ref A.c_NothingToUndo)
  ca_NothingToUndo : G.ca 28 = .ref A.c_NothingToUndo
  g_InvalidNumber : mg "InvalidNumber" = some (.ref A.c_InvalidNumber)
  ca_InvalidNumber : G.ca 27 = .ref A.c_InvalidNumber
  g_Refused : mg "Refused" = some (.ref A.c_Refused)
  ca_Refused : G.ca 30 = .ref A.c_Refused
  g_TooMany : mg "TooMany" = some (.ref A.c_TooMany)
  ca_TooMany : G.ca 29 = .ref A.c_TooMany
  kp_InvalidWeb : KpC G.K A.c_InvalidWeb
  kp_InvalidCourse : KpC G.K A.c_InvalidCourse
  kp_InvalidMove : KpC G.K A.c_InvalidMove
  kp_InvalidEnd : KpC G.K A.c_InvalidEnd
  kp_InvalidDrawing : KpC G.K A.c_InvalidDrawing
  kp_InvalidRow : KpC G.K A.c_InvalidRow
  kp_InvalidPaper : KpC G.K A.c_InvalidPaper
  kp_InvalidTree : KpC G.K A.c_InvalidTree
  kp_InvalidOrder : KpC G.K A.c_InvalidOrder
  kp_InvalidSmoothing : KpC G.K A.c_InvalidSmoothing
  kp_InvalidShade : KpC G.K A.c_InvalidShade
  kp_InvalidOperation : KpC G.K A.c_InvalidOperation
  kp_InvalidColouring : KpC G.K A.c_InvalidColouring
  kp_InvalidMatching : KpC G.K A.c_InvalidMatching
  kp_InvalidPairing : KpC G.K A.c_InvalidPairing
  kx_NothingToUndo : KxC P G.K A.c_NothingToUndo si_NothingToUndo "self" "asked" "asked"
  kx_InvalidNumber : KxC P G.K A.c_InvalidNumber si_InvalidNumber "self" "value" "value"
  kx_ParseError : KxC P G.K A.c_ParseError si_ParseError "self" "number" "number"
  kx_Refused : KxC P G.K A.c_Refused si_Refused "self" "pledge" "pledge"
  kx_TooMany : KxC P G.K A.c_TooMany si_TooMany "self" "limit" "limit"
section
variable {P : Program} {w : World} {mg : Str → Option Value} {base : Heap} {G : Glo} {A : Ad}
theorem sc_is_integer : FnScope ["value"] ["value"] (defScope s_is_integer) := ⟨rfl, rfl, rfl, by decide +kernel, rfl, by decide +kernel, by decide +kernel⟩
def b_is_integer : MS := (sRet (mAndV (mCall (fIsE kit kix) (mCons (mVar 0) (mCons (mC (.cls 0)) mNil))) (mAndV (mNotV (mCall (fIsE kit kix) (mCons (mVar 0) (mCons (mC (.cls 1)) mNil)))) (mBin cLt (mCall fAbs (mCons (mVar 0) mNil)) (mC (.int 1000000000000000000000000000000000000000000000000000000000000))))))
def m_is_integer : MF := mkF 1 1 b_is_integer
theorem ok_is_integer (T : TT P G mg A) : FnG G P w mg base 1 A.a_is_integer m_is_integer :=
  fn_okG T.f_is_integer sc_is_integer rfl rfl (T.f_is_integer.binds fun _ _ _ _ _ _ us hl => match us, hl with | [_], _ => rfl) fun cdv Ar outer s H E hr hg =>
    (pss_onem (ps_retm (pm_and (pm_callB (cm_ise T.ko T.kx) (by rfl) T.n_isinstance (by decide +kernel) (pa_consm (pm_var (i := 0)) (pa_consm (pm_bty (T.ko.bt 0 _ rfl) T.n_int (by decide +kernel)) pa_nilm))) (pm_and (pm_not (pm_callB (cm_ise T.ko T.kx) (by rfl) T.n_isinstance (by decide +kernel) (pa_consm (pm_var (i := 0)) (pa_consm (pm_bty (T.ko.bt 1 _ rfl) T.n_bool (by decide +kernel)) pa_nilm)))) (pm_one (pm_cmp om_lt (pm_callB cm_abs (by rfl) T.n_abs (by decide +kernel) (pa_consm (pm_var (i := 0)) pa_nilm)) (pm_globE (T.c_BOUND)) (nomark _)))))))
theorem sc_is_count : FnScope ["value"] ["value"] (defScope s_is_count) := ⟨rfl, rfl, rfl, by decide +kernel, rfl, by decide +kernel, by decide +kernel⟩
def b_is_count : MS := (sRet (mAndV (mCall m_is_integer (mCons (mVar 0) mNil)) (mBin cGe (mVar 0) (mC (.int 0)))))
def m_is_count : MF := mkF 1 1 b_is_count
theorem ok_is_count (T : TT P G mg A) : FnG G P w mg base 2 A.a_is_count m_is_count :=
  fn_okG T.f_is_count sc_is_count rfl rfl (T.f_is_count.binds fun _ _ _ _ _ _ us hl => match us, hl with | [_], _ => rfl) fun cdv Ar outer s H E hr hg =>
    (pss_onem (ps_retm (pm_and (pm_call (cm_fnG (ok_is_integer T) (hr.mono (by decide)) hg) (by rfl) T.g_is_integer T.f_is_integer.kp (pa_consm (pm_var (i := 0)) pa_nilm)) (pm_one (pm_cmp om_ge (pm_var (i := 0)) pm_int (nomark _))))))
theorem sc_are_counts : FnScope ["value", "one"] ["value"] (defScope s_are_counts) := ⟨rfl, rfl, rfl, by decide +kernel, rfl, by decide +kernel, by decide +kernel⟩
def b_are_counts : MS := (sRet (mAndV (mCall (fIsE kit kix) (mCons (mVar 0) (mCons (mC (.cls 3)) mNil))) (mCall fAll (mCons (mLock (mVar 0) (mLc (mIt (mVar 0)) (.nm 1) tYesM (mCall m_is_count (mCons (mVar 1) mNil)) [1])) mNil))))
def m_are_counts : MF := mkF 2 1 b_are_counts
theorem ok_are_counts (T : TT P G mg A) : FnG G P w mg base 3 A.a_are_counts m_are_counts :=
  fn_okG T.f_are_counts sc_are_counts rfl rfl (T.f_are_counts.binds fun _ _ _ _ _ _ us hl => match us, hl with | [_], _ => rfl) fun cdv Ar outer s H E hr hg =>
    (pss_onem (ps_retm (pm_and (pm_callB (cm_ise T.ko T.kx) (by rfl) T.n_isinstance (by decide +kernel) (pa_consm (pm_var (i := 0)) (pa_consm (pm_bty (T.ko.bt 3 _ rfl) T.n_tuple (by decide +kernel)) pa_nilm))) (pm_one (pm_callB (cm_all rfl) (by rfl) T.n_all (by decide +kernel) (pa_consm (pm_lock (md := (mVar 0)) (pm_lc (own := [("one", 1)]) (by rfl) sc_are_counts.nd (pi_anym (pm_var (i := 0))) (blkOk_by (own := [("one", 1)]) (N := ["value", "one"]) (sc := defScope s_are_counts) (by decide +kernel)) (fun _ _ _ _ _ => (pgn (i := 1) sc_are_counts.nd)) (fun _ _ _ _ _ => pts_nilm) (fun _ _ _ _ _ => (pm_call (cm_fnG (ok_is_count T) (hr.mono (by decide)) hg) (by rfl) T.g_is_count T.f_is_count.kp (pa_consm (pm_var (i := 1)) pa_nilm))))) pa_nilm))))))
theorem sc_Ldice : FnScope ["_law_script", "_law_spot", "_law_cell", "_law_left"] ["_law_script", "_law_spot"] (defScope s_Ldice) := ⟨rfl, rfl, rfl, by decide +kernel, rfl, by decide +kernel, by decide +kernel⟩
def b_Ldice : MS := (sSeq (sSet 2 (mIf (mTst cLt (mVar 1) (mCall fLen (mCons (mVar 0) mNil))) (mCall fInt (mCons (mBin ixD (mVar 0) (mVar 1)) mNil)) (mBin bAdd (mBin bMul (mC (.int 67)) (mVar 1)) (mC (.int 19)))))
  (sSeq (sSet 3 (mBin bMod (mCall fMax2 (mCons (mC (.int 0)) (mCons (mBin bSub (mCall fAbs (mCons (mVar 2) mNil)) (mBin bPow (mC (.int 10)) (mC (.int 16)))) mNil))) (mBin bMul (mBin bPow (mC (.int 10)) (mC (.int 60))) (mBin bPow (mC (.int 10)) (mC (.int 60))))))
  (sRet (mLst (mCons (mVar 3) (mCons (mBin bAdd (mBin bAdd (mBin bAdd (mBin bMul (mBin bMod (mCall fAbs (mCons (mVar 2) mNil)) (mC (.int 1152921504606846817))) (mC (.int 47))) (mBin bMul (mC (.int 821)) (mVar 1))) (mBin bMul (mC (.int 31)) (mCall fInt (mCons (mBin cLt (mVar 2) (mC (.int 0))) mNil)))) (mC (.int 3))) (mCons (mC (.int 0)) mNil)))))))
def m_Ldice : MF := mkF 4 2 b_Ldice
theorem ok0_Ldice (T : TT P G mg A) : FnM G P w mg base 1 A.a_Ldice m_Ldice :=
  fn_ok T.f_Ldice sc_Ldice rfl rfl (T.f_Ldice.binds fun _ _ _ _ _ _ us hl => match us, hl with | [_, _], _ => rfl) fun cdv Ar outer s H E hr =>
    (pss_consm (ps_setm (i := 2) sc_Ldice.nd (pm_ifexp (pt_cmp om_lt (pm_var (i := 1)) (pm_callB cm_len (by rfl) T.n_len (by decide +kernel) (pa_consm (pm_var (i := 0)) pa_nilm)) (nomark _)) (pm_callT cm_int (by rfl) T.n_int (by decide +kernel) (pa_consm (pm_ix (pm_var (i := 0)) (pm_var (i := 1))) pa_nilm)) (pm_bin om_add (pm_bin om_mul pm_int (pm_var (i := 1))) pm_int)))
    (pss_consm (ps_setm (i := 3) sc_Ldice.nd (pm_bin om_mod (pm_callB (cm_max2 rfl) (by rfl) T.n_max (by decide +kernel) (pa_consm pm_int (pa_consm (pm_bin om_sub (pm_callB cm_abs (by rfl) T.n_abs (by decide +kernel) (pa_consm (pm_var (i := 2)) pa_nilm)) (pm_bin om_pow pm_int pm_int)) pa_nilm))) (pm_bin om_mul (pm_bin om_pow pm_int pm_int) (pm_bin om_pow pm_int pm_int))))
    (pss_onem (ps_retm (pm_lst (pa_consm (pm_var (i := 3)) (pa_consm (pm_bin om_add (pm_bin om_add (pm_bin om_add (pm_bin om_mul (pm_bin om_mod (pm_callB cm_abs (by rfl) T.n_abs (by decide +kernel) (pa_consm (pm_var (i := 2)) pa_nilm)) pm_int) pm_int) (pm_bin om_mul pm_int (pm_var (i := 1)))) (pm_bin om_mul pm_int (pm_callT cm_int (by rfl) T.n_int (by decide +kernel) (pa_consm (pm_cmp om_lt (pm_var (i := 2)) pm_int (nomark _)) pa_nilm)))) pm_int) (pa_consm pm_int pa_nilm))))))))
theorem ok_Ldice (T : TT P G mg A) : FnG G P w mg base 1 A.a_Ldice mDice := (fn_dice (ok0_Ldice T) run_dice).g
theorem sc_Lroll : FnScope ["_law_dice_here", "_law_total", "_law_found", "_law_one", "_law_two"] ["_law_dice_here", "_law_total"] (defScope s_Lroll) := ⟨rfl, rfl, rfl, by decide +kernel, rfl, by decide +kernel, by decide +kernel⟩
def b_Lroll : MS := (sSeq (sIf (mTst cGt (mBin ixD (mVar 0) (mC (.int 0))) (mC (.int 0))) (sSeq (sSet 2 (mBin bMod (mCall fInt (mCons (mBin ixD (mVar 0) (mC (.int 0))) mNil)) (mVar 1)))
  (sSeq (sStL (mVar 0) (mC (.int 0)) (mBin bDiv (mBin ixD (mVar 0) (mC (.int 0))) (mVar 1)))
  (sRet (mVar 2)))) sSkip)
  (sSeq (sStL (mVar 0) (mC (.int 2)) (mBin bAdd (mBin ixD (mVar 0) (mC (.int 2))) (mC (.int 1))))
  (sSeq (sSet 3 (mBin bMod (mCall fInt (mCons (mBin bAdd (mBin ixD (mVar 0) (mC (.int 1))) (mBin bMul (mC (.int 49979719)) (mBin ixD (mVar 0) (mC (.int 2))))) mNil)) (mC (.int 2305843009213693613))))
  (sSeq (sSet 4 (mBin bAdd (mBin bMul (mBin bMod (mCall fInt (mCons (mBin bAdd (mBin bMul (mVar 3) (mVar 3)) (mBin bMul (mC (.int 97)) (mBin ixD (mVar 0) (mC (.int 2))))) mNil)) (mC (.int 2305843009213693907))) (mC (.int 7368797))) (mVar 3)))
  (sRet (mBin bMod (mCall fInt (mCons (mBin bDiv (mVar 4) (mC (.int 65536))) mNil)) (mVar 1)))))))
def m_Lroll : MF := mkF 5 2 b_Lroll
theorem ok0_Lroll (T : TT P G mg A) : FnM G P w mg base 1 A.a_Lroll m_Lroll :=
  fn_ok T.f_Lroll sc_Lroll rfl rfl (T.f_Lroll.binds fun _ _ _ _ _ _ us hl => match us, hl with | [_, _], _ => rfl) fun cdv Ar outer s H E hr =>
    (pss_consm (ps_ifm (pt_cmp om_gt (pm_ix (pm_var (i := 0)) pm_int) pm_int (nomark _)) (pss_consm (ps_setm (i := 2) sc_Lroll.nd (pm_bin om_mod (pm_callT cm_int (by rfl) T.n_int (by decide +kernel) (pa_consm (pm_ix (pm_var (i := 0)) pm_int) pa_nilm)) (pm_var (i := 1))))
    (pss_consm (ps_stL (pm_var (i := 0)) pm_int (pm_bin om_div (pm_ix (pm_var (i := 0)) pm_int) (pm_var (i := 1))))
    (pss_onem (ps_retm (pm_var (i := 2)))))) pss_nilm)
    (pss_consm (ps_stL (pm_var (i := 0)) pm_int (pm_bin om_add (pm_ix (pm_var (i := 0)) pm_int) pm_int))
    (pss_consm (ps_setm (i := 3) sc_Lroll.nd (pm_bin om_mod (pm_callT cm_int (by rfl) T.n_int (by decide +kernel) (pa_consm (pm_bin om_add (pm_ix (pm_var (i := 0)) pm_int) (pm_bin om_mul pm_int (pm_ix (pm_var (i := 0)) pm_int))) pa_nilm)) pm_int))
    (pss_consm (ps_setm (i := 4) sc_Lroll.nd (pm_bin om_add (pm_bin om_mul (pm_bin om_mod (pm_callT cm_int (by rfl) T.n_int (by decide +kernel) (pa_consm (pm_bin om_add (pm_bin om_mul (pm_var (i := 3)) (pm_var (i := 3))) (pm_bin om_mul pm_int (pm_ix (pm_var (i := 0)) pm_int))) pa_nilm)) pm_int) pm_int) (pm_var (i := 3))))
    (pss_onem (ps_retm (pm_bin om_mod (pm_callT cm_int (by rfl) T.n_int (by decide +kernel) (pa_consm (pm_bin om_div (pm_var (i := 4)) pm_int) pa_nilm)) (pm_var (i := 1)))))))))
theorem ok_Lroll (T : TT P G mg A) : FnG G P w mg base 1 A.a_Lroll mRoll := (fn_roll (ok0_Lroll T) run_roll).g
theorem sc_Lpick : FnScope ["_law_dice_here", "_law_items"] ["_law_dice_here", "_law_items"] (defScope s_Lpick) := ⟨rfl, rfl, rfl, by decide +kernel, rfl, by decide +kernel, by decide +kernel⟩
def b_Lpick : MS := (sRet (mBin ixD (mVar 1) (mCall mRoll (mCons (mVar 0) (mCons (mCall fLen (mCons (mVar 1) mNil)) mNil)))))
def m_Lpick : MF := mkF 2 2 b_Lpick
theorem ok_Lpick (T : TT P G mg A) : FnG G P w mg base 2 A.a_Lpick m_Lpick :=
  fn_okG T.f_Lpick sc_Lpick rfl rfl (T.f_Lpick.binds fun _ _ _ _ _ _ us hl => match us, hl with | [_, _], _ => rfl) fun cdv Ar outer s H E hr hg =>
    (pss_onem (ps_retm (pm_ix (pm_var (i := 1)) (pm_call (cm_fnG (ok_Lroll T) (hr.mono (by decide)) hg) (by rfl) T.g_Lroll T.f_Lroll.kp (pa_consm (pm_var (i := 0)) (pa_consm (pm_callB cm_len (by rfl) T.n_len (by decide +kernel) (pa_consm (pm_var (i := 1)) pa_nilm)) pa_nilm))))))
theorem sc_Lis_number : FnScope ["_law_value"] ["_law_value"] (defScope s_Lis_number) := ⟨rfl, rfl, rfl, by decide +kernel, rfl, by decide +kernel, by decide +kernel⟩
def b_Lis_number : MS := (sRet (mAndV (mCall (fIsE kit kix) (mCons (mVar 0) (mCons (mC (.cls 0)) mNil))) (mAndV (mNotV (mCall (fIsE kit kix) (mCons (mVar 0) (mCons (mC (.cls 1)) mNil)))) (mBin cLt (mCall fAbs (mCons (mVar 0) mNil)) (mBin bPow (mC (.int 10)) (mC (.int 60)))))))
def m_Lis_number : MF := mkF 1 1 b_Lis_number
theorem ok_Lis_number (T : TT P G mg A) : FnG G P w mg base 1 A.a_Lis_number m_Lis_number :=
  fn_okG T.f_Lis_number sc_Lis_number rfl rfl (T.f_Lis_number.binds fun _ _ _ _ _ _ us hl => match us, hl with | [_], _ => rfl) fun cdv Ar outer s H E hr hg =>
    (pss_onem (ps_retm (pm_and (pm_callB (cm_ise T.ko T.kx) (by rfl) T.n_isinstance (by decide +kernel) (pa_consm (pm_var (i := 0)) (pa_consm (pm_bty (T.ko.bt 0 _ rfl) T.n_int (by decide +kernel)) pa_nilm))) (pm_and (pm_not (pm_callB (cm_ise T.ko T.kx) (by rfl) T.n_isinstance (by decide +kernel) (pa_consm (pm_var (i := 0)) (pa_consm (pm_bty (T.ko.bt 1 _ rfl) T.n_bool (by decide +kernel)) pa_nilm)))) (pm_one (pm_cmp om_lt (pm_callB cm_abs (by rfl) T.n_abs (by decide +kernel) (pa_consm (pm_var (i := 0)) pa_nilm)) (pm_bin om_pow pm_int pm_int) (nomark _)))))))
theorem sc_Lare_numbers : FnScope ["_law_value", "_law_one"] ["_law_value"] (defScope s_Lare_numbers) := ⟨rfl, rfl, rfl, by decide +kernel, rfl, by decide +kernel, by decide +kernel⟩
def b_Lare_numbers : MS := (sSeq (sIf (tNotM (mTru (mCall (fIsE kit kix) (mCons (mVar 0) (mCons (mC (.cls 3)) mNil))))) (sRet (mC (.bl false))) sSkip)
  (sRet (mBin cEq (mLock (mVar 0) (mLc (mIt (mVar 0)) (.nm 1) (tOrM (tNotM (mTru (mCall m_Lis_number (mCons (mVar 1) mNil)))) (mTst cLt (mVar 1) (mC (.int 0)))) (mVar 1) [1])) (mLst mNil))))
def m_Lare_numbers : MF := mkF 2 1 b_Lare_numbers
theorem ok_Lare_numbers (T : TT P G mg A) : FnG G P w mg base 2 A.a_Lare_numbers m_Lare_numbers :=
  fn_okG T.f_Lare_numbers sc_Lare_numbers rfl rfl (T.f_Lare_numbers.binds fun _ _ _ _ _ _ us hl => match us, hl with | [_], _ => rfl) fun cdv Ar outer s H E hr hg =>
    (pss_consm (ps_ifm (pt_notm (pt_tru (pm_callB (cm_ise T.ko T.kx) (by rfl) T.n_isinstance (by decide +kernel) (pa_consm (pm_var (i := 0)) (pa_consm (pm_bty (T.ko.bt 3 _ rfl) T.n_tuple (by decide +kernel)) pa_nilm))))) (pss_onem (ps_retm pm_bl)) pss_nilm)
    (pss_onem (ps_retm (pm_cmp (om_eq hr.units) (pm_lock (md := (mVar 0)) (pm_lc (own := [("_law_one", 1)]) (by rfl) sc_Lare_numbers.nd (pi_anym (pm_var (i := 0))) (blkOk_by (own := [("_law_one", 1)]) (N := ["_law_value", "_law_one"]) (sc := defScope s_Lare_numbers) (by decide +kernel)) (fun _ _ _ _ _ => (pgn (i := 1) sc_Lare_numbers.nd)) (fun _ _ _ _ _ => (pts_onem (pt_w (pw_orm (pt_notm (pt_tru (pm_call (cm_fnG (ok_Lis_number T) (hr.mono (by decide)) hg) (by rfl) T.g_Lis_number T.f_Lis_number.kp (pa_consm (pm_var (i := 1)) pa_nilm)))) (pw_or1m (pt_cmp om_lt (pm_var (i := 1)) pm_int (nomark _))))))) (fun _ _ _ _ _ => (pm_var (i := 1))))) (pm_lst pa_nilm) (nomark _)))))
theorem sc_Lvalues : FnScope ["_law_dice_here", "_law_number", "_law_found", "_law_turn"] ["_law_dice_here"] (defScope s_Lvalues) := ⟨rfl, rfl, rfl, by decide +kernel, rfl, by decide +kernel, by decide +kernel⟩
def b_Lvalues : MS := (sSeq (sSet 1 (mBin bAdd (mBin bMul (mCall mRoll (mCons (mVar 0) (mCons (mBin bPow (mC (.int 10)) (mC (.int 18))) mNil))) (mBin bPow (mC (.int 10)) (mC (.int 42)))) (mCall mRoll (mCons (mVar 0) (mCons (mBin bPow (mC (.int 10)) (mC (.int 9))) mNil)))))
  (sSeq (sSet 2 (mLst (mCons (mC (.int 0)) (mCons (mC (.int 1)) (mCons (mUn uNeg (mC (.int 1))) (mCons (mC (.bl true)) (mCons (mC (.bl false)) (mCons (mC .non) (mCons (mC (.str [])) (mCons (mC (.str [49])) (mCons (mTup mNil) (mCons (mTup (mCons (mC (.int 0)) mNil)) (mCons (mLst mNil) (mCons (mLst (mCons (mC (.int 1)) mNil)) (mCons mDct0 (mCons (mVar 1) (mCons (mUn uNeg (mVar 1)) (mCons (mBin bSub (mBin bPow (mC (.int 10)) (mC (.int 60))) (mC (.int 1))) (mCons (mBin bPow (mC (.int 10)) (mC (.int 60))) mNil)))))))))))))))))))
  (sSeq (sSet 2 (mBin bAdd (mVar 2) (mLst (mCons (mUn uNeg (mBin bPow (mC (.int 10)) (mC (.int 60)))) (mCons (mBin bSub (mC (.int 1)) (mBin bPow (mC (.int 10)) (mC (.int 60)))) (mCons (mTup (mCons (mC (.int 1)) (mCons (mC (.int 0)) (mCons (mC (.int 1)) mNil)))) (mCons (mTup (mCons (mC (.int 1)) (mCons (mC (.bl true)) mNil))) (mCons (mTup (mCons (mC (.int 2)) (mCons (mUn uNeg (mC (.int 1))) mNil))) (mCons (mTup (mCons (mBin bPow (mC (.int 10)) (mC (.int 60))) mNil)) (mCons (mTup (mCons (mTup (mCons (mC (.int 1)) mNil)) mNil)) (mCons (mTup (mCons (mC .non) mNil)) (mCons (mTup (mCons (mC (.int 3)) (mCons (mC (.str [51])) mNil))) (mCons (mLst (mCons (mC (.int 0)) (mCons (mC (.int 1)) mNil))) mNil)))))))))))))
  (sRet (mBin bAdd (mVar 2) (mLst (mCons (mCall fTuple (mCons (mLc (mIts itRng1 (mCons (mCall mRoll (mCons (mVar 0) (mCons (mC (.int 5)) mNil))) mNil)) (.nm 3) tYesM (mCall mRoll (mCons (mVar 0) (mCons (mC (.int 9)) mNil))) [3]) mNil)) (mCons (mUn uNeg (mCall mRoll (mCons (mVar 0) (mCons (mC (.int 50)) mNil)))) mNil))))))))
def m_Lvalues : MF := mkF 4 1 b_Lvalues
theorem ok_Lvalues (T : TT P G mg A) : FnG G P w mg base 2 A.a_Lvalues m_Lvalues :=
  fn_okG T.f_Lvalues sc_Lvalues rfl rfl (T.f_Lvalues.binds fun _ _ _ _ _ _ us hl => match us, hl with | [_], _ => rfl) fun cdv Ar outer s H E hr hg =>
    (pss_consm (ps_setm (i := 1) sc_Lvalues.nd (pm_bin om_add (pm_bin om_mul (pm_call (cm_fnG (ok_Lroll T) (hr.mono (by decide)) hg) (by rfl) T.g_Lroll T.f_Lroll.kp (pa_consm (pm_var (i := 0)) (pa_consm (pm_bin om_pow pm_int pm_int) pa_nilm))) (pm_bin om_pow pm_int pm_int)) (pm_call (cm_fnG (ok_Lroll T) (hr.mono (by decide)) hg) (by rfl) T.g_Lroll T.f_Lroll.kp (pa_consm (pm_var (i := 0)) (pa_consm (pm_bin om_pow pm_int pm_int) pa_nilm)))))
    (pss_consm (ps_setm (i := 2) sc_Lvalues.nd (pm_lst (pa_consm pm_int (pa_consm pm_int (pa_consm (pm_un um_neg pm_int) (pa_consm pm_bl (pa_consm pm_bl (pa_consm pm_non (pa_consm (pm_str (by decide +kernel)) (pa_consm (pm_str (by decide +kernel)) (pa_consm (pm_tup pa_nilm) (pa_consm (pm_tup (pa_consm pm_int pa_nilm)) (pa_consm (pm_lst pa_nilm) (pa_consm (pm_lst (pa_consm pm_int pa_nilm)) (pa_consm pm_dct0 (pa_consm (pm_var (i := 1)) (pa_consm (pm_un um_neg (pm_var (i := 1))) (pa_consm (pm_bin om_sub (pm_bin om_pow pm_int pm_int) pm_int) (pa_consm (pm_bin om_pow pm_int pm_int) pa_nilm)))))))))))))))))))
    (pss_consm (ps_setm (i := 2) sc_Lvalues.nd (pm_bin om_add (pm_var (i := 2)) (pm_lst (pa_consm (pm_un um_neg (pm_bin om_pow pm_int pm_int)) (pa_consm (pm_bin om_sub pm_int (pm_bin om_pow pm_int pm_int)) (pa_consm (pm_tup (pa_consm pm_int (pa_consm pm_int (pa_consm pm_int pa_nilm)))) (pa_consm (pm_tup (pa_consm pm_int (pa_consm pm_bl pa_nilm))) (pa_consm (pm_tup (pa_consm pm_int (pa_consm (pm_un um_neg pm_int) pa_nilm))) (pa_consm (pm_tup (pa_consm (pm_bin om_pow pm_int pm_int) pa_nilm)) (pa_consm (pm_tup (pa_consm (pm_tup (pa_consm pm_int pa_nilm)) pa_nilm)) (pa_consm (pm_tup (pa_consm pm_non pa_nilm)) (pa_consm (pm_tup (pa_consm pm_int (pa_consm (pm_str (by decide +kernel)) pa_nilm))) (pa_consm (pm_lst (pa_consm pm_int (pa_consm pm_int pa_nilm))) pa_nilm)))))))))))))
    (pss_onem (ps_retm (pm_bin om_add (pm_var (i := 2)) (pm_lst (pa_consm (pm_callT cm_tuple (by rfl) T.n_tuple (by decide +kernel) (pa_consm (pm_lc (own := [("_law_turn", 3)]) (by rfl) sc_Lvalues.nd (pi_range1m (by rfl) T.n_range (pa_consm (pm_call (cm_fnG (ok_Lroll T) (hr.mono (by decide)) hg) (by rfl) T.g_Lroll T.f_Lroll.kp (pa_consm (pm_var (i := 0)) (pa_consm pm_int pa_nilm))) pa_nilm)) (blkOk_by (own := [("_law_turn", 3)]) (N := ["_law_dice_here", "_law_number", "_law_found", "_law_turn"]) (sc := defScope s_Lvalues) (by decide +kernel)) (fun _ _ _ _ _ => (pgn (i := 3) sc_Lvalues.nd)) (fun _ _ _ _ _ => pts_nilm) (fun _ _ _ _ _ => (pm_call (cm_fnG (ok_Lroll T) (hr.mono (by decide)) hg) (by rfl) T.g_Lroll T.f_Lroll.kp (pa_consm (pm_var (i := 0)) (pa_consm pm_int pa_nilm))))) pa_nilm)) (pa_consm (pm_un um_neg (pm_call (cm_fnG (ok_Lroll T) (hr.mono (by decide)) hg) (by rfl) T.g_Lroll T.f_Lroll.kp (pa_consm (pm_var (i := 0)) (pa_consm pm_int pa_nilm)))) pa_nilm)))))))))
theorem sc_Lwords_right : FnScope ["_law_dice_here", "_law_value", "_law_due"] ["_law_dice_here"] (defScope s_Lwords_right) := ⟨rfl, rfl, rfl, by decide +kernel, rfl, by decide +kernel, by decide +kernel⟩
def b_Lwords_right : MS := (sSeq (sFor (mIt (mCall m_Lvalues (mCons (mVar 0) mNil))) (.nm 1) (sSeq (sSet 2 (mLst (mCons (mCall m_Lis_number (mCons (mVar 1) mNil)) (mCons (mAndV (mCall m_Lis_number (mCons (mVar 1) mNil)) (mBin cGe (mVar 1) (mC (.int 0)))) (mCons (mCall m_Lare_numbers (mCons (mVar 1) mNil)) mNil)))))
  (sIf (mTst cNe (mCall fReprD (mCons (mLst (mCons (mCall m_is_integer (mCons (mVar 1) mNil)) (mCons (mCall m_is_count (mCons (mVar 1) mNil)) (mCons (mCall m_are_counts (mCons (mVar 1) mNil)) mNil)))) mNil)) (mCall fReprD (mCons (mVar 2) mNil))) (sRet (mC (.bl false))) sSkip)))
  (sRet (mBin cEq (mC (.int 60)) (mC (.int 60)))))
def m_Lwords_right : MF := mkF 3 1 b_Lwords_right
theorem ok_Lwords_right (T : TT P G mg A) : FnG G P w mg base 4 A.a_Lwords_right m_Lwords_right :=
  fn_okG T.f_Lwords_right sc_Lwords_right rfl rfl (T.f_Lwords_right.binds fun _ _ _ _ _ _ us hl => match us, hl with | [_], _ => rfl) fun cdv Ar outer s H E hr hg =>
    (pss_consm (ps_form (by rfl) (pi_anym (pm_call (cm_fnG (ok_Lvalues T) (hr.mono (by decide)) hg) (by rfl) T.g_Lvalues T.f_Lvalues.kp (pa_consm (pm_var (i := 0)) pa_nilm))) (pgn (i := 1) sc_Lwords_right.nd) (pss_consm (ps_setm (i := 2) sc_Lwords_right.nd (pm_lst (pa_consm (pm_call (cm_fnG (ok_Lis_number T) (hr.mono (by decide)) hg) (by rfl) T.g_Lis_number T.f_Lis_number.kp (pa_consm (pm_var (i := 1)) pa_nilm)) (pa_consm (pm_and (pm_call (cm_fnG (ok_Lis_number T) (hr.mono (by decide)) hg) (by rfl) T.g_Lis_number T.f_Lis_number.kp (pa_consm (pm_var (i := 1)) pa_nilm)) (pm_one (pm_cmp om_ge (pm_var (i := 1)) pm_int (nomark _)))) (pa_consm (pm_call (cm_fnG (ok_Lare_numbers T) (hr.mono (by decide)) hg) (by rfl) T.g_Lare_numbers T.f_Lare_numbers.kp (pa_consm (pm_var (i := 1)) pa_nilm)) pa_nilm)))))
    (pss_onem (ps_ifm (pt_cmp (om_ne hr.units) (pm_callB (cm_reprD hg hr.units) (by rfl) T.n_repr (by decide +kernel) (pa_consm (pm_lst (pa_consm (pm_call (cm_fnG (ok_is_integer T) (hr.mono (by decide)) hg) (by rfl) T.g_is_integer T.f_is_integer.kp (pa_consm (pm_var (i := 1)) pa_nilm)) (pa_consm (pm_call (cm_fnG (ok_is_count T) (hr.mono (by decide)) hg) (by rfl) T.g_is_count T.f_is_count.kp (pa_consm (pm_var (i := 1)) pa_nilm)) (pa_consm (pm_call (cm_fnG (ok_are_counts T) (hr.mono (by decide)) hg) (by rfl) T.g_are_counts T.f_are_counts.kp (pa_consm (pm_var (i := 1)) pa_nilm)) pa_nilm)))) pa_nilm)) (pm_callB (cm_reprD hg hr.units) (by rfl) T.n_repr (by decide +kernel) (pa_consm (pm_var (i := 2)) pa_nilm)) (nomark _)) (pss_onem (ps_retm pm_bl)) pss_nilm))))
    (pss_onem (ps_retm (pm_cmp (om_eq hr.units) (pm_globE (T.c_MAX_FIGURES)) pm_int (nomark _)))))
theorem sc_Lraised_by : FnScope ["_law_error", "_law_found"] ["_law_error"] (defScope s_Lraised_by) := ⟨rfl, rfl, rfl, by decide +kernel, rfl, by decide +kernel, by decide +kernel⟩
def b_Lraised_by : MS := (sSeq (sSet 1 (mBin bAdd (mBin bMul (mLst (mCons (mC (.str [99, 114, 111, 115, 115])) mNil)) (mCall fInt (mCons (mCall (fIsE kit kix) (mCons (mVar 0) (mCons (mC (.cls 10)) mNil))) mNil))) (mBin bMul (mLst (mCons (mC (.str [118, 97, 108, 117, 101])) mNil)) (mCall fInt (mCons (mCall (fIsE kit kix) (mCons (mVar 0) (mCons (mC (.cls 100)) mNil))) mNil)))))
  (sSeq (sSet 1 (mBin bAdd (mBin bAdd (mVar 1) (mBin bMul (mLst (mCons (mC (.str [105, 110, 100, 101, 120])) mNil)) (mCall fInt (mCons (mCall (fIsE kit kix) (mCons (mVar 0) (mCons (mC (.cls 101)) mNil))) mNil)))) (mBin bMul (mLst (mCons (mC (.str [107, 101, 121])) mNil)) (mCall fInt (mCons (mCall (fIsE kit kix) (mCons (mVar 0) (mCons (mC (.cls 102)) mNil))) mNil)))))
  (sSeq (sSet 1 (mBin bAdd (mVar 1) (mBin bMul (mLst (mCons (mC (.str [114, 117, 110, 116, 105, 109, 101])) mNil)) (mCall fInt (mCons (mCall (fIsE kit kix) (mCons (mVar 0) (mCons (mC (.cls 103)) mNil))) mNil)))))
  (sSeq (sSet 1 (mBin bAdd (mVar 1) (mBin bMul (mLst (mCons (mC (.str [111, 118, 101, 114, 102, 108, 111, 119])) mNil)) (mCall fInt (mCons (mCall (fIsE kit kix) (mCons (mVar 0) (mCons (mC (.cls 104)) mNil))) mNil)))))
  (sRet (mBin bAdd (mVar 1) (mBin bMul (mLst (mCons (mC (.str [97, 114, 105, 116, 104, 109, 101, 116, 105, 99])) mNil)) (mCall fInt (mCons (mCall (fIsE kit kix) (mCons (mVar 0) (mCons (mC (.cls 105)) mNil))) mNil)))))))))
def m_Lraised_by : MF := mkF 2 1 b_Lraised_by
theorem ok_Lraised_by (T : TT P G mg A) : FnG G P w mg base 1 A.a_Lraised_by m_Lraised_by :=
  fn_okG T.f_Lraised_by sc_Lraised_by rfl rfl (T.f_Lraised_by.binds fun _ _ _ _ _ _ us hl => match us, hl with | [_], _ => rfl) fun cdv Ar outer s H E hr hg =>
    (pss_consm (ps_setm (i := 1) sc_Lraised_by.nd (pm_bin om_add (pm_bin om_mul (pm_lst (pa_consm (pm_str (by decide +kernel)) pa_nilm)) (pm_callT cm_int (by rfl) T.n_int (by decide +kernel) (pa_consm (pm_callB (cm_ise T.ko T.kx) (by rfl) T.n_isinstance (by decide +kernel) (pa_consm (pm_var (i := 0)) (pa_consm (pm_clsO (by rfl) T.g_CrossError T.ca_CrossError) pa_nilm))) pa_nilm))) (pm_bin om_mul (pm_lst (pa_consm (pm_str (by decide +kernel)) pa_nilm)) (pm_callT cm_int (by rfl) T.n_int (by decide +kernel) (pa_consm (pm_callB (cm_ise T.ko T.kx) (by rfl) T.n_isinstance (by decide +kernel) (pa_consm (pm_var (i := 0)) (pa_consm (pm_bcl (by rfl) T.n_ValueError PyProof.Rows.Boot.«ValueError» T.bx_ValueError) pa_nilm))) pa_nilm)))))
    (pss_consm (ps_setm (i := 1) sc_Lraised_by.nd (pm_bin om_add (pm_bin om_add (pm_var (i := 1)) (pm_bin om_mul (pm_lst (pa_consm (pm_str (by decide +kernel)) pa_nilm)) (pm_callT cm_int (by rfl) T.n_int (by decide +kernel) (pa_consm (pm_callB (cm_ise T.ko T.kx) (by rfl) T.n_isinstance (by decide +kernel) (pa_consm (pm_var (i := 0)) (pa_consm (pm_bcl (by rfl) T.n_IndexError PyProof.Rows.Boot.«IndexError» T.bx_IndexError) pa_nilm))) pa_nilm)))) (pm_bin om_mul (pm_lst (pa_consm (pm_str (by decide +kernel)) pa_nilm)) (pm_callT cm_int (by rfl) T.n_int (by decide +kernel) (pa_consm (pm_callB (cm_ise T.ko T.kx) (by rfl) T.n_isinstance (by decide +kernel) (pa_consm (pm_var (i := 0)) (pa_consm (pm_bcl (by rfl) T.n_KeyError PyProof.Rows.Boot.«KeyError» T.bx_KeyError) pa_nilm))) pa_nilm)))))
    (pss_consm (ps_setm (i := 1) sc_Lraised_by.nd (pm_bin om_add (pm_var (i := 1)) (pm_bin om_mul (pm_lst (pa_consm (pm_str (by decide +kernel)) pa_nilm)) (pm_callT cm_int (by rfl) T.n_int (by decide +kernel) (pa_consm (pm_callB (cm_ise T.ko T.kx) (by rfl) T.n_isinstance (by decide +kernel) (pa_consm (pm_var (i := 0)) (pa_consm (pm_bcl (by rfl) T.n_RuntimeError PyProof.Rows.Boot.«RuntimeError» T.bx_RuntimeError) pa_nilm))) pa_nilm)))))
    (pss_consm (ps_setm (i := 1) sc_Lraised_by.nd (pm_bin om_add (pm_var (i := 1)) (pm_bin om_mul (pm_lst (pa_consm (pm_str (by decide +kernel)) pa_nilm)) (pm_callT cm_int (by rfl) T.n_int (by decide +kernel) (pa_consm (pm_callB (cm_ise T.ko T.kx) (by rfl) T.n_isinstance (by decide +kernel) (pa_consm (pm_var (i := 0)) (pa_consm (pm_bcl (by rfl) T.n_OverflowError PyProof.Rows.Boot.«OverflowError» T.bx_OverflowError) pa_nilm))) pa_nilm)))))
    (pss_onem (ps_retm (pm_bin om_add (pm_var (i := 1)) (pm_bin om_mul (pm_lst (pa_consm (pm_str (by decide +kernel)) pa_nilm)) (pm_callT cm_int (by rfl) T.n_int (by decide +kernel) (pa_consm (pm_callB (cm_ise T.ko T.kx) (by rfl) T.n_isinstance (by decide +kernel) (pa_consm (pm_var (i := 0)) (pa_consm (pm_bcl (by rfl) T.n_ArithmeticError PyProof.Rows.Boot.«ArithmeticError» T.bx_ArithmeticError) pa_nilm))) pa_nilm))))))))))
theorem sc_Lplain_errors : FnScope ["_law_found"] [] (defScope s_Lplain_errors) := ⟨rfl, rfl, rfl, by decide +kernel, rfl, by decide +kernel, by decide +kernel⟩
def b_Lplain_errors : MS := (sSeq (sSet 0 (mLst (mCons (mCall (fExc 11) (mCons (mC (.str [97])) mNil)) (mCons (mCall (fExc 12) (mCons (mC (.str [97])) mNil)) (mCons (mCall (fExc 13) (mCons (mC (.str [97])) mNil)) (mCons (mCall (fExc 14) (mCons (mC (.str [97])) mNil)) (mCons (mCall (fExc 15) (mCons (mC (.str [97])) mNil)) (mCons (mCall (fExc 16) (mCons (mC (.str [97])) mNil)) mNil))))))))
  (sSeq (sSet 0 (mBin bAdd (mVar 0) (mLst (mCons (mCall (fExc 17) (mCons (mC (.str [97])) mNil)) (mCons (mCall (fExc 18) (mCons (mC (.str [97])) mNil)) (mCons (mCall (fExc 19) (mCons (mC (.str [97])) mNil)) (mCons (mCall (fExc 20) (mCons (mC (.str [97])) mNil)) (mCons (mCall (fExc 21) (mCons (mC (.str [97])) mNil)) mNil))))))))
  (sRet (mBin bAdd (mVar 0) (mLst (mCons (mCall (fExc 22) (mCons (mC (.str [97])) mNil)) (mCons (mCall (fExc 23) (mCons (mC (.str [97])) mNil)) (mCons (mCall (fExc 24) (mCons (mC (.str [97])) mNil)) (mCons (mCall (fExc 25) (mCons (mC (.str [97])) mNil)) mNil)))))))))
def m_Lplain_errors : MF := mkF 1 0 b_Lplain_errors
theorem ok_Lplain_errors (T : TT P G mg A) : FnG G P w mg base 1 A.a_Lplain_errors m_Lplain_errors :=
  fn_okG T.f_Lplain_errors sc_Lplain_errors rfl rfl (T.f_Lplain_errors.binds fun _ _ _ _ _ _ us hl => match us, hl with | [], _ => rfl) fun cdv Ar outer s H E hr hg =>
    (pss_consm (ps_setm (i := 0) sc_Lplain_errors.nd (pm_lst (pa_consm (pm_call (cm_exc T.ca_InvalidRow T.kp_InvalidRow) (by rfl) T.g_InvalidRow T.kp_InvalidRow.kC (pa_consm (pm_str (by decide +kernel)) pa_nilm)) (pa_consm (pm_call (cm_exc T.ca_InvalidDrawing T.kp_InvalidDrawing) (by rfl) T.g_InvalidDrawing T.kp_InvalidDrawing.kC (pa_consm (pm_str (by decide +kernel)) pa_nilm)) (pa_consm (pm_call (cm_exc T.ca_InvalidEnd T.kp_InvalidEnd) (by rfl) T.g_InvalidEnd T.kp_InvalidEnd.kC (pa_consm (pm_str (by decide +kernel)) pa_nilm)) (pa_consm (pm_call (cm_exc T.ca_InvalidMove T.kp_InvalidMove) (by rfl) T.g_InvalidMove T.kp_InvalidMove.kC (pa_consm (pm_str (by decide +kernel)) pa_nilm)) (pa_consm (pm_call (cm_exc T.ca_InvalidCourse T.kp_InvalidCourse) (by rfl) T.g_InvalidCourse T.kp_InvalidCourse.kC (pa_consm (pm_str (by decide +kernel)) pa_nilm)) (pa_consm (pm_call (cm_exc T.ca_InvalidWeb T.kp_InvalidWeb) (by rfl) T.g_InvalidWeb T.kp_InvalidWeb.kC (pa_consm (pm_str (by decide +kernel)) pa_nilm)) pa_nilm))))))))
    (pss_consm (ps_setm (i := 0) sc_Lplain_errors.nd (pm_bin om_add (pm_var (i := 0)) (pm_lst (pa_consm (pm_call (cm_exc T.ca_InvalidShade T.kp_InvalidShade) (by rfl) T.g_InvalidShade T.kp_InvalidShade.kC (pa_consm (pm_str (by decide +kernel)) pa_nilm)) (pa_consm (pm_call (cm_exc T.ca_InvalidSmoothing T.kp_InvalidSmoothing) (by rfl) T.g_InvalidSmoothing T.kp_InvalidSmoothing.kC (pa_consm (pm_str (by decide +kernel)) pa_nilm)) (pa_consm (pm_call (cm_exc T.ca_InvalidOrder T.kp_InvalidOrder) (by rfl) T.g_InvalidOrder T.kp_InvalidOrder.kC (pa_consm (pm_str (by decide +kernel)) pa_nilm)) (pa_consm (pm_call (cm_exc T.ca_InvalidTree T.kp_InvalidTree) (by rfl) T.g_InvalidTree T.kp_InvalidTree.kC (pa_consm (pm_str (by decide +kernel)) pa_nilm)) (pa_consm (pm_call (cm_exc T.ca_InvalidPaper T.kp_InvalidPaper) (by rfl) T.g_InvalidPaper T.kp_InvalidPaper.kC (pa_consm (pm_str (by decide +kernel)) pa_nilm)) pa_nilm))))))))
    (pss_onem (ps_retm (pm_bin om_add (pm_var (i := 0)) (pm_lst (pa_consm (pm_call (cm_exc T.ca_InvalidPairing T.kp_InvalidPairing) (by rfl) T.g_InvalidPairing T.kp_InvalidPairing.kC (pa_consm (pm_str (by decide +kernel)) pa_nilm)) (pa_consm (pm_call (cm_exc T.ca_InvalidMatching T.kp_InvalidMatching) (by rfl) T.g_InvalidMatching T.kp_InvalidMatching.kC (pa_consm (pm_str (by decide +kernel)) pa_nilm)) (pa_consm (pm_call (cm_exc T.ca_InvalidColouring T.kp_InvalidColouring) (by rfl) T.g_InvalidColouring T.kp_InvalidColouring.kC (pa_consm (pm_str (by decide +kernel)) pa_nilm)) (pa_consm (pm_call (cm_exc T.ca_InvalidOperation T.kp_InvalidOperation) (by rfl) T.g_InvalidOperation T.kp_InvalidOperation.kC (pa_consm (pm_str (by decide +kernel)) pa_nilm)) pa_nilm))))))))))
theorem sc_Lcaught_by : FnScope ["_law_error", "_law_found", "_law_at", "_law_told"] ["_law_error"] (defScope s_Lcaught_by) := ⟨rfl, rfl, rfl, by decide +kernel, rfl, by decide +kernel, by decide +kernel⟩
def b_Lcaught_by : MS := (sSeq (sSet 1 (mLst (mCons (mCall (fIsE kit kix) (mCons (mVar 0) (mCons (mC (.cls 11)) mNil))) (mCons (mCall (fIsE kit kix) (mCons (mVar 0) (mCons (mC (.cls 12)) mNil))) (mCons (mCall (fIsE kit kix) (mCons (mVar 0) (mCons (mC (.cls 13)) mNil))) mNil)))))
  (sSeq (sSet 1 (mBin bAdd (mVar 1) (mLst (mCons (mCall (fIsE kit kix) (mCons (mVar 0) (mCons (mC (.cls 14)) mNil))) (mCons (mCall (fIsE kit kix) (mCons (mVar 0) (mCons (mC (.cls 15)) mNil))) (mCons (mCall (fIsE kit kix) (mCons (mVar 0) (mCons (mC (.cls 16)) mNil))) mNil))))))
  (sSeq (sSet 1 (mBin bAdd (mVar 1) (mLst (mCons (mCall (fIsE kit kix) (mCons (mVar 0) (mCons (mC (.cls 17)) mNil))) (mCons (mCall (fIsE kit kix) (mCons (mVar 0) (mCons (mC (.cls 18)) mNil))) mNil)))))
  (sSeq (sSet 1 (mBin bAdd (mVar 1) (mLst (mCons (mCall (fIsE kit kix) (mCons (mVar 0) (mCons (mC (.cls 19)) mNil))) (mCons (mCall (fIsE kit kix) (mCons (mVar 0) (mCons (mC (.cls 20)) mNil))) (mCons (mCall (fIsE kit kix) (mCons (mVar 0) (mCons (mC (.cls 21)) mNil))) mNil))))))
  (sSeq (sSet 1 (mBin bAdd (mVar 1) (mLst (mCons (mCall (fIsE kit kix) (mCons (mVar 0) (mCons (mC (.cls 22)) mNil))) (mCons (mCall (fIsE kit kix) (mCons (mVar 0) (mCons (mC (.cls 23)) mNil))) mNil)))))
  (sSeq (sSet 1 (mBin bAdd (mVar 1) (mLst (mCons (mCall (fIsE kit kix) (mCons (mVar 0) (mCons (mC (.cls 24)) mNil))) (mCons (mCall (fIsE kit kix) (mCons (mVar 0) (mCons (mC (.cls 25)) mNil))) mNil)))))
  (sRet (mLc (mIts itEnl (mCons (mVar 1) mNil)) (.tp [(.nm 2), (.nm 3)]) (mTru (mVar 3)) (mVar 2) [2, 3]))))))))
def m_Lcaught_by : MF := mkF 4 1 b_Lcaught_by
theorem ok_Lcaught_by (T : TT P G mg A) : FnG G P w mg base 1 A.a_Lcaught_by m_Lcaught_by :=
  fn_okG T.f_Lcaught_by sc_Lcaught_by rfl rfl (T.f_Lcaught_by.binds fun _ _ _ _ _ _ us hl => match us, hl with | [_], _ => rfl) fun cdv Ar outer s H E hr hg =>
    (pss_consm (ps_setm (i := 1) sc_Lcaught_by.nd (pm_lst (pa_consm (pm_callB (cm_ise T.ko T.kx) (by rfl) T.n_isinstance (by decide +kernel) (pa_consm (pm_var (i := 0)) (pa_consm (pm_clsO (by rfl) T.g_InvalidRow T.ca_InvalidRow) pa_nilm))) (pa_consm (pm_callB (cm_ise T.ko T.kx) (by rfl) T.n_isinstance (by decide +kernel) (pa_consm (pm_var (i := 0)) (pa_consm (pm_clsO (by rfl) T.g_InvalidDrawing T.ca_InvalidDrawing) pa_nilm))) (pa_consm (pm_callB (cm_ise T.ko T.kx) (by rfl) T.n_isinstance (by decide +kernel) (pa_consm (pm_var (i := 0)) (pa_consm (pm_clsO (by rfl) T.g_InvalidEnd T.ca_InvalidEnd) pa_nilm))) pa_nilm)))))
    (pss_consm (ps_setm (i := 1) sc_Lcaught_by.nd (pm_bin om_add (pm_var (i := 1)) (pm_lst (pa_consm (pm_callB (cm_ise T.ko T.kx) (by rfl) T.n_isinstance (by decide +kernel) (pa_consm (pm_var (i := 0)) (pa_consm (pm_clsO (by rfl) T.g_InvalidMove T.ca_InvalidMove) pa_nilm))) (pa_consm (pm_callB (cm_ise T.ko T.kx) (by rfl) T.n_isinstance (by decide +kernel) (pa_consm (pm_var (i := 0)) (pa_consm (pm_clsO (by rfl) T.g_InvalidCourse T.ca_InvalidCourse) pa_nilm))) (pa_consm (pm_callB (cm_ise T.ko T.kx) (by rfl) T.n_isinstance (by decide +kernel) (pa_consm (pm_var (i := 0)) (pa_consm (pm_clsO (by rfl) T.g_InvalidWeb T.ca_InvalidWeb) pa_nilm))) pa_nilm))))))
    (pss_consm (ps_setm (i := 1) sc_Lcaught_by.nd (pm_bin om_add (pm_var (i := 1)) (pm_lst (pa_consm (pm_callB (cm_ise T.ko T.kx) (by rfl) T.n_isinstance (by decide +kernel) (pa_consm (pm_var (i := 0)) (pa_consm (pm_clsO (by rfl) T.g_InvalidShade T.ca_InvalidShade) pa_nilm))) (pa_consm (pm_callB (cm_ise T.ko T.kx) (by rfl) T.n_isinstance (by decide +kernel) (pa_consm (pm_var (i := 0)) (pa_consm (pm_clsO (by rfl) T.g_InvalidSmoothing T.ca_InvalidSmoothing) pa_nilm))) pa_nilm)))))
    (pss_consm (ps_setm (i := 1) sc_Lcaught_by.nd (pm_bin om_add (pm_var (i := 1)) (pm_lst (pa_consm (pm_callB (cm_ise T.ko T.kx) (by rfl) T.n_isinstance (by decide +kernel) (pa_consm (pm_var (i := 0)) (pa_consm (pm_clsO (by rfl) T.g_InvalidOrder T.ca_InvalidOrder) pa_nilm))) (pa_consm (pm_callB (cm_ise T.ko T.kx) (by rfl) T.n_isinstance (by decide +kernel) (pa_consm (pm_var (i := 0)) (pa_consm (pm_clsO (by rfl) T.g_InvalidTree T.ca_InvalidTree) pa_nilm))) (pa_consm (pm_callB (cm_ise T.ko T.kx) (by rfl) T.n_isinstance (by decide +kernel) (pa_consm (pm_var (i := 0)) (pa_consm (pm_clsO (by rfl) T.g_InvalidPaper T.ca_InvalidPaper) pa_nilm))) pa_nilm))))))
    (pss_consm (ps_setm (i := 1) sc_Lcaught_by.nd (pm_bin om_add (pm_var (i := 1)) (pm_lst (pa_consm (pm_callB (cm_ise T.ko T.kx) (by rfl) T.n_isinstance (by decide +kernel) (pa_consm (pm_var (i := 0)) (pa_consm (pm_clsO (by rfl) T.g_InvalidPairing T.ca_InvalidPairing) pa_nilm))) (pa_consm (pm_callB (cm_ise T.ko T.kx) (by rfl) T.n_isinstance (by decide +kernel) (pa_consm (pm_var (i := 0)) (pa_consm (pm_clsO (by rfl) T.g_InvalidMatching T.ca_InvalidMatching) pa_nilm))) pa_nilm)))))
    (pss_consm (ps_setm (i := 1) sc_Lcaught_by.nd (pm_bin om_add (pm_var (i := 1)) (pm_lst (pa_consm (pm_callB (cm_ise T.ko T.kx) (by rfl) T.n_isinstance (by decide +kernel) (pa_consm (pm_var (i := 0)) (pa_consm (pm_clsO (by rfl) T.g_InvalidColouring T.ca_InvalidColouring) pa_nilm))) (pa_consm (pm_callB (cm_ise T.ko T.kx) (by rfl) T.n_isinstance (by decide +kernel) (pa_consm (pm_var (i := 0)) (pa_consm (pm_clsO (by rfl) T.g_InvalidOperation T.ca_InvalidOperation) pa_nilm))) pa_nilm)))))
    (pss_onem (ps_retm (pm_lc (own := [("_law_at", 2), ("_law_told", 3)]) (by rfl) sc_Lcaught_by.nd (pi_enlm (by rfl) T.n_enumerate (pa_consm (pm_var (i := 1)) pa_nilm)) (blkOk_by (own := [("_law_at", 2), ("_law_told", 3)]) (N := ["_law_error", "_law_found", "_law_at", "_law_told"]) (sc := defScope s_Lcaught_by) (by decide +kernel)) (fun _ _ _ _ _ => (pgt (by rfl) (pgs1 (pgn (i := 2) sc_Lcaught_by.nd) (pgs1 (pgn (i := 3) sc_Lcaught_by.nd) pgs0)))) (fun _ _ _ _ _ => (pts_onem (pt_tru (pm_var (i := 3))))) (fun _ _ _ _ _ => (pm_var (i := 2))))))))))))
theorem sc_Lerrors_right : FnScope ["_law_dice_here", "_law_at", "_law_error", "_law_value", "_law_told", "_law_kept"] ["_law_dice_here"] (defScope s_Lerrors_right) := ⟨rfl, rfl, rfl, by decide +kernel, rfl, by decide +kernel, by decide +kernel⟩
def b_Lerrors_right : MS := (sSeq (sFor (mIts itEnl (mCons (mCall m_Lplain_errors mNil) mNil)) (.tp [(.nm 1), (.nm 2)]) (sIf (tOrM (mTst cNe (mCall m_Lraised_by (mCons (mVar 2) mNil)) (mLst (mCons (mC (.str [99, 114, 111, 115, 115])) (mCons (mC (.str [118, 97, 108, 117, 101])) mNil)))) (tOrM (mTst cNe (mCall m_Lcaught_by (mCons (mVar 2) mNil)) (mLst (mCons (mVar 1) mNil))) (mTru (mCall (fIsE kit kix) (mCons (mVar 2) (mCons (mC (.cls 26)) mNil)))))) (sRet (mC (.bl false))) sSkip))
  (sSeq (sSet 3 (mCall m_Lpick (mCons (mVar 0) (mCons (mCall m_Lvalues (mCons (mVar 0) mNil)) mNil))))
  (sSeq (sSet 4 (mLst (mCons (mCall m_Lraised_by (mCons (mCall (fExcK 26 "number") (mCons (mVar 3) mNil)) mNil)) (mCons (mCall m_Lraised_by (mCons (mCall (fExcK 27 "value") (mCons (mVar 3) mNil)) mNil)) (mCons (mCall m_Lraised_by (mCons (mCall (fExcK 28 "asked") (mCons (mVar 3) mNil)) mNil)) mNil)))))
  (sSeq (sSet 4 (mBin bAdd (mVar 4) (mLst (mCons (mCall m_Lraised_by (mCons (mCall (fExcK 29 "limit") (mCons (mVar 3) mNil)) mNil)) (mCons (mCall m_Lraised_by (mCons (mCall (fExcK 30 "pledge") (mCons (mVar 3) mNil)) mNil)) mNil)))))
  (sSeq (sIf (mTst cNe (mVar 4) (mLst (mCons (mLst (mCons (mC (.str [99, 114, 111, 115, 115])) (mCons (mC (.str [118, 97, 108, 117, 101])) mNil))) (mCons (mLst (mCons (mC (.str [105, 110, 100, 101, 120])) mNil)) (mCons (mLst (mCons (mC (.str [114, 117, 110, 116, 105, 109, 101])) mNil)) (mCons (mLst (mCons (mC (.str [111, 118, 101, 114, 102, 108, 111, 119])) (mCons (mC (.str [97, 114, 105, 116, 104, 109, 101, 116, 105, 99])) mNil))) (mCons (mLst (mCons (mC (.str [97, 114, 105, 116, 104, 109, 101, 116, 105, 99])) mNil)) mNil))))))) (sRet (mC (.bl false))) sSkip)
  (sSeq (sSet 5 (mLst (mCons (mUn (fldE 26 "number") (mCall (fExcK 26 "number") (mCons (mVar 3) mNil))) (mCons (mUn (fldE 27 "value") (mCall (fExcK 27 "value") (mCons (mVar 3) mNil))) (mCons (mUn (fldE 28 "asked") (mCall (fExcK 28 "asked") (mCons (mVar 3) mNil))) (mCons (mUn (fldE 29 "limit") (mCall (fExcK 29 "limit") (mCons (mVar 3) mNil))) mNil))))))
  (sRet (mBin cEq (mCall fReprD (mCons (mBin bAdd (mVar 5) (mLst (mCons (mUn (fldE 30 "pledge") (mCall (fExcK 30 "pledge") (mCons (mVar 3) mNil))) mNil))) mNil)) (mCall fReprD (mCons (mBin bMul (mLst (mCons (mVar 3) mNil)) (mC (.int 5))) mNil))))))))))
def m_Lerrors_right : MF := mkF 6 1 b_Lerrors_right
theorem ok_Lerrors_right (T : TT P G mg A) : FnG G P w mg base 3 A.a_Lerrors_right m_Lerrors_right :=
  fn_okG T.f_Lerrors_right sc_Lerrors_right rfl rfl (T.f_Lerrors_right.binds fun _ _ _ _ _ _ us hl => match us, hl with | [_], _ => rfl) fun cdv Ar outer s H E hr hg =>
    (pss_consm (ps_form (by rfl) (pi_enlm (by rfl) T.n_enumerate (pa_consm (pm_call0 (cm_fnG (ok_Lplain_errors T) (hr.mono (by decide)) hg) (by rfl) T.g_Lplain_errors T.f_Lplain_errors.kp) pa_nilm)) (pgt (by rfl) (pgs1 (pgn (i := 1) sc_Lerrors_right.nd) (pgs1 (pgn (i := 2) sc_Lerrors_right.nd) pgs0))) (pss_onem (ps_ifm (pt_w (pw_orm (pt_cmp (om_ne hr.units) (pm_call (cm_fnG (ok_Lraised_by T) (hr.mono (by decide)) hg) (by rfl) T.g_Lraised_by T.f_Lraised_by.kp (pa_consm (pm_var (i := 2)) pa_nilm)) (pm_lst (pa_consm (pm_str (by decide +kernel)) (pa_consm (pm_str (by decide +kernel)) pa_nilm))) (nomark _)) (pw_orm (pt_cmp (om_ne hr.units) (pm_call (cm_fnG (ok_Lcaught_by T) (hr.mono (by decide)) hg) (by rfl) T.g_Lcaught_by T.f_Lcaught_by.kp (pa_consm (pm_var (i := 2)) pa_nilm)) (pm_lst (pa_consm (pm_var (i := 1)) pa_nilm)) (nomark _)) (pw_or1m (pt_tru (pm_callB (cm_ise T.ko T.kx) (by rfl) T.n_isinstance (by decide +kernel) (pa_consm (pm_var (i := 2)) (pa_consm (pm_clsO (by rfl) T.g_ParseError T.ca_ParseError) pa_nilm)))))))) (pss_onem (ps_retm pm_bl)) pss_nilm)))
    (pss_consm (ps_setm (i := 3) sc_Lerrors_right.nd (pm_call (cm_fnG (ok_Lpick T) (hr.mono (by decide)) hg) (by rfl) T.g_Lpick T.f_Lpick.kp (pa_consm (pm_var (i := 0)) (pa_consm (pm_call (cm_fnG (ok_Lvalues T) (hr.mono (by decide)) hg) (by rfl) T.g_Lvalues T.f_Lvalues.kp (pa_consm (pm_var (i := 0)) pa_nilm)) pa_nilm))))
    (pss_consm (ps_setm (i := 4) sc_Lerrors_right.nd (pm_lst (pa_consm (pm_call (cm_fnG (ok_Lraised_by T) (hr.mono (by decide)) hg) (by rfl) T.g_Lraised_by T.f_Lraised_by.kp (pa_consm (pm_call (cm_excK (k := 0) T.ca_ParseError T.kx_ParseError T.n_super (hr.mono (by decide))) (by rfl) T.g_ParseError T.kx_ParseError.kC (pa_consm (pm_var (i := 3)) pa_nilm)) pa_nilm)) (pa_consm (pm_call (cm_fnG (ok_Lraised_by T) (hr.mono (by decide)) hg) (by rfl) T.g_Lraised_by T.f_Lraised_by.kp (pa_consm (pm_call (cm_excK (k := 0) T.ca_InvalidNumber T.kx_InvalidNumber T.n_super (hr.mono (by decide))) (by rfl) T.g_InvalidNumber T.kx_InvalidNumber.kC (pa_consm (pm_var (i := 3)) pa_nilm)) pa_nilm)) (pa_consm (pm_call (cm_fnG (ok_Lraised_by T) (hr.mono (by decide)) hg) (by rfl) T.g_Lraised_by T.f_Lraised_by.kp (pa_consm (pm_call (cm_excK (k := 0) T.ca_NothingToUndo T.kx_NothingToUndo T.n_super (hr.mono (by decide))) (by rfl) T.g_NothingToUndo T.kx_NothingToUndo.kC (pa_consm (pm_var (i := 3)) pa_nilm)) pa_nilm)) pa_nilm)))))
    (pss_consm (ps_setm (i := 4) sc_Lerrors_right.nd (pm_bin om_add (pm_var (i := 4)) (pm_lst (pa_consm (pm_call (cm_fnG (ok_Lraised_by T) (hr.mono (by decide)) hg) (by rfl) T.g_Lraised_by T.f_Lraised_by.kp (pa_consm (pm_call (cm_excK (k := 0) T.ca_TooMany T.kx_TooMany T.n_super (hr.mono (by decide))) (by rfl) T.g_TooMany T.kx_TooMany.kC (pa_consm (pm_var (i := 3)) pa_nilm)) pa_nilm)) (pa_consm (pm_call (cm_fnG (ok_Lraised_by T) (hr.mono (by decide)) hg) (by rfl) T.g_Lraised_by T.f_Lraised_by.kp (pa_consm (pm_call (cm_excK (k := 0) T.ca_Refused T.kx_Refused T.n_super (hr.mono (by decide))) (by rfl) T.g_Refused T.kx_Refused.kC (pa_consm (pm_var (i := 3)) pa_nilm)) pa_nilm)) pa_nilm)))))
    (pss_consm (ps_ifm (pt_cmp (om_ne hr.units) (pm_var (i := 4)) (pm_lst (pa_consm (pm_lst (pa_consm (pm_str (by decide +kernel)) (pa_consm (pm_str (by decide +kernel)) pa_nilm))) (pa_consm (pm_lst (pa_consm (pm_str (by decide +kernel)) pa_nilm)) (pa_consm (pm_lst (pa_consm (pm_str (by decide +kernel)) pa_nilm)) (pa_consm (pm_lst (pa_consm (pm_str (by decide +kernel)) (pa_consm (pm_str (by decide +kernel)) pa_nilm))) (pa_consm (pm_lst (pa_consm (pm_str (by decide +kernel)) pa_nilm)) pa_nilm)))))) (nomark _)) (pss_onem (ps_retm pm_bl)) pss_nilm)
    (pss_consm (ps_setm (i := 5) sc_Lerrors_right.nd (pm_lst (pa_consm (pm_fldE T.ca_ParseError T.kx_ParseError.xf T.kx_ParseError.nof (pm_call (cm_excK (k := 0) T.ca_ParseError T.kx_ParseError T.n_super (hr.mono (by decide))) (by rfl) T.g_ParseError T.kx_ParseError.kC (pa_consm (pm_var (i := 3)) pa_nilm))) (pa_consm (pm_fldE T.ca_InvalidNumber T.kx_InvalidNumber.xf T.kx_InvalidNumber.nof (pm_call (cm_excK (k := 0) T.ca_InvalidNumber T.kx_InvalidNumber T.n_super (hr.mono (by decide))) (by rfl) T.g_InvalidNumber T.kx_InvalidNumber.kC (pa_consm (pm_var (i := 3)) pa_nilm))) (pa_consm (pm_fldE T.ca_NothingToUndo T.kx_NothingToUndo.xf T.kx_NothingToUndo.nof (pm_call (cm_excK (k := 0) T.ca_NothingToUndo T.kx_NothingToUndo T.n_super (hr.mono (by decide))) (by rfl) T.g_NothingToUndo T.kx_NothingToUndo.kC (pa_consm (pm_var (i := 3)) pa_nilm))) (pa_consm (pm_fldE T.ca_TooMany T.kx_TooMany.xf T.kx_TooMany.nof (pm_call (cm_excK (k := 0) T.ca_TooMany T.kx_TooMany T.n_super (hr.mono (by decide))) (by rfl) T.g_TooMany T.kx_TooMany.kC (pa_consm (pm_var (i := 3)) pa_nilm))) pa_nilm))))))
    (pss_onem (ps_retm (pm_cmp (om_eq hr.units) (pm_callB (cm_reprD hg hr.units) (by rfl) T.n_repr (by decide +kernel) (pa_consm (pm_bin om_add (pm_var (i := 5)) (pm_lst (pa_consm (pm_fldE T.ca_Refused T.kx_Refused.xf T.kx_Refused.nof (pm_call (cm_excK (k := 0) T.ca_Refused T.kx_Refused T.n_super (hr.mono (by decide))) (by rfl) T.g_Refused T.kx_Refused.kC (pa_consm (pm_var (i := 3)) pa_nilm))) pa_nilm))) pa_nilm)) (pm_callB (cm_reprD hg hr.units) (by rfl) T.n_repr (by decide +kernel) (pa_consm (pm_bin om_mul (pm_lst (pa_consm (pm_var (i := 3)) pa_nilm)) pm_int) pa_nilm)) (nomark _))))))))))
theorem sc_law : FnScope ["_law_script", "_law_spot", "_law_dice_here", "_law_turn"] ["_law_script"] (defScope s_law) := ⟨rfl, rfl, rfl, by decide +kernel, rfl, by decide +kernel, by decide +kernel⟩
def b_law : MS := (sSeq (sFor (mIts itRng1 (mCons (mCall fMax2 (mCons (mC (.int 1)) (mCons (mCall fMin2 (mCons (mC (.int 3)) (mCons (mCall fLen (mCons (mVar 0) mNil)) mNil))) mNil))) mNil)) (.nm 1) (sSeq (sSet 2 (mCall mDice (mCons (mVar 0) (mCons (mVar 1) mNil))))
  (sFor (mIts itRng1 (mCons (mC (.int 3)) mNil)) (.nm 3) (sIf (tOrM (tNotM (mTru (mCall m_Lwords_right (mCons (mVar 2) mNil)))) (tNotM (mTru (mCall m_Lerrors_right (mCons (mVar 2) mNil))))) (sRet (mC (.bl false))) sSkip))))
  (sRet (mC (.bl true))))
def m_law : MF := mkF 4 1 b_law
theorem ok_law (T : TT P G mg A) : FnG G P w mg base 5 A.a_law m_law :=
  fn_okG T.f_law sc_law rfl rfl (T.f_law.binds fun _ _ _ _ _ _ us hl => match us, hl with | [_], _ => rfl) fun cdv Ar outer s H E hr hg =>
    (pss_consm (ps_form (by rfl) (pi_range1m (by rfl) T.n_range (pa_consm (pm_callB (cm_max2 rfl) (by rfl) T.n_max (by decide +kernel) (pa_consm pm_int (pa_consm (pm_callB (cm_min2 rfl) (by rfl) T.n_min (by decide +kernel) (pa_consm pm_int (pa_consm (pm_callB cm_len (by rfl) T.n_len (by decide +kernel) (pa_consm (pm_var (i := 0)) pa_nilm)) pa_nilm))) pa_nilm))) pa_nilm)) (pgn (i := 1) sc_law.nd) (pss_consm (ps_setm (i := 2) sc_law.nd (pm_call (cm_fnG (ok_Ldice T) (hr.mono (by decide)) hg) (by rfl) T.g_Ldice T.f_Ldice.kp (pa_consm (pm_var (i := 0)) (pa_consm (pm_var (i := 1)) pa_nilm))))
    (pss_onem (ps_form (by rfl) (pi_range1m (by rfl) T.n_range (pa_consm pm_int pa_nilm)) (pgn (i := 3) sc_law.nd) (pss_onem (ps_ifm (pt_w (pw_orm (pt_notm (pt_tru (pm_call (cm_fnG (ok_Lwords_right T) (hr.mono (by decide)) hg) (by rfl) T.g_Lwords_right T.f_Lwords_right.kp (pa_consm (pm_var (i := 2)) pa_nilm)))) (pw_or1m (pt_notm (pt_tru (pm_call (cm_fnG (ok_Lerrors_right T) (hr.mono (by decide)) hg) (by rfl) T.g_Lerrors_right T.f_Lerrors_right.kp (pa_consm (pm_var (i := 2)) pa_nilm))))))) (pss_onem (ps_retm pm_bl)) pss_nilm))))))
    (pss_onem (ps_retm pm_bl)))
end
def cal (C_CrossError C_InvalidWeb C_InvalidCourse C_InvalidMove C_InvalidEnd C_InvalidDrawing C_InvalidRow C_InvalidPaper C_InvalidTree C_InvalidOrder C_InvalidSmoothing C_InvalidShade C_InvalidOperation C_InvalidColouring C_InvalidMatching C_InvalidPairing C_ParseError C_NothingToUndo C_InvalidNumber C_Refused C_TooMany : Addr) : Nat → Value := caL [(10, Value.ref C_CrossError), (16, Value.ref C_InvalidWeb), (15, Value.ref C_InvalidCourse), (14, Value.ref C_InvalidMove), (13, Value.ref C_InvalidEnd), (12, Value.ref C_InvalidDrawing), (11, Value.ref C_InvalidRow), (21, Value.ref C_InvalidPaper), (20, Value.ref C_InvalidTree), (19, Value.ref C_InvalidOrder), (18, Value.ref C_InvalidSmoothing), (17, Value.ref C_InvalidShade), (25, Value.ref C_InvalidOperation), (24, Value.ref C_InvalidColouring), (23, Value.ref C_InvalidMatching), (22, Value.ref C_InvalidPairing), (26, Value.ref C_ParseError), (28, Value.ref C_NothingToUndo), (27, Value.ref C_InvalidNumber), (30, Value.ref C_Refused), (29, Value.ref C_TooMany)]
theorem all_mk {K : PySem.W.Frag} {h : Heap} {mg : Str → Option Value} (X : K.In h) (Gn : h.Ns mainGlobals mg) (LL : PySem.W.LooseAre [("BOUND", PySem.W.WData.int 1000000000000000000000000000000000000000000000000000000000000)] mg h)
    {f_is_integer : Addr} {oc_is_integer kV_is_integer dc_is_integer pm_is_integer cd_is_integer ct_is_integer : Value} {od_is_integer an_is_integer : Option Addr} {sl_is_integer : Array (Option Value)}
    {f_is_count : Addr} {oc_is_count kV_is_count dc_is_count pm_is_count cd_is_count ct_is_count : Value} {od_is_count an_is_count : Option Addr} {sl_is_count : Array (Option Value)}
    {f_are_counts : Addr} {oc_are_counts kV_are_counts dc_are_counts pm_are_counts cd_are_counts ct_are_counts : Value} {od_are_counts an_are_counts : Option Addr} {sl_are_counts : Array (Option Value)}
    {f_Ldice : Addr} {oc_Ldice kV_Ldice dc_Ldice pm_Ldice cd_Ldice ct_Ldice : Value} {od_Ldice an_Ldice : Option Addr} {sl_Ldice : Array (Option Value)}
    {f_Lroll : Addr} {oc_Lroll kV_Lroll dc_Lroll pm_Lroll cd_Lroll ct_Lroll : Value} {od_Lroll an_Lroll : Option Addr} {sl_Lroll : Array (Option Value)}
    {f_Lpick : Addr} {oc_Lpick kV_Lpick dc_Lpick pm_Lpick cd_Lpick ct_Lpick : Value} {od_Lpick an_Lpick : Option Addr} {sl_Lpick : Array (Option Value)}
    {f_Lis_number : Addr} {oc_Lis_number kV_Lis_number dc_Lis_number pm_Lis_number cd_Lis_number ct_Lis_number : Value} {od_Lis_number an_Lis_number : Option Addr} {sl_Lis_number : Array (Option Value)}
    {f_Lare_numbers : Addr} {oc_Lare_numbers kV_Lare_numbers dc_Lare_numbers pm_Lare_numbers cd_Lare_numbers ct_Lare_numbers : Value} {od_Lare_numbers an_Lare_numbers : Option Addr} {sl_Lare_numbers : Array (Option Value)}
    {f_Lvalues : Addr} {oc_Lvalues kV_Lvalues dc_Lvalues pm_Lvalues cd_Lvalues ct_Lvalues : Value} {od_Lvalues an_Lvalues : Option Addr} {sl_Lvalues : Array (Option Value)}
    {f_Lwords_right : Addr} {oc_Lwords_right kV_Lwords_right dc_Lwords_right pm_Lwords_right cd_Lwords_right ct_Lwords_right : Value} {od_Lwords_right an_Lwords_right : Option Addr} {sl_Lwords_right : Array (Option Value)}
    {f_Lraised_by : Addr} {oc_Lraised_by kV_Lraised_by dc_Lraised_by pm_Lraised_by cd_Lraised_by ct_Lraised_by : Value} {od_Lraised_by an_Lraised_by : Option Addr} {sl_Lraised_by : Array (Option Value)}
    {f_Lplain_errors : Addr} {oc_Lplain_errors kV_Lplain_errors dc_Lplain_errors pm_Lplain_errors cd_Lplain_errors ct_Lplain_errors : Value} {od_Lplain_errors an_Lplain_errors : Option Addr} {sl_Lplain_errors : Array (Option Value)}
    {f_Lcaught_by : Addr} {oc_Lcaught_by kV_Lcaught_by dc_Lcaught_by pm_Lcaught_by cd_Lcaught_by ct_Lcaught_by : Value} {od_Lcaught_by an_Lcaught_by : Option Addr} {sl_Lcaught_by : Array (Option Value)}
    {f_Lerrors_right : Addr} {oc_Lerrors_right kV_Lerrors_right dc_Lerrors_right pm_Lerrors_right cd_Lerrors_right ct_Lerrors_right : Value} {od_Lerrors_right an_Lerrors_right : Option Addr} {sl_Lerrors_right : Array (Option Value)}
    {f_law : Addr} {oc_law kV_law dc_law pm_law cd_law ct_law : Value} {od_law an_law : Option Addr} {sl_law : Array (Option Value)}
    {t_MAX_FIGURES : Tok}
    {C_CrossError : Addr}
    {C_InvalidWeb : Addr}
    {C_InvalidCourse : Addr}
    {C_InvalidMove : Addr}
    {C_InvalidEnd : Addr}
    {C_InvalidDrawing : Addr}
    {C_InvalidRow : Addr}
    {C_InvalidPaper : Addr}
    {C_InvalidTree : Addr}
    {C_InvalidOrder : Addr}
    {C_InvalidSmoothing : Addr}
    {C_InvalidShade : Addr}
    {C_InvalidOperation : Addr}
    {C_InvalidColouring : Addr}
    {C_InvalidMatching : Addr}
    {C_InvalidPairing : Addr}
    {C_ParseError : Addr}
    {C_NothingToUndo : Addr}
    {C_InvalidNumber : Addr}
    {C_Refused : Addr}
    {C_TooMany : Addr}
    {D_NothingToUndo I_NothingToUndo cc_NothingToUndo cda_NothingToUndo : Addr} {qu_NothingToUndo file_NothingToUndo : Str} {kV_NothingToUndo dc_NothingToUndo pm_NothingToUndo ct_NothingToUndo oc_NothingToUndo ccl_NothingToUndo cl_NothingToUndo : Value} {an_NothingToUndo od_NothingToUndo cdd_NothingToUndo cld_NothingToUndo : Option Addr} {osl_NothingToUndo ccs_NothingToUndo csl_NothingToUndo : Array (Option Value)} {vs_NothingToUndo : Array Value} {tf_NothingToUndo : Tok}
    {D_InvalidNumber I_InvalidNumber cc_InvalidNumber cda_InvalidNumber : Addr} {qu_InvalidNumber file_InvalidNumber : Str} {kV_InvalidNumber dc_InvalidNumber pm_InvalidNumber ct_InvalidNumber oc_InvalidNumber ccl_InvalidNumber cl_InvalidNumber : Value} {an_InvalidNumber od_InvalidNumber cdd_InvalidNumber cld_InvalidNumber : Option Addr} {osl_InvalidNumber ccs_InvalidNumber csl_InvalidNumber : Array (Option Value)} {vs_InvalidNumber : Array Value} {tf_InvalidNumber : Tok}
    {D_ParseError I_ParseError cc_ParseError cda_ParseError : Addr} {qu_ParseError file_ParseError : Str} {kV_ParseError dc_ParseError pm_ParseError ct_ParseError oc_ParseError ccl_ParseError cl_ParseError : Value} {an_ParseError od_ParseError cdd_ParseError cld_ParseError : Option Addr} {osl_ParseError ccs_ParseError csl_ParseError : Array (Option Value)} {vs_ParseError : Array Value} {tf_ParseError : Tok}
    {D_Refused I_Refused cc_Refused cda_Refused : Addr} {qu_Refused file_Refused : Str} {kV_Refused dc_Refused pm_Refused ct_Refused oc_Refused ccl_Refused cl_Refused : Value} {an_Refused od_Refused cdd_Refused cld_Refused : Option Addr} {osl_Refused ccs_Refused csl_Refused : Array (Option Value)} {vs_Refused : Array Value} {tf_Refused : Tok}
    {D_TooMany I_TooMany cc_TooMany cda_TooMany : Addr} {qu_TooMany file_TooMany : Str} {kV_TooMany dc_TooMany pm_TooMany ct_TooMany oc_TooMany ccl_TooMany cl_TooMany : Value} {an_TooMany od_TooMany cdd_TooMany cld_TooMany : Option Addr} {osl_TooMany ccs_TooMany csl_TooMany : Array (Option Value)} {vs_TooMany : Array Value} {tf_TooMany : Tok}
    (a_is_integer : PySem.W.nsIn K mainGlobals "is_integer" = some (some (.ref f_is_integer)))
    (l_is_integer : K.lookup f_is_integer = some ⟨oc_is_integer, od_is_integer, .func (PySem.W.fnOf "is_integer" "is_integer" (defArgs s_is_integer) (defBody s_is_integer) (defScope s_is_integer) .none kV_is_integer dc_is_integer pm_is_integer an_is_integer cd_is_integer ct_is_integer), sl_is_integer⟩)
    (k_is_integer : PySem.W.codeIn K cd_is_integer "is_integer" = true)
    (q_is_integer : PySem.W.keepIn K (.ref f_is_integer) = true)
    (a_is_count : PySem.W.nsIn K mainGlobals "is_count" = some (some (.ref f_is_count)))
    (l_is_count : K.lookup f_is_count = some ⟨oc_is_count, od_is_count, .func (PySem.W.fnOf "is_count" "is_count" (defArgs s_is_count) (defBody s_is_count) (defScope s_is_count) .none kV_is_count dc_is_count pm_is_count an_is_count cd_is_count ct_is_count), sl_is_count⟩)
    (k_is_count : PySem.W.codeIn K cd_is_count "is_count" = true)
    (q_is_count : PySem.W.keepIn K (.ref f_is_count) = true)
    (a_are_counts : PySem.W.nsIn K mainGlobals "are_counts" = some (some (.ref f_are_counts)))
    (l_are_counts : K.lookup f_are_counts = some ⟨oc_are_counts, od_are_counts, .func (PySem.W.fnOf "are_counts" "are_counts" (defArgs s_are_counts) (defBody s_are_counts) (defScope s_are_counts) .none kV_are_counts dc_are_counts pm_are_counts an_are_counts cd_are_counts ct_are_counts), sl_are_counts⟩)
    (k_are_counts : PySem.W.codeIn K cd_are_counts "are_counts" = true)
    (q_are_counts : PySem.W.keepIn K (.ref f_are_counts) = true)
    (a_Ldice : PySem.W.nsIn K mainGlobals "_law_dice" = some (some (.ref f_Ldice)))
    (l_Ldice : K.lookup f_Ldice = some ⟨oc_Ldice, od_Ldice, .func (PySem.W.fnOf "_law_dice" "_law_dice" (defArgs s_Ldice) (defBody s_Ldice) (defScope s_Ldice) .none kV_Ldice dc_Ldice pm_Ldice an_Ldice cd_Ldice ct_Ldice), sl_Ldice⟩)
    (k_Ldice : PySem.W.codeIn K cd_Ldice "_law_dice" = true)
    (q_Ldice : PySem.W.keepIn K (.ref f_Ldice) = true)
    (a_Lroll : PySem.W.nsIn K mainGlobals "_law_roll" = some (some (.ref f_Lroll)))
    (l_Lroll : K.lookup f_Lroll = some ⟨oc_Lroll, od_Lroll, .func (PySem.W.fnOf "_law_roll" "_law_roll" (defArgs s_Lroll) (defBody s_Lroll) (defScope s_Lroll) .none kV_Lroll dc_Lroll pm_Lroll an_Lroll cd_Lroll ct_Lroll), sl_Lroll⟩)
    (k_Lroll : PySem.W.codeIn K cd_Lroll "_law_roll" = true)
    (q_Lroll : PySem.W.keepIn K (.ref f_Lroll) = true)
    (a_Lpick : PySem.W.nsIn K mainGlobals "_law_pick" = some (some (.ref f_Lpick)))
    (l_Lpick : K.lookup f_Lpick = some ⟨oc_Lpick, od_Lpick, .func (PySem.W.fnOf "_law_pick" "_law_pick" (defArgs s_Lpick) (defBody s_Lpick) (defScope s_Lpick) .none kV_Lpick dc_Lpick pm_Lpick an_Lpick cd_Lpick ct_Lpick), sl_Lpick⟩)
    (k_Lpick : PySem.W.codeIn K cd_Lpick "_law_pick" = true)
    (q_Lpick : PySem.W.keepIn K (.ref f_Lpick) = true)
    (a_Lis_number : PySem.W.nsIn K mainGlobals "_law_is_number" = some (some (.ref f_Lis_number)))
    (l_Lis_number : K.lookup f_Lis_number = some ⟨oc_Lis_number, od_Lis_number, .func (PySem.W.fnOf "_law_is_number" "_law_is_number" (defArgs s_Lis_number) (defBody s_Lis_number) (defScope s_Lis_number) .none kV_Lis_number dc_Lis_number pm_Lis_number an_Lis_number cd_Lis_number ct_Lis_number), sl_Lis_number⟩)
    (k_Lis_number : PySem.W.codeIn K cd_Lis_number "_law_is_number" = true)
    (q_Lis_number : PySem.W.keepIn K (.ref f_Lis_number) = true)
    (a_Lare_numbers : PySem.W.nsIn K mainGlobals "_law_are_numbers" = some (some (.ref f_Lare_numbers)))
    (l_Lare_numbers : K.lookup f_Lare_numbers = some ⟨oc_Lare_numbers, od_Lare_numbers, .func (PySem.W.fnOf "_law_are_numbers" "_law_are_numbers" (defArgs s_Lare_numbers) (defBody s_Lare_numbers) (defScope s_Lare_numbers) .none kV_Lare_numbers dc_Lare_numbers pm_Lare_numbers an_Lare_numbers cd_Lare_numbers ct_Lare_numbers), sl_Lare_numbers⟩)
    (k_Lare_numbers : PySem.W.codeIn K cd_Lare_numbers "_law_are_numbers" = true)
    (q_Lare_numbers : PySem.W.keepIn K (.ref f_Lare_numbers) = true)
    (a_Lvalues : PySem.W.nsIn K mainGlobals "_law_values" = some (some (.ref f_Lvalues)))
    (l_Lvalues : K.lookup f_Lvalues = some ⟨oc_Lvalues, od_Lvalues, .func (PySem.W.fnOf "_law_values" "_law_values" (defArgs s_Lvalues) (defBody s_Lvalues) (defScope s_Lvalues) .none kV_Lvalues dc_Lvalues pm_Lvalues an_Lvalues cd_Lvalues ct_Lvalues), sl_Lvalues⟩)
    (k_Lvalues : PySem.W.codeIn K cd_Lvalues "_law_values" = true)
    (q_Lvalues : PySem.W.keepIn K (.ref f_Lvalues) = true)
    (a_Lwords_right : PySem.W.nsIn K mainGlobals "_law_words_right" = some (some (.ref f_Lwords_right)))
    (l_Lwords_right : K.lookup f_Lwords_right = some ⟨oc_Lwords_right, od_Lwords_right, .func (PySem.W.fnOf "_law_words_right" "_law_words_right" (defArgs s_Lwords_right) (defBody s_Lwords_right) (defScope s_Lwords_right) .none kV_Lwords_right dc_Lwords_right pm_Lwords_right an_Lwords_right cd_Lwords_right ct_Lwords_right), sl_Lwords_right⟩)
    (k_Lwords_right : PySem.W.codeIn K cd_Lwords_right "_law_words_right" = true)
    (q_Lwords_right : PySem.W.keepIn K (.ref f_Lwords_right) = true)
    (a_Lraised_by : PySem.W.nsIn K mainGlobals "_law_raised_by" = some (some (.ref f_Lraised_by)))
    (l_Lraised_by : K.lookup f_Lraised_by = some ⟨oc_Lraised_by, od_Lraised_by, .func (PySem.W.fnOf "_law_raised_by" "_law_raised_by" (defArgs s_Lraised_by) (defBody s_Lraised_by) (defScope s_Lraised_by) .none kV_Lraised_by dc_Lraised_by pm_Lraised_by an_Lraised_by cd_Lraised_by ct_Lraised_by), sl_Lraised_by⟩)
    (k_Lraised_by : PySem.W.codeIn K cd_Lraised_by "_law_raised_by" = true)
    (q_Lraised_by : PySem.W.keepIn K (.ref f_Lraised_by) = true)
    (a_Lplain_errors : PySem.W.nsIn K mainGlobals "_law_plain_errors" = some (some (.ref f_Lplain_errors)))
    (l_Lplain_errors : K.lookup f_Lplain_errors = some ⟨oc_Lplain_errors, od_Lplain_errors, .func (PySem.W.fnOf "_law_plain_errors" "_law_plain_errors" (defArgs s_Lplain_errors) (defBody s_Lplain_errors) (defScope s_Lplain_errors) .none kV_Lplain_errors dc_Lplain_errors pm_Lplain_errors an_Lplain_errors cd_Lplain_errors ct_Lplain_errors), sl_Lplain_errors⟩)
    (k_Lplain_errors : PySem.W.codeIn K cd_Lplain_errors "_law_plain_errors" = true)
    (q_Lplain_errors : PySem.W.keepIn K (.ref f_Lplain_errors) = true)
    (a_Lcaught_by : PySem.W.nsIn K mainGlobals "_law_caught_by" = some (some (.ref f_Lcaught_by)))
    (l_Lcaught_by : K.lookup f_Lcaught_by = some ⟨oc_Lcaught_by, od_Lcaught_by, .func (PySem.W.fnOf "_law_caught_by" "_law_caught_by" (defArgs s_Lcaught_by) (defBody s_Lcaught_by) (defScope s_Lcaught_by) .none kV_Lcaught_by dc_Lcaught_by pm_Lcaught_by an_Lcaught_by cd_Lcaught_by ct_Lcaught_by), sl_Lcaught_by⟩)
    (k_Lcaught_by : PySem.W.codeIn K cd_Lcaught_by "_law_caught_by" = true)
    (q_Lcaught_by : PySem.W.keepIn K (.ref f_Lcaught_by) = true)
    (a_Lerrors_right : PySem.W.nsIn K mainGlobals "_law_errors_right" = some (some (.ref f_Lerrors_right)))
    (l_Lerrors_right : K.lookup f_Lerrors_right = some ⟨oc_Lerrors_right, od_Lerrors_right, .func (PySem.W.fnOf "_law_errors_right" "_law_errors_right" (defArgs s_Lerrors_right) (defBody s_Lerrors_right) (defScope s_Lerrors_right) .none kV_Lerrors_right dc_Lerrors_right pm_Lerrors_right an_Lerrors_right cd_Lerrors_right ct_Lerrors_right), sl_Lerrors_right⟩)
    (k_Lerrors_right : PySem.W.codeIn K cd_Lerrors_right "_law_errors_right" = true)
    (q_Lerrors_right : PySem.W.keepIn K (.ref f_Lerrors_right) = true)
    (a_law : PySem.W.nsIn K mainGlobals "law" = some (some (.ref f_law)))
    (l_law : K.lookup f_law = some ⟨oc_law, od_law, .func (PySem.W.fnOf "law" "law" (defArgs s_law) (defBody s_law) (defScope s_law) .none kV_law dc_law pm_law an_law cd_law ct_law), sl_law⟩)
    (k_law : PySem.W.codeIn K cd_law "law" = true)
    (q_law : PySem.W.keepIn K (.ref f_law) = true)
    (n_isinstance : PySem.W.nsIn K mainGlobals "isinstance" = some none)
    (n_int : PySem.W.nsIn K mainGlobals "int" = some none)
    (n_bool : PySem.W.nsIn K mainGlobals "bool" = some none)
    (n_abs : PySem.W.nsIn K mainGlobals "abs" = some none)
    (n_tuple : PySem.W.nsIn K mainGlobals "tuple" = some none)
    (n_all : PySem.W.nsIn K mainGlobals "all" = some none)
    (n_len : PySem.W.nsIn K mainGlobals "len" = some none)
    (n_max : PySem.W.nsIn K mainGlobals "max" = some none)
    (n_range : PySem.W.nsIn K mainGlobals "range" = some none)
    (n_repr : PySem.W.nsIn K mainGlobals "repr" = some none)
    (n_ValueError : PySem.W.nsIn K mainGlobals "ValueError" = some none)
    (n_IndexError : PySem.W.nsIn K mainGlobals "IndexError" = some none)
    (n_KeyError : PySem.W.nsIn K mainGlobals "KeyError" = some none)
    (n_RuntimeError : PySem.W.nsIn K mainGlobals "RuntimeError" = some none)
    (n_OverflowError : PySem.W.nsIn K mainGlobals "OverflowError" = some none)
    (n_ArithmeticError : PySem.W.nsIn K mainGlobals "ArithmeticError" = some none)
    (n_enumerate : PySem.W.nsIn K mainGlobals "enumerate" = some none)
    (n_super : PySem.W.nsIn K mainGlobals "super" = some none)
    (n_min : PySem.W.nsIn K mainGlobals "min" = some none)
    (v_MAX_FIGURES : PySem.W.nsIn K mainGlobals "MAX_FIGURES" = some (some (.int 60 t_MAX_FIGURES)))
    (a_CrossError : PySem.W.nsIn K mainGlobals "CrossError" = some (some (.ref C_CrossError)))
    (a_InvalidWeb : PySem.W.nsIn K mainGlobals "InvalidWeb" = some (some (.ref C_InvalidWeb)))
    (a_InvalidCourse : PySem.W.nsIn K mainGlobals "InvalidCourse" = some (some (.ref C_InvalidCourse)))
    (a_InvalidMove : PySem.W.nsIn K mainGlobals "InvalidMove" = some (some (.ref C_InvalidMove)))
    (a_InvalidEnd : PySem.W.nsIn K mainGlobals "InvalidEnd" = some (some (.ref C_InvalidEnd)))
    (a_InvalidDrawing : PySem.W.nsIn K mainGlobals "InvalidDrawing" = some (some (.ref C_InvalidDrawing)))
    (a_InvalidRow : PySem.W.nsIn K mainGlobals "InvalidRow" = some (some (.ref C_InvalidRow)))
    (a_InvalidPaper : PySem.W.nsIn K mainGlobals "InvalidPaper" = some (some (.ref C_InvalidPaper)))
    (a_InvalidTree : PySem.W.nsIn K mainGlobals "InvalidTree" = some (some (.ref C_InvalidTree)))
    (a_InvalidOrder : PySem.W.nsIn K mainGlobals "InvalidOrder" = some (some (.ref C_InvalidOrder)))
    (a_InvalidSmoothing : PySem.W.nsIn K mainGlobals "InvalidSmoothing" = some (some (.ref C_InvalidSmoothing)))
    (a_InvalidShade : PySem.W.nsIn K mainGlobals "InvalidShade" = some (some (.ref C_InvalidShade)))
    (a_InvalidOperation : PySem.W.nsIn K mainGlobals "InvalidOperation" = some (some (.ref C_InvalidOperation)))
    (a_InvalidColouring : PySem.W.nsIn K mainGlobals "InvalidColouring" = some (some (.ref C_InvalidColouring)))
    (a_InvalidMatching : PySem.W.nsIn K mainGlobals "InvalidMatching" = some (some (.ref C_InvalidMatching)))
    (a_InvalidPairing : PySem.W.nsIn K mainGlobals "InvalidPairing" = some (some (.ref C_InvalidPairing)))
    (a_ParseError : PySem.W.nsIn K mainGlobals "ParseError" = some (some (.ref C_ParseError)))
    (a_NothingToUndo : PySem.W.nsIn K mainGlobals "NothingToUndo" = some (some (.ref C_NothingToUndo)))
    (a_InvalidNumber : PySem.W.nsIn K mainGlobals "InvalidNumber" = some (some (.ref C_InvalidNumber)))
    (a_Refused : PySem.W.nsIn K mainGlobals "Refused" = some (some (.ref C_Refused)))
    (a_TooMany : PySem.W.nsIn K mainGlobals "TooMany" = some (some (.ref C_TooMany)))
    (h1 : kitB K ((cal C_CrossError C_InvalidWeb C_InvalidCourse C_InvalidMove C_InvalidEnd C_InvalidDrawing C_InvalidRow C_InvalidPaper C_InvalidTree C_InvalidOrder C_InvalidSmoothing C_InvalidShade C_InvalidOperation C_InvalidColouring C_InvalidMatching C_InvalidPairing C_ParseError C_NothingToUndo C_InvalidNumber C_Refused C_TooMany)) kit_t kit_c kit_f = true)
    (h2 : kitB K ((cal C_CrossError C_InvalidWeb C_InvalidCourse C_InvalidMove C_InvalidEnd C_InvalidDrawing C_InvalidRow C_InvalidPaper C_InvalidTree C_InvalidOrder C_InvalidSmoothing C_InvalidShade C_InvalidOperation C_InvalidColouring C_InvalidMatching C_InvalidPairing C_ParseError C_NothingToUndo C_InvalidNumber C_Refused C_TooMany)) kix_t kix_c kix_f = true)
    (h3 : slB ((cal C_CrossError C_InvalidWeb C_InvalidCourse C_InvalidMove C_InvalidEnd C_InvalidDrawing C_InvalidRow C_InvalidPaper C_InvalidTree C_InvalidOrder C_InvalidSmoothing C_InvalidShade C_InvalidOperation C_InvalidColouring C_InvalidMatching C_InvalidPairing C_ParseError C_NothingToUndo C_InvalidNumber C_Refused C_TooMany)) K (kiB K) kix_t = true)
    (h4 : slB ((cal C_CrossError C_InvalidWeb C_InvalidCourse C_InvalidMove C_InvalidEnd C_InvalidDrawing C_InvalidRow C_InvalidPaper C_InvalidTree C_InvalidOrder C_InvalidSmoothing C_InvalidShade C_InvalidOperation C_InvalidColouring C_InvalidMatching C_InvalidPairing C_ParseError C_NothingToUndo C_InvalidNumber C_Refused C_TooMany)) K (fun _ => false) kit_t = true)
    (p_InvalidWeb : kpB K C_InvalidWeb = true)
    (p_InvalidCourse : kpB K C_InvalidCourse = true)
    (p_InvalidMove : kpB K C_InvalidMove = true)
    (p_InvalidEnd : kpB K C_InvalidEnd = true)
    (p_InvalidDrawing : kpB K C_InvalidDrawing = true)
    (p_InvalidRow : kpB K C_InvalidRow = true)
    (p_InvalidPaper : kpB K C_InvalidPaper = true)
    (p_InvalidTree : kpB K C_InvalidTree = true)
    (p_InvalidOrder : kpB K C_InvalidOrder = true)
    (p_InvalidSmoothing : kpB K C_InvalidSmoothing = true)
    (p_InvalidShade : kpB K C_InvalidShade = true)
    (p_InvalidOperation : kpB K C_InvalidOperation = true)
    (p_InvalidColouring : kpB K C_InvalidColouring = true)
    (p_InvalidMatching : kpB K C_InvalidMatching = true)
    (p_InvalidPairing : kpB K C_InvalidPairing = true)
    (i_NothingToUndo : PySem.W.findIn K (.ref C_NothingToUndo) "__init__" = some (some (.ref I_NothingToUndo)))
    (l_NothingToUndo : K.lookup I_NothingToUndo = some ⟨oc_NothingToUndo, od_NothingToUndo, .func (PySem.W.ksFn "__init__" qu_NothingToUndo (defArgs si_NothingToUndo) (defBody si_NothingToUndo) (defScope si_NothingToUndo) .none kV_NothingToUndo dc_NothingToUndo pm_NothingToUndo an_NothingToUndo (.ref cda_NothingToUndo) ct_NothingToUndo cc_NothingToUndo), osl_NothingToUndo⟩)
    (k_NothingToUndo : PySem.W.codeIn K (.ref cda_NothingToUndo) qu_NothingToUndo = true)
    (m_NothingToUndo : K.lookup cda_NothingToUndo = some ⟨ccl_NothingToUndo, cdd_NothingToUndo, .fields vs_NothingToUndo, ccs_NothingToUndo⟩)
    (o_NothingToUndo : vs_NothingToUndo[2]? = some (.str file_NothingToUndo tf_NothingToUndo))
    (u_NothingToUndo : ((pw.main.file : Str) == file_NothingToUndo) = true)
    (w_NothingToUndo : K.lookup cc_NothingToUndo = some ⟨cl_NothingToUndo, cld_NothingToUndo, .cell (some (.ref D_NothingToUndo)), csl_NothingToUndo⟩)
    (x_NothingToUndo : kxB K C_NothingToUndo D_NothingToUndo I_NothingToUndo "asked" "RuntimeError" "RuntimeError.__new__" "RuntimeError.__init__" [.type "RuntimeError", .type "Exception", .type "BaseException", .type "object"] = true)
    (i_InvalidNumber : PySem.W.findIn K (.ref C_InvalidNumber) "__init__" = some (some (.ref I_InvalidNumber)))
    (l_InvalidNumber : K.lookup I_InvalidNumber = some ⟨oc_InvalidNumber, od_InvalidNumber, .func (PySem.W.ksFn "__init__" qu_InvalidNumber (defArgs si_InvalidNumber) (defBody si_InvalidNumber) (defScope si_InvalidNumber) .none kV_InvalidNumber dc_InvalidNumber pm_InvalidNumber an_InvalidNumber (.ref cda_InvalidNumber) ct_InvalidNumber cc_InvalidNumber), osl_InvalidNumber⟩)
    (k_InvalidNumber : PySem.W.codeIn K (.ref cda_InvalidNumber) qu_InvalidNumber = true)
    (m_InvalidNumber : K.lookup cda_InvalidNumber = some ⟨ccl_InvalidNumber, cdd_InvalidNumber, .fields vs_InvalidNumber, ccs_InvalidNumber⟩)
    (o_InvalidNumber : vs_InvalidNumber[2]? = some (.str file_InvalidNumber tf_InvalidNumber))
    (u_InvalidNumber : ((pw.main.file : Str) == file_InvalidNumber) = true)
    (w_InvalidNumber : K.lookup cc_InvalidNumber = some ⟨cl_InvalidNumber, cld_InvalidNumber, .cell (some (.ref D_InvalidNumber)), csl_InvalidNumber⟩)
    (x_InvalidNumber : kxB K C_InvalidNumber D_InvalidNumber I_InvalidNumber "value" "IndexError" "IndexError.__new__" "IndexError.__init__" [.type "IndexError", .type "LookupError", .type "Exception", .type "BaseException", .type "object"] = true)
    (i_ParseError : PySem.W.findIn K (.ref C_ParseError) "__init__" = some (some (.ref I_ParseError)))
    (l_ParseError : K.lookup I_ParseError = some ⟨oc_ParseError, od_ParseError, .func (PySem.W.ksFn "__init__" qu_ParseError (defArgs si_ParseError) (defBody si_ParseError) (defScope si_ParseError) .none kV_ParseError dc_ParseError pm_ParseError an_ParseError (.ref cda_ParseError) ct_ParseError cc_ParseError), osl_ParseError⟩)
    (k_ParseError : PySem.W.codeIn K (.ref cda_ParseError) qu_ParseError = true)
    (m_ParseError : K.lookup cda_ParseError = some ⟨ccl_ParseError, cdd_ParseError, .fields vs_ParseError, ccs_ParseError⟩)
    (o_ParseError : vs_ParseError[2]? = some (.str file_ParseError tf_ParseError))
    (u_ParseError : ((pw.main.file : Str) == file_ParseError) = true)
    (w_ParseError : K.lookup cc_ParseError = some ⟨cl_ParseError, cld_ParseError, .cell (some (.ref D_ParseError)), csl_ParseError⟩)
    (x_ParseError : kxB K C_ParseError D_ParseError I_ParseError "number" "ValueError" "ValueError.__new__" "ValueError.__init__" [.type "ValueError", .type "Exception", .type "BaseException", .type "object"] = true)
    (i_Refused : PySem.W.findIn K (.ref C_Refused) "__init__" = some (some (.ref I_Refused)))
    (l_Refused : K.lookup I_Refused = some ⟨oc_Refused, od_Refused, .func (PySem.W.ksFn "__init__" qu_Refused (defArgs si_Refused) (defBody si_Refused) (defScope si_Refused) .none kV_Refused dc_Refused pm_Refused an_Refused (.ref cda_Refused) ct_Refused cc_Refused), osl_Refused⟩)
    (k_Refused : PySem.W.codeIn K (.ref cda_Refused) qu_Refused = true)
    (m_Refused : K.lookup cda_Refused = some ⟨ccl_Refused, cdd_Refused, .fields vs_Refused, ccs_Refused⟩)
    (o_Refused : vs_Refused[2]? = some (.str file_Refused tf_Refused))
    (u_Refused : ((pw.main.file : Str) == file_Refused) = true)
    (w_Refused : K.lookup cc_Refused = some ⟨cl_Refused, cld_Refused, .cell (some (.ref D_Refused)), csl_Refused⟩)
    (x_Refused : kxB K C_Refused D_Refused I_Refused "pledge" "ArithmeticError" "ArithmeticError.__new__" "ArithmeticError.__init__" [.type "ArithmeticError", .type "Exception", .type "BaseException", .type "object"] = true)
    (i_TooMany : PySem.W.findIn K (.ref C_TooMany) "__init__" = some (some (.ref I_TooMany)))
    (l_TooMany : K.lookup I_TooMany = some ⟨oc_TooMany, od_TooMany, .func (PySem.W.ksFn "__init__" qu_TooMany (defArgs si_TooMany) (defBody si_TooMany) (defScope si_TooMany) .none kV_TooMany dc_TooMany pm_TooMany an_TooMany (.ref cda_TooMany) ct_TooMany cc_TooMany), osl_TooMany⟩)
    (k_TooMany : PySem.W.codeIn K (.ref cda_TooMany) qu_TooMany = true)
    (m_TooMany : K.lookup cda_TooMany = some ⟨ccl_TooMany, cdd_TooMany, .fields vs_TooMany, ccs_TooMany⟩)
    (o_TooMany : vs_TooMany[2]? = some (.str file_TooMany tf_TooMany))
    (u_TooMany : ((pw.main.file : Str) == file_TooMany) = true)
    (w_TooMany : K.lookup cc_TooMany = some ⟨cl_TooMany, cld_TooMany, .cell (some (.ref D_TooMany)), csl_TooMany⟩)
    (x_TooMany : kxB K C_TooMany D_TooMany I_TooMany "limit" "OverflowError" "OverflowError.__new__" "OverflowError.__init__" [.type "OverflowError", .type "ArithmeticError", .type "Exception", .type "BaseException", .type "object"] = true)
    : ∃ (G : Glo) (A : Ad), G.K = K ∧ TT pw G mg A := by
  have ko : KitOk ⟨K, (cal C_CrossError C_InvalidWeb C_InvalidCourse C_InvalidMove C_InvalidEnd C_InvalidDrawing C_InvalidRow C_InvalidPaper C_InvalidTree C_InvalidOrder C_InvalidSmoothing C_InvalidShade C_InvalidOperation C_InvalidColouring C_InvalidMatching C_InvalidPairing C_ParseError C_NothingToUndo C_InvalidNumber C_Refused C_TooMany)⟩ kit := kitOk_of (G := ⟨K, (cal C_CrossError C_InvalidWeb C_InvalidCourse C_InvalidMove C_InvalidEnd C_InvalidDrawing C_InvalidRow C_InvalidPaper C_InvalidTree C_InvalidOrder C_InvalidSmoothing C_InvalidShade C_InvalidOperation C_InvalidColouring C_InvalidMatching C_InvalidPairing C_ParseError C_NothingToUndo C_InvalidNumber C_Refused C_TooMany)⟩) (ts := kit_t) (cs := kit_c) (f := kit_f) (p := fun _ => false) bt_caL h1 (by kernel_rfl) h4 (fun _ z => Bool.noConfusion z)
  have kx : KixOk ⟨K, (cal C_CrossError C_InvalidWeb C_InvalidCourse C_InvalidMove C_InvalidEnd C_InvalidDrawing C_InvalidRow C_InvalidPaper C_InvalidTree C_InvalidOrder C_InvalidSmoothing C_InvalidShade C_InvalidOperation C_InvalidColouring C_InvalidMatching C_InvalidPairing C_ParseError C_NothingToUndo C_InvalidNumber C_Refused C_TooMany)⟩ kix := kixOk_of (G := ⟨K, (cal C_CrossError C_InvalidWeb C_InvalidCourse C_InvalidMove C_InvalidEnd C_InvalidDrawing C_InvalidRow C_InvalidPaper C_InvalidTree C_InvalidOrder C_InvalidSmoothing C_InvalidShade C_InvalidOperation C_InvalidColouring C_InvalidMatching C_InvalidPairing C_ParseError C_NothingToUndo C_InvalidNumber C_Refused C_TooMany)⟩) (ts := kix_t) (cs := kix_c) (f := kix_f) h2 (by kernel_rfl) h3
  exact ⟨⟨K, (cal C_CrossError C_InvalidWeb C_InvalidCourse C_InvalidMove C_InvalidEnd C_InvalidDrawing C_InvalidRow C_InvalidPaper C_InvalidTree C_InvalidOrder C_InvalidSmoothing C_InvalidShade C_InvalidOperation C_InvalidColouring C_InvalidMatching C_InvalidPairing C_ParseError C_NothingToUndo C_InvalidNumber C_Refused C_TooMany)⟩, { a_is_integer := f_is_integer, a_is_count := f_is_count, a_are_counts := f_are_counts, a_Ldice := f_Ldice, a_Lroll := f_Lroll, a_Lpick := f_Lpick, a_Lis_number := f_Lis_number, a_Lare_numbers := f_Lare_numbers, a_Lvalues := f_Lvalues, a_Lwords_right := f_Lwords_right, a_Lraised_by := f_Lraised_by, a_Lplain_errors := f_Lplain_errors, a_Lcaught_by := f_Lcaught_by, a_Lerrors_right := f_Lerrors_right, a_law := f_law, fd_is_integer := _, fd_is_count := _, fd_are_counts := _, fd_Ldice := _, fd_Lroll := _, fd_Lpick := _, fd_Lis_number := _, fd_Lare_numbers := _, fd_Lvalues := _, fd_Lwords_right := _, fd_Lraised_by := _, fd_Lplain_errors := _, fd_Lcaught_by := _, fd_Lerrors_right := _, fd_law := _, c_CrossError := C_CrossError, c_InvalidWeb := C_InvalidWeb, c_InvalidCourse := C_InvalidCourse, c_InvalidMove := C_InvalidMove, c_InvalidEnd := C_InvalidEnd, c_InvalidDrawing := C_InvalidDrawing, c_InvalidRow := C_InvalidRow, c_InvalidPaper := C_InvalidPaper, c_InvalidTree := C_InvalidTree, c_InvalidOrder := C_InvalidOrder, c_InvalidSmoothing := C_InvalidSmoothing, c_InvalidShade := C_InvalidShade, c_InvalidOperation := C_InvalidOperation, c_InvalidColouring := C_InvalidColouring, c_InvalidMatching := C_InvalidMatching, c_InvalidPairing := C_InvalidPairing, c_ParseError := C_ParseError, c_NothingToUndo := C_NothingToUndo, c_InvalidNumber := C_InvalidNumber, c_Refused := C_Refused, c_TooMany := C_TooMany }, rfl, { ko := ko, kx := kx, f_is_integer := fun_mk (st := s_is_integer) l_is_integer k_is_integer q_is_integer, g_is_integer := PySem.W.mg_of X Gn a_is_integer, f_is_count := fun_mk (st := s_is_count) l_is_count k_is_count q_is_count, g_is_count := PySem.W.mg_of X Gn a_is_count, f_are_counts := fun_mk (st := s_are_counts) l_are_counts k_are_counts q_are_counts, g_are_counts := PySem.W.mg_of X Gn a_are_counts, f_Ldice := fun_mk (st := s_Ldice) l_Ldice k_Ldice q_Ldice, g_Ldice := PySem.W.mg_of X Gn a_Ldice, f_Lroll := fun_mk (st := s_Lroll) l_Lroll k_Lroll q_Lroll, g_Lroll := PySem.W.mg_of X Gn a_Lroll, f_Lpick := fun_mk (st := s_Lpick) l_Lpick k_Lpick q_Lpick, g_Lpick := PySem.W.mg_of X Gn a_Lpick, f_Lis_number := fun_mk (st := s_Lis_number) l_Lis_number k_Lis_number q_Lis_number, g_Lis_number := PySem.W.mg_of X Gn a_Lis_number, f_Lare_numbers := fun_mk (st := s_Lare_numbers) l_Lare_numbers k_Lare_numbers q_Lare_numbers, g_Lare_numbers := PySem.W.mg_of X Gn a_Lare_numbers, f_Lvalues := fun_mk (st := s_Lvalues) l_Lvalues k_Lvalues q_Lvalues, g_Lvalues := PySem.W.mg_of X Gn a_Lvalues, f_Lwords_right := fun_mk (st := s_Lwords_right) l_Lwords_right k_Lwords_right q_Lwords_right, g_Lwords_right := PySem.W.mg_of X Gn a_Lwords_right, f_Lraised_by := fun_mk (st := s_Lraised_by) l_Lraised_by k_Lraised_by q_Lraised_by, g_Lraised_by := PySem.W.mg_of X Gn a_Lraised_by, f_Lplain_errors := fun_mk (st := s_Lplain_errors) l_Lplain_errors k_Lplain_errors q_Lplain_errors, g_Lplain_errors := PySem.W.mg_of X Gn a_Lplain_errors, f_Lcaught_by := fun_mk (st := s_Lcaught_by) l_Lcaught_by k_Lcaught_by q_Lcaught_by, g_Lcaught_by := PySem.W.mg_of X Gn a_Lcaught_by, f_Lerrors_right := fun_mk (st := s_Lerrors_right) l_Lerrors_right k_Lerrors_right q_Lerrors_right, g_Lerrors_right := PySem.W.mg_of X Gn a_Lerrors_right, f_law := fun_mk (st := s_law) l_law k_law q_law, g_law := PySem.W.mg_of X Gn a_law, n_isinstance := PySem.W.mg_none_of X Gn n_isinstance, n_int := PySem.W.mg_none_of X Gn n_int, n_bool := PySem.W.mg_none_of X Gn n_bool, n_abs := PySem.W.mg_none_of X Gn n_abs, n_tuple := PySem.W.mg_none_of X Gn n_tuple, n_all := PySem.W.mg_none_of X Gn n_all, n_len := PySem.W.mg_none_of X Gn n_len, n_max := PySem.W.mg_none_of X Gn n_max, n_range := PySem.W.mg_none_of X Gn n_range, n_repr := PySem.W.mg_none_of X Gn n_repr, n_ValueError := PySem.W.mg_none_of X Gn n_ValueError, bx_ValueError := by kernel_rfl, n_IndexError := PySem.W.mg_none_of X Gn n_IndexError, bx_IndexError := by kernel_rfl, n_KeyError := PySem.W.mg_none_of X Gn n_KeyError, bx_KeyError := by kernel_rfl, n_RuntimeError := PySem.W.mg_none_of X Gn n_RuntimeError, bx_RuntimeError := by kernel_rfl, n_OverflowError := PySem.W.mg_none_of X Gn n_OverflowError, bx_OverflowError := by kernel_rfl, n_ArithmeticError := PySem.W.mg_none_of X Gn n_ArithmeticError, bx_ArithmeticError := by kernel_rfl, n_enumerate := PySem.W.mg_none_of X Gn n_enumerate, n_super := PySem.W.mg_none_of X Gn n_super, n_min := PySem.W.mg_none_of X Gn n_min, c_BOUND := loose_int LL (by simp), c_MAX_FIGURES := glob_int X Gn v_MAX_FIGURES, g_CrossError := PySem.W.mg_of X Gn a_CrossError, ca_CrossError := by kernel_rfl, g_InvalidWeb := PySem.W.mg_of X Gn a_InvalidWeb, ca_InvalidWeb := by kernel_rfl, g_InvalidCourse := PySem.W.mg_of X Gn a_InvalidCourse, ca_InvalidCourse := by kernel_rfl, g_InvalidMove := PySem.W.mg_of X Gn a_InvalidMove, ca_InvalidMove := by kernel_rfl, g_InvalidEnd := PySem.W.mg_of X Gn a_InvalidEnd, ca_InvalidEnd := by kernel_rfl, g_InvalidDrawing := PySem.W.mg_of X Gn a_InvalidDrawing, ca_InvalidDrawing := by kernel_rfl, g_InvalidRow := PySem.W.mg_of X Gn a_InvalidRow, ca_InvalidRow := by kernel_rfl, g_InvalidPaper := PySem.W.mg_of X Gn a_InvalidPaper, ca_InvalidPaper := by kernel_rfl, g_InvalidTree := PySem.W.mg_of X Gn a_InvalidTree, ca_InvalidTree := by kernel_rfl, g_InvalidOrder := PySem.W.mg_of X Gn a_InvalidOrder, ca_InvalidOrder := by kernel_rfl, g_InvalidSmoothing := PySem.W.mg_of X Gn a_InvalidSmoothing, ca_InvalidSmoothing := by kernel_rfl, g_InvalidShade := PySem.W.mg_of X Gn a_InvalidShade, ca_InvalidShade := by kernel_rfl, g_InvalidOperation := PySem.W.mg_of X Gn a_InvalidOperation, ca_InvalidOperation := by kernel_rfl, g_InvalidColouring := PySem.W.mg_of X Gn a_InvalidColouring, ca_InvalidColouring := by kernel_rfl, g_InvalidMatching := PySem.W.mg_of X Gn a_InvalidMatching, ca_InvalidMatching := by kernel_rfl, g_InvalidPairing := PySem.W.mg_of X Gn a_InvalidPairing, ca_InvalidPairing := by kernel_rfl, g_ParseError := PySem.W.mg_of X Gn a_ParseError, ca_ParseError := by kernel_rfl, g_NothingToUndo := PySem.W.mg_of X Gn a_NothingToUndo, ca_NothingToUndo := by kernel_rfl, g_InvalidNumber := PySem.W.mg_of X Gn a_InvalidNumber, ca_InvalidNumber := by kernel_rfl, g_Refused := PySem.W.mg_of X Gn a_Refused, ca_Refused := by kernel_rfl, g_TooMany := PySem.W.mg_of X Gn a_TooMany, ca_TooMany := by kernel_rfl, kp_InvalidWeb := kpB_ok p_InvalidWeb, kp_InvalidCourse := kpB_ok p_InvalidCourse, kp_InvalidMove := kpB_ok p_InvalidMove, kp_InvalidEnd := kpB_ok p_InvalidEnd, kp_InvalidDrawing := kpB_ok p_InvalidDrawing, kp_InvalidRow := kpB_ok p_InvalidRow, kp_InvalidPaper := kpB_ok p_InvalidPaper, kp_InvalidTree := kpB_ok p_InvalidTree, kp_InvalidOrder := kpB_ok p_InvalidOrder, kp_InvalidSmoothing := kpB_ok p_InvalidSmoothing, kp_InvalidShade := kpB_ok p_InvalidShade, kp_InvalidOperation := kpB_ok p_InvalidOperation, kp_InvalidColouring := kpB_ok p_InvalidColouring, kp_InvalidMatching := kpB_ok p_InvalidMatching, kp_InvalidPairing := kpB_ok p_InvalidPairing, kx_NothingToUndo := kxC_of kxs_NothingToUndo kxt_Runtime l_NothingToUndo k_NothingToUndo m_NothingToUndo o_NothingToUndo u_NothingToUndo w_NothingToUndo (by decide +kernel) x_NothingToUndo, kx_InvalidNumber := kxC_of kxs_InvalidNumber kxt_Index l_InvalidNumber k_InvalidNumber m_InvalidNumber o_InvalidNumber u_InvalidNumber w_InvalidNumber (by decide +kernel) x_InvalidNumber, kx_ParseError := kxC_of kxs_ParseError kxt_Value l_ParseError k_ParseError m_ParseError o_ParseError u_ParseError w_ParseError (by decide +kernel) x_ParseError, kx_Refused := kxC_of kxs_Refused kxt_Arithmetic l_Refused k_Refused m_Refused o_Refused u_Refused w_Refused (by decide +kernel) x_Refused, kx_TooMany := kxC_of kxs_TooMany kxt_Overflow l_TooMany k_TooMany m_TooMany o_TooMany u_TooMany w_TooMany (by decide +kernel) x_TooMany }⟩
end K00

namespace K00
open PySem PySem.Spec PyProof.Rows L2 Y
def SB : Sto := ⟨1, [.dice]⟩
def Fine (d : D) (S : Sto) : Prop := d = .bl true ∧ S.get 0 = some .dice
section
variable {P : Program} {w : World} {mg : Str → Option Value} {base : Heap} {G : Glo} {A : Ad}
abbrev sd0 (ns : List Int) : SD := [some (.scr ns), none, none, none]
abbrev sdB (ns : List Int) : SD := [some (.scr ns), none, some (.loc 0), none]
theorem never_of {m : MF} {ns : List Int} (h : AllR (m [.loc 0] SB) Fine) : AllR (tNotM (mTru (mCall m (mCons (mVar 2) mNil))) (sdB ns) SB) fun b S1 => b = false ∧ Weak (sdB ns) S1 (sdB ns) SB := by
  refine AllR.bind (AllR.bind ?_)
  refine AllR.mono (P := Fine) h fun d S1 ⟨e, hd⟩ => ?_
  subst e
  exact .ok (.ok ⟨rfl, Weak.dice ⟨rfl, rfl, rfl, rfl, trivial⟩ hd⟩)
theorem top_law (L1 : AllR (m_Lwords_right [.loc 0] SB) Fine) (L2' : AllR (m_Lerrors_right [.loc 0] SB) Fine) (T : TT P G mg A) : FnT G P w mg base 5 63 A.a_law :=
  fn_top T.f_law sc_law rfl (T.f_law.binds fun _ _ _ _ _ _ us hl => match us, hl with | [_], _ => rfl) fun cdv Ar outer s H W ns hn hr hg ok => by
    have hlen : ∃ j : Int, (mCons (mCall fMax2 (mCons (mC (.int 1)) (mCons (mCall fMin2 (mCons (mC (.int 3)) (mCons (mCall fLen (mCons (mVar 0) mNil)) mNil))) mNil))) mNil) (sd0 ns) ⟨0, []⟩ = .ok [.int j] ⟨0, []⟩ ∧ 1 ≤ j ∧ j ≤ 3 := by
      refine ⟨_, rfl, ?_⟩
      have h0 : (0 : Int) ≤ ns.length := Int.natCast_nonneg _
      split <;> split <;> omega
    obtain ⟨j, ej, j1, j2⟩ := hlen
    refine ⟨_, pss_cons (topF (i := 1) (sd := sd0 ns) (sd' := sd0 ns) (S := ⟨0, []⟩) (S' := ⟨0, []⟩) (j := j) ok (by rfl) (by rfl) T.n_range (pa_consm (pm_callB (cm_max2 rfl) (by rfl) T.n_max (by decide +kernel) (pa_consm pm_int (pa_consm (pm_callB (cm_min2 rfl) (by rfl) T.n_min (by decide +kernel) (pa_consm pm_int (pa_consm (pm_callB cm_len (by rfl) T.n_len (by decide +kernel) (pa_consm (pm_var (i := 0)) pa_nilm)) pa_nilm))) pa_nilm))) pa_nilm) (pgn (i := 1) sc_law.nd)
      (pss_cons (topSx (sd := fun k => [some (.scr ns), some (.int k), none, none]) (n := 3) (S := ⟨0, []⟩) (sd' := sdB ns) (S' := SB) (ps_setm (i := 2) sc_law.nd (pm_call (cm_fnG (ok_Ldice T) (hr.mono (by decide)) hg) (by rfl) T.g_Ldice T.f_Ldice.kp (pa_consm (pm_var (i := 0)) (pa_consm (pm_var (i := 1)) pa_nilm)))) ok ?a1)
        (pss_one (topF (i := 3) (sd := sdB ns) (sd' := sdB ns) (S := SB) (S' := SB) (j := 3) ok (by rfl) (by rfl) T.n_range (pa_consm pm_int pa_nilm) (pgn (i := 3) sc_law.nd)
          (pss_one (topI (sd := sdB ns) (S := SB) (neverW (neverWc (never1 (pt_notm (pt_tru (pm_call (cm_fnG (ok_Lwords_right T) (hr.mono (by decide)) hg) (by rfl) T.g_Lwords_right T.f_Lwords_right.kp (pa_consm (pm_var (i := 2)) pa_nilm)))) ok (never_of L1))
            (neverW1 (never1 (pt_notm (pt_tru (pm_call (cm_fnG (ok_Lerrors_right T) (hr.mono (by decide)) hg) (by rfl) T.g_Lerrors_right T.f_Lerrors_right.kp (pa_consm (pm_var (i := 2)) pa_nilm)))) ok (never_of L2')))))))
          (by rfl) (by decide) Weak.refl))) ej (by omega) Weak.refl)
      (pss_one (topR (sd := sd0 ns) (S := ⟨0, []⟩) pm_bl ok (show AllR (mC (.bl true) (sd0 ns) ⟨0, []⟩) _ from .ok rfl))), fun E σ H ht hE => ?_⟩
    case a1 =>
      intro i hi
      refine AllS.bind (AllR.bind ?_)
      have e : mDice [.scr ns, .int i] ⟨0, []⟩ = .ok (.loc 0) SB := by
        have h1 : (0 : Int) ≤ i ∧ (i : Int) < 1000000 := by omega
        simp [mDice, h1]
        rfl
      refine .ok (?_ : AllR (mDice [.scr ns, .int i] ⟨0, []⟩) _)
      rw [e]
      exact .ok (.nx (Weak.dice ⟨rfl, rfl, rfl, rfl, trivial⟩ rfl))
    refine ⟨ht, fun k hk σ' H' h1 => ⟨⟨k, by omega, h1⟩, fun σ2 H2 h2 => ⟨h2, fun jj hjj σ3 H3 h3 => ⟨h3.weak ?b1, fun σ4 H4 h4 => h4⟩, fun σ3 H3 h3 => h3.weak ?b2⟩⟩, fun σ2 H2 h2 => ⟨h2, hE⟩⟩
    case b1 => exact Weak.dice (sd := [some (.scr ns), none, some (.loc 0), some (.int jj)]) ⟨rfl, rfl, rfl, rfl, trivial⟩ rfl
    case b2 => exact Weak.look0 (sd := sdB ns) ⟨rfl, rfl, trivial⟩
end
end K00

namespace K00
open PySem PySem.Spec PyProof.Rows L2 Y
abbrev B60 : Nat := 1000000000000000000000000000000000000000000000000000000000000
def Pl : D → Bool
  | .int i => decide (i.natAbs ≤ B60)
  | .bl _ => true
  | .non => true
  | .str x => x == [] || x == [49] || x == [51]
  | .tup l => (l.all fun y => match y with
    | .int i => decide (i.natAbs ≤ B60)
    | _ => false) && decide (l.length ≤ 5)
  | _ => false
def Okv (S : Sto) : D → Prop
  | .int i => i.natAbs ≤ B60
  | .bl _ => True
  | .non => True
  | .str x => (x == [] || x == [49] || x == [51]) = true
  | .tup l => l.length ≤ 5 ∧ ∀ y ∈ l, Pl y = true
  | .loc k => (∃ l, S.get k = some (.lst l) ∧ l.length ≤ 5 ∧ ∀ y ∈ l, Pl y = true) ∨ S.get k = some (.dct 0 [])
  | _ => False
def Kd (S : Sto) (d : D) : Prop := Pl d = true ∨ Okv S d
def isI : D → Bool
  | .int i => decide ((if i < 0 then -i else i) < 1000000000000000000000000000000000000000000000000000000000000)
  | _ => false
def isC : D → Bool
  | .int i => decide ((if i < 0 then -i else i) < 1000000000000000000000000000000000000000000000000000000000000) && decide (0 ≤ i)
  | _ => false
theorem isi0 {S : Sto} {d : D} (h : Kd S d) : fIsE kit kix [d, .cls 0] S = .ok (.bl (match d with | .int _ => true | .bl _ => true | _ => false)) S := by
  cases d with
  | loc k =>
    rcases h with h | ⟨l, h, _⟩ | h
    · cases h
    · simp [fIsE, fIsI, tyD, h]; rfl
    · simp [fIsE, fIsI, tyD, h]; rfl
  | scr l => rcases h with h | h <;> cases h
  | cls l => rcases h with h | h <;> cases h
  | _ => rfl
theorem isi1 {S : Sto} {d : D} (h : Kd S d) : fIsE kit kix [d, .cls 1] S = .ok (.bl (match d with | .bl _ => true | _ => false)) S := by
  cases d with
  | loc k =>
    rcases h with h | ⟨l, h, _⟩ | h
    · cases h
    · simp [fIsE, fIsI, tyD, h]; rfl
    · simp [fIsE, fIsI, tyD, h]; rfl
  | scr l => rcases h with h | h <;> cases h
  | cls l => rcases h with h | h <;> cases h
  | _ => rfl
theorem isi3 {S : Sto} {d : D} (h : Kd S d) : fIsE kit kix [d, .cls 3] S = .ok (.bl (match d with | .tup _ => true | _ => false)) S := by
  cases d with
  | loc k =>
    rcases h with h | ⟨l, h, _⟩ | h
    · cases h
    · simp [fIsE, fIsI, tyD, h]; rfl
    · simp [fIsE, fIsI, tyD, h]; rfl
  | scr l => rcases h with h | h <;> cases h
  | cls l => rcases h with h | h <;> cases h
  | _ => rfl
theorem e_int {S : Sto} {d : D} (h : Kd S d) : m_is_integer [d] S = .ok (.bl (isI d)) S := by
  cases d with
  | loc k =>
    have h0 := isi0 h
    simp [m_is_integer, mkF, stD, b_is_integer, sRet, bindS, mAndV, mCall, mCons, mNil, mVar, mC, Res.bind, SRes.res, h0, isI]
  | scr l => rcases h with h | h <;> cases h
  | cls l => rcases h with h | h <;> cases h
  | _ => rfl
theorem e_num {S : Sto} {d : D} (h : Kd S d) : m_Lis_number [d] S = .ok (.bl (isI d)) S := by
  cases d with
  | loc k =>
    have h0 := isi0 h
    simp [m_Lis_number, mkF, stD, b_Lis_number, sRet, bindS, mAndV, mCall, mCons, mNil, mVar, mC, Res.bind, SRes.res, h0, isI]
  | scr l => rcases h with h | h <;> cases h
  | cls l => rcases h with h | h <;> cases h
  | _ => rfl
theorem e_cnt {S : Sto} {d : D} (h : Kd S d) : m_is_count [d] S = .ok (.bl (isC d)) S := by
  have h0 := e_int h
  cases d with
  | int i =>
    simp only [isI] at h0
    by_cases hi : (if i < 0 then -i else i) < 1000000000000000000000000000000000000000000000000000000000000
    · simp [m_is_count, mkF, stD, b_is_count, sRet, bindS, mAndV, mCall, mCons, mNil, mVar, mC, mBin, cGe, Res.bind, SRes.res, h0, isC, hi]
    · simp [m_is_count, mkF, stD, b_is_count, sRet, bindS, mAndV, mCall, mCons, mNil, mVar, mC, mBin, cGe, Res.bind, SRes.res, h0, isC, hi]
  | _ => simp [m_is_count, mkF, stD, b_is_count, sRet, bindS, mAndV, mCall, mCons, mNil, mVar, mC, Res.bind, SRes.res, h0, isI, isC]

theorem lcA {l : List D} {q : MT} {e : ME} {p : D → Bool} {f : D → D} {S : Sto} (hl : l.length ≤ 5) (hq : ∀ d ∈ l, ∀ S, q ([some (.tup l), some d]) S = .ok (p d) S) (he : ∀ d ∈ l, ∀ S, e ([some (.tup l), some d]) S = .ok (f d) S) :
    mLock (mVar 0) (mLc (mIt (mVar 0)) (.nm 1) q e [1]) [some (.tup l), none] S = .ok (.loc S.n) ((S.new (.lst [])).set S.n (.lst ((l.filter p).map f))) := by
  show lcLoop (.tup l) (.nm 1) q e [some (.tup l), none] S.n (l.length + 1) 0 (S.new (.lst [])) = _
  rw [lc_gen (p := p) (f := f) hq he (l.length + 1) 0 [] (S.new (.lst [])) Sto.get_new_self (by simp; omega) (Nat.zero_le _) (by omega)]
  simp
def aC : D → Bool
  | .tup l => l.all isC
  | _ => false
theorem bools_map (g : D → Bool) : ∀ l : List D, bools (l.map fun d => D.bl (g d)) = some (l.map g)
  | [] => rfl
  | d :: l => by simp [bools, bools_map g l]
theorem e_are {S : Sto} {d : D} (h : Okv S d) : ∃ S1, m_are_counts [d] S = .ok (.bl (aC d)) S1 ∧ Ext S S1 := by
  have h3 := isi3 (.inr h)
  cases d with
  | tup l =>
    obtain ⟨hl, hp⟩ := h
    refine ⟨_, ?_, Ext.newset (c := .lst []) (c' := .lst ((l.filter fun _ => true).map fun d => .bl (isC d)))⟩
    have e1 := lcA (q := tYesM) (e := mCall m_is_count (mCons (mVar 1) mNil)) (p := fun _ => true) (f := fun d => .bl (isC d)) (S := S) hl (fun _ _ _ => rfl) (fun d hd S => e_cnt (.inl (hp d hd)))
    have g1 : ((S.new (.lst [])).set S.n (.lst ((l.filter fun _ => true).map fun d => .bl (isC d)))).get S.n = some (.lst ((l.filter fun _ => true).map fun d => .bl (isC d))) := Sto.get_set_self Sto.get_new_self
    show (sRet _ [some (.tup l), none] S).res = _
    rw [sRet_ok ((mAndV_t (S1 := S) h3).trans ((mCall1 e1).trans (show _ = Res.ok (.bl (l.all isC)) _ from ?_)))]
    · rfl
    · simp only [fAll, g1]
      rw [bools_map]
      simp
  | _ => exact ⟨S, by simp [m_are_counts, mkF, stD, b_are_counts, sRet, bindS, mAndV, mCall, mCons, mNil, mVar, mC, Res.bind, SRes.res, h3, aC], Ext.refl⟩
theorem allP_cons {f : D → Option PyData} {d : D} {l : List D} {p : PyData} {ps : List PyData} (e1 : f d = some p) (e : allP f l = some ps) : allP f (d :: l) = some (p :: ps) := by
  show (match f d, allP f l with | some x, some xs => some (x :: xs) | _, _ => none) = _
  rw [e1, e]
/-- the plain kinds as data of the comparison -/
theorem toPy_int {S : Sto} : ∀ {l : List D}, (l.all fun y => match y with | .int i => decide (i.natAbs ≤ B60) | _ => false) = true → ∀ n, ∃ ps, allP (toPy S (n + 1)) l = some ps ∧ PyData.canLayAll0 ps = true ∧ PyData.depthAll ps ≤ 1
  | [], _, n => ⟨[], rfl, rfl, by decide⟩
  | d :: l, h, n => by
    rw [List.all_cons, Bool.and_eq_true] at h
    obtain ⟨ps, e, c, dp⟩ := toPy_int (S := S) h.2 n
    cases d with
    | int i => exact ⟨.int i :: ps, allP_cons rfl e, by simp [PyData.canLayAll0, PyData.canLay0, c], by simp [PyData.depthAll, PyData.depth]; omega⟩
    | _ => simp at h
theorem toPy_pl {S : Sto} {d : D} (h : Pl d = true) (n : Nat) : ∃ p, toPy S (n + 2) d = some p ∧ p.canLay0 = true ∧ p.depth ≤ 2 := by
  cases d with
  | non => exact ⟨.none, rfl, rfl, by decide⟩
  | bl b => exact ⟨.bool b, rfl, rfl, by simp [PyData.depth]⟩
  | int i => exact ⟨.int i, rfl, rfl, by simp [PyData.depth]⟩
  | str x =>
    refine ⟨.str ⟨x.toArray⟩, rfl, ?_, by simp [PyData.depth]⟩
    simp only [Pl, Bool.or_eq_true, beq_iff_eq] at h
    rcases h with (rfl | rfl) | rfl <;> decide +kernel
  | tup l =>
    simp only [Pl, Bool.and_eq_true] at h
    obtain ⟨ps, e, c, dp⟩ := toPy_int (S := S) h.1 n
    exact ⟨.tuple ps, (by show (allP (toPy S (n + 1)) l).map PyData.tuple = _; rw [e]; rfl), c, by simp [PyData.depth]; omega⟩
  | _ => cases h
theorem toPy_pls {S : Sto} : ∀ {l : List D}, (∀ y ∈ l, Pl y = true) → ∀ n, ∃ ps, allP (toPy S (n + 2)) l = some ps ∧ PyData.canLayAll0 ps = true ∧ PyData.depthAll ps ≤ 2 ∧ ps.isEmpty = l.isEmpty
  | [], _, n => ⟨[], rfl, rfl, by decide, rfl⟩
  | d :: l, h, n => by
    obtain ⟨ps, e, c, dp, _⟩ := toPy_pls (S := S) (fun y hy => h y (List.mem_cons_of_mem _ hy)) n
    obtain ⟨p, e1, c1, d1⟩ := toPy_pl (S := S) (h d (List.mem_cons_self ..)) n
    exact ⟨p :: ps, allP_cons e1 e, by simp [PyData.canLayAll0, c, c1], by simp [PyData.depthAll]; omega, rfl⟩
theorem e_lare {S : Sto} {d : D} (h : Okv S d) : ∃ S1, m_Lare_numbers [d] S = .ok (.bl (aC d)) S1 ∧ Ext S S1 := by
  have h3 := isi3 (.inr h)
  cases d with
  | tup l =>
    obtain ⟨hl, hp⟩ := h
    have hq : ∀ y ∈ l, ∀ S, (tOrM (tNotM (mTru (mCall m_Lis_number (mCons (mVar 1) mNil)))) (mTst cLt (mVar 1) (mC (.int 0)))) [some (.tup l), some y] S = .ok (!isC y) S := fun y hy S => by
      have e0 := e_num (S := S) (.inl (hp y hy))
      have a1 : (tNotM (mTru (mCall m_Lis_number (mCons (mVar 1) mNil)))) [some (.tup l), some y] S = .ok (!isI y) S := by
        unfold tNotM mTru
        rw [mCall1 (show mVar 1 [some (.tup l), some y] S = .ok y S from rfl), e0]
        rfl
      unfold tOrM
      rw [a1]
      cases y with
      | int i =>
        show (if (!isI (.int i)) = true then _ else (mTst cLt (mVar 1) (mC (.int 0))) [some (.tup l), some (.int i)] S) = _
        cases hb : isI (.int i) with
        | false =>
          simp only [isI] at hb
          simp [isC, hb]
        | true =>
          simp only [isI] at hb
          simp only [Bool.not_true, Bool.false_eq_true, if_false, isC, hb, Bool.true_and]
          show Res.ok (decide (i < 0)) S = _
          congr 1
          by_cases z : i < 0
          · simp [z]
          · simp [z]; omega
      | _ => rfl
    have e1 := lcA (q := tOrM (tNotM (mTru (mCall m_Lis_number (mCons (mVar 1) mNil)))) (mTst cLt (mVar 1) (mC (.int 0)))) (e := mVar 1) (p := fun y => !isC y) (f := id) (S := S) hl hq (fun d hd S => rfl)
    · rw [List.map_id] at e1
      generalize hS1 : ((S.new (.lst [])).set S.n (.lst (l.filter fun y => !isC y))) = S1 at e1
      have g1 : S1.get S.n = some (.lst (l.filter fun y => !isC y)) := by rw [← hS1]; exact Sto.get_set_self Sto.get_new_self
      have x1 : Ext S S1 := by rw [← hS1]; exact Ext.newset
      refine ⟨S1.new (.lst []), ?_, x1.trans Ext.new⟩
      have e2 : (sIf (tNotM (mTru (mCall (fIsE kit kix) (mCons (mVar 0) (mCons (mC (.cls 3)) mNil))))) (sRet (mC (.bl false))) sSkip) [some (.tup l), none] S = .nx [some (.tup l), none] S := rfl
      show (sSeq _ _ [some (.tup l), none] S).res = _
      rw [sSeq_nx e2, sRet_ok ((mBin_ok e1 (mLst_ok mNil_ok (by simp))).trans (show _ = Res.ok (.bl (l.all isC)) (S1.new (.lst [])) from ?_))]
      · rfl
      · obtain ⟨ps, p1, p2, p3, p4⟩ := toPy_pls (S := S1.new (.lst [])) (l := l.filter fun y => !isC y) (fun y hy => hp y (List.mem_filter.mp hy).1) 9
        have t1 : toPy (S1.new (.lst [])) 12 (.loc S.n) = some (.list ps) := by
          show (match (S1.new (.lst [])).get S.n with | some (.lst l) => (allP (toPy (S1.new (.lst [])) 11) l).map PyData.list | _ => none) = _
          rw [Ext.new _ _ g1]
          show (allP (toPy (S1.new (.lst [])) 11) _).map PyData.list = _
          rw [p1]
          rfl
        have t2 : toPy (S1.new (.lst [])) 12 (.loc S1.n) = some (.list []) := by
          show (match (S1.new (.lst [])).get S1.n with | some (.lst l) => (allP (toPy (S1.new (.lst [])) 11) l).map PyData.list | _ => none) = _
          rw [Sto.get_new_self]
          rfl
        have sh : SeqAt.shaped (.list ps) = true := by
          unfold SeqAt.shaped
          rw [Bool.and_eq_true]
          refine ⟨p2, ?_⟩
          rw [decide_eq_true_eq]
          show PyData.depthAll ps + 1 ≤ 64
          omega
        unfold cEq eqDat
        rw [t1, t2]
        simp only [sh, show SeqAt.shaped (.list []) = true from by decide, Bool.and_self, if_true]
        congr 2
        cases ps with
        | nil =>
          have z : (l.filter fun y => !isC y) = [] := by
            cases hq : (l.filter fun y => !isC y) with
            | nil => rfl
            | cons a b => rw [hq] at p4; cases p4
          rw [show l.all isC = true from List.all_eq_true.mpr fun y hy => by
            cases hc : isC y with
            | true => rfl
            | false =>
              have : y ∈ l.filter fun y => !isC y := List.mem_filter.mpr ⟨hy, by rw [hc]; rfl⟩
              rw [z] at this
              cases this]
          rfl
        | cons p q =>
          cases hq : (l.filter fun y => !isC y) with
          | nil => rw [hq] at p4; cases p4
          | cons a b =>
            have hm : a ∈ l.filter fun y => !isC y := by rw [hq]; exact List.mem_cons_self ..
            obtain ⟨m1, m2⟩ := List.mem_filter.mp hm
            rw [show l.all isC = false from Bool.eq_false_iff.mpr fun z => by
              have := List.all_eq_true.mp z a m1
              rw [this] at m2
              cases m2]
            rfl
  | _ => exact ⟨S, by simp [m_Lare_numbers, mkF, stD, b_Lare_numbers, sSeq, sIf, SRes.andThen, tNotM, mTru, truD, sRet, bindS, mCall, mCons, mNil, mVar, mC, Res.bind, SRes.res, h3, aC], Ext.refl⟩
def rp3 (a b c : Bool) : List Nat := (PyData.shown (.list [.bool a, .bool b, .bool c])).cps.toList
theorem repr3 {S : Sto} {n : Nat} {a b c : Bool} (h : S.get n = some (.lst [.bl a, .bl b, .bl c])) : fReprD [.loc n] S = .ok (.str (rp3 a b c)) S := by
  have h1 : isDs0 (.loc n) S = none := by simp [isDs0, h, allD0, isDct0]
  have h2 : isDct0 (.loc n) S = false := by simp [isDct0, h]
  have h3 : toPy S 12 (.loc n) = some (.list [.bool a, .bool b, .bool c]) := by
    show (match S.get n with | some (.lst l) => (allP (toPy S 11) l).map PyData.list | _ => none) = _
    rw [h]
    rfl
  refine fRepr_ok h1 h2 h3 rfl ?_ (by cases a <;> cases b <;> cases c <;> decide +kernel) rfl
  cases a <;> cases b <;> cases c <;> decide +kernel
theorem ne3 {S : Sto} {a b c : Bool} : cNe (.str (rp3 a b c)) (.str (rp3 a b c)) S = .ok (.bl false) S := cNe_str (by cases a <;> cases b <;> cases c <;> decide +kernel)
def wbody : MS := (sSeq (sSet 2 (mLst (mCons (mCall m_Lis_number (mCons (mVar 1) mNil)) (mCons (mAndV (mCall m_Lis_number (mCons (mVar 1) mNil)) (mBin cGe (mVar 1) (mC (.int 0)))) (mCons (mCall m_Lare_numbers (mCons (mVar 1) mNil)) mNil)))))
  (sIf (mTst cNe (mCall fReprD (mCons (mLst (mCons (mCall m_is_integer (mCons (mVar 1) mNil)) (mCons (mCall m_is_count (mCons (mVar 1) mNil)) (mCons (mCall m_are_counts (mCons (mVar 1) mNil)) mNil)))) mNil)) (mCall fReprD (mCons (mVar 2) mNil))) (sRet (mC (.bl false))) sSkip))
theorem okv_ext {S S' : Sto} {d : D} (h : Okv S d) (x : Ext S S') : Okv S' d := by
  cases d with
  | loc k =>
    rcases h with ⟨l, h, h2⟩ | h
    · exact .inl ⟨l, x _ _ h, h2⟩
    · exact .inr (x _ _ h)
  | _ => exact h
theorem body_ok {S : Sto} {d : D} {x0 : D} {o : Option D} (h : Okv S d) : ∃ y S', wbody [some x0, some d, o] S = .nx [some x0, some d, some y] S' ∧ Ext S S' := by
  obtain ⟨S1, e3, x1⟩ := e_lare h
  have v1 : ∀ (o : Option D) (S : Sto), mVar 1 [some x0, some d, o] S = .ok d S := fun _ _ => rfl
  have c2 : (mAndV (mCall m_Lis_number (mCons (mVar 1) mNil)) (mBin cGe (mVar 1) (mC (.int 0)))) [some x0, some d, o] S = .ok (.bl (isC d)) S := by
    have e0 := (mCall1 (f := m_Lis_number) (v1 o S)).trans (e_num (.inr h))
    cases d with
    | int i =>
      cases hb : isI (.int i) with
      | false =>
        rw [hb] at e0
        rw [mAndV_f e0]
        simp only [isI] at hb
        simp [isC, hb]
      | true =>
        rw [hb] at e0
        rw [mAndV_t e0]
        simp only [isI] at hb
        simp only [isC, hb, Bool.true_and]
        rfl
    | _ => exact mAndV_f e0
  have d1 : (mLst (mCons (mCall m_Lis_number (mCons (mVar 1) mNil)) (mCons (mAndV (mCall m_Lis_number (mCons (mVar 1) mNil)) (mBin cGe (mVar 1) (mC (.int 0)))) (mCons (mCall m_Lare_numbers (mCons (mVar 1) mNil)) mNil)))) [some x0, some d, o] S = .ok (.loc S1.n) (S1.new (.lst [.bl (isI d), .bl (isC d), .bl (aC d)])) :=
    mLst_ok (mCons_ok ((mCall1 (v1 o S)).trans (e_num (.inr h))) (mCons_ok c2 (mCons_ok ((mCall1 (v1 o S)).trans e3) mNil_ok))) (by simp)
  generalize hS2 : S1.new (.lst [.bl (isI d), .bl (isC d), .bl (aC d)]) = S2 at d1
  have x2 : Ext S S2 := x1.trans (by rw [← hS2]; exact Ext.new)
  have g2 : S2.get S1.n = some (.lst [.bl (isI d), .bl (isC d), .bl (aC d)]) := by rw [← hS2]; exact Sto.get_new_self
  have h2 : Okv S2 d := okv_ext h x2
  obtain ⟨S3, e4, x3⟩ := e_are h2
  have t1 : (mLst (mCons (mCall m_is_integer (mCons (mVar 1) mNil)) (mCons (mCall m_is_count (mCons (mVar 1) mNil)) (mCons (mCall m_are_counts (mCons (mVar 1) mNil)) mNil)))) [some x0, some d, some (.loc S1.n)] S2 = .ok (.loc S3.n) (S3.new (.lst [.bl (isI d), .bl (isC d), .bl (aC d)])) :=
    mLst_ok (mCons_ok ((mCall1 (v1 _ S2)).trans (e_int (.inr h2))) (mCons_ok ((mCall1 (v1 _ S2)).trans (e_cnt (.inr h2))) (mCons_ok ((mCall1 (v1 _ S2)).trans e4) mNil_ok))) (by simp)
  have g3 : (S3.new (.lst [.bl (isI d), .bl (isC d), .bl (aC d)])).get S3.n = some (.lst [.bl (isI d), .bl (isC d), .bl (aC d)]) := Sto.get_new_self
  have g4 : (S3.new (.lst [.bl (isI d), .bl (isC d), .bl (aC d)])).get S1.n = some (.lst [.bl (isI d), .bl (isC d), .bl (aC d)]) := Ext.new _ _ (x3 _ _ g2)
  refine ⟨.loc S1.n, S3.new (.lst [.bl (isI d), .bl (isC d), .bl (aC d)]), ?_, x2.trans (x3.trans Ext.new)⟩
  unfold wbody
  rw [sSeq_nx (sSet_ok d1)]
  show sIf _ _ _ [some x0, some d, some (.loc S1.n)] S2 = _
  rw [sIf_f (mTst_ok ((mBin_ok ((mCall1 t1).trans (repr3 g3)) ((mCall1 (show mVar 2 [some x0, some d, some (.loc S1.n)] _ = .ok (.loc S1.n) _ from rfl)).trans (repr3 g4))).trans ne3))]
  rfl
theorem loop_ok {n : Nat} {l : List D} {x0 : D} : ∀ (k i : Nat) (S : Sto) (o1 o2 : Option D), S.get n = some (.lst l) → (∀ d ∈ l, Okv S d) → i ≤ l.length → l.length < k + i → ∃ sd1 S1, forLoop (.lst n) (.nm 1) wbody k i [some x0, o1, o2] S = .nx sd1 S1 ∧ Ext S S1
  | 0, i, S, o1, o2, hn, hv, hi, hk => by omega
  | k + 1, i, S, o1, o2, hn, hv, hi, hk => by
    unfold forLoop
    by_cases h : i < l.length
    · have e1 : l[i]? = some l[i] := List.getElem?_eq_getElem h
      have hm : l[i] ∈ l := List.getElem_mem h
      obtain ⟨y, S1, e2, x1⟩ := body_ok (x0 := x0) (o := o2) (hv _ hm)
      obtain ⟨sd2, S2, e3, x2⟩ := loop_ok (x0 := x0) k (i + 1) S1 (some l[i]) (some y) (x1 _ _ hn) (fun d hd => okv_ext (hv d hd) x1) h (by omega)
      refine ⟨sd2, S2, ?_, x1.trans x2⟩
      simp only [itNext, hn, e1, asg]
      show (wbody [some x0, some l[i], o2] S).turn _ = _
      rw [e2]
      exact e3
    · have e1 : l[i]? = none := List.getElem?_eq_none (by omega)
      refine ⟨[some x0, o1, o2], S, ?_, Ext.refl⟩
      simp only [itNext, hn, e1]
/-! ### the drawn values -/
/-- what is built keeps the store, and is of a plain kind -/
def Gd (m : ME) (sd : SD) : Prop := ∀ S, S.get 0 = some .dice → AllR (m sd S) fun x S1 => Ext S S1 ∧ Okv S1 x
def GdA (r : MA) (sd : SD) : Prop := ∀ S, S.get 0 = some .dice → AllR (r sd S) fun l S1 => Ext S S1 ∧ l.length ≤ 5 ∧ ∀ x ∈ l, Okv S1 x
theorem gd_c {d : D} {sd : SD} (h : ∀ S, Okv S d) : Gd (mC d) sd := fun S _ => .ok ⟨Ext.refl, h S⟩
theorem gd_v {i : Nat} {k : Int} {sd : SD} (h : sd[i]? = some (some (.int k))) (hk : k.natAbs ≤ B60) : Gd (mVar i) sd := fun S _ => by
  unfold mVar
  rw [h]
  exact .ok ⟨Ext.refl, hk⟩
theorem gd_n {k : Int} {sd : SD} (hk : k.natAbs ≤ B60) : Gd (mC (.int k)) sd := fun S _ => .ok ⟨Ext.refl, hk⟩
theorem gd_i {m : ME} {sd : SD} {k : Int} (h : ∀ S, m sd S = .ok (.int k) S) (hk : k.natAbs ≤ B60) : Gd m sd := fun S _ => by
  rw [h S]
  exact .ok ⟨Ext.refl, hk⟩
theorem ga_nil {sd : SD} : GdA mNil sd := fun S _ => .ok ⟨Ext.refl, by simp, fun x hx => by cases hx⟩
theorem ga_cons {m : ME} {r : MA} {sd : SD} {n : Nat} (h : Gd m sd) (h2 : ∀ S, S.get 0 = some .dice → AllR (r sd S) fun l S1 => Ext S S1 ∧ l.length = n ∧ ∀ x ∈ l, Okv S1 x) : ∀ S, S.get 0 = some .dice → AllR (mCons m r sd S) fun l S1 => Ext S S1 ∧ l.length = n + 1 ∧ ∀ x ∈ l, Okv S1 x := fun S hd => by
  refine AllR.bind ((h S hd).mono fun x S1 ⟨x1, o1⟩ => AllR.bind ((h2 S1 (x1 _ _ hd)).mono fun l S2 ⟨x2, l2, o2⟩ => .ok ⟨x1.trans x2, by simpa using l2, fun y hy => ?_⟩))
  rcases List.mem_cons.mp hy with rfl | hy
  · exact okv_ext o1 x2
  · exact o2 y hy
theorem ga_nil0 {sd : SD} : ∀ S, S.get 0 = some .dice → AllR (mNil sd S) fun l S1 => Ext S S1 ∧ l.length = 0 ∧ ∀ x ∈ l, Okv S1 x := fun S _ => .ok ⟨Ext.refl, by simp, fun x hx => by cases hx⟩
/-- a list, and what it has -/
def Gl0 (m : ME) (sd : SD) (n : Nat) : Prop := ∀ S, S.get 0 = some .dice → AllR (m sd S) fun x S1 => Ext S S1 ∧ ∃ k l, x = .loc k ∧ S1.get k = some (.lst l) ∧ l.length = n ∧ ∀ y ∈ l, Okv S1 y
theorem gl_lst {r : MA} {sd : SD} {n : Nat} (hn : n ≤ 1000) (h : ∀ S, S.get 0 = some .dice → AllR (r sd S) fun l S1 => Ext S S1 ∧ l.length = n ∧ ∀ x ∈ l, Okv S1 x) : Gl0 (mLst r) sd n := fun S hd => by
  refine AllR.bind ((h S hd).mono fun l S1 ⟨x1, l1, o1⟩ => ?_)
  rw [if_pos (by omega)]
  exact .ok ⟨x1.trans Ext.new, S1.n, l, rfl, Sto.get_new_self, l1, fun y hy => okv_ext (o1 y hy) Ext.new⟩
theorem gd_l {r : MA} {l : List D} {sd : SD} (e : ∀ S, r sd S = .ok l S) (hl : l.length ≤ 5) (hp : ∀ y ∈ l, Pl y = true) : Gd (mLst r) sd := fun S _ => by
  rw [mLst_ok (e S) (by omega)]
  exact .ok ⟨Ext.new, .inl ⟨l, Sto.get_new_self, hl, hp⟩⟩
theorem gd_dct {sd : SD} : Gd mDct0 sd := fun S _ => .ok ⟨Ext.new, .inr Sto.get_new_self⟩
theorem gl_add {a b : ME} {sd : SD} {n k : Nat} (hn : n + k ≤ 1000) (ha : Gl0 a sd n) (hb : Gl0 b sd k) : Gl0 (mBin bAdd a b) sd (n + k) := fun S hd => by
  refine AllR.bind ((ha S hd).mono fun x S1 ⟨x1, i, l, e, g, hl, ho⟩ => AllR.bind ((hb S1 (x1 _ _ hd)).mono fun y S2 ⟨x2, j, l2, e2, g2, hl2, ho2⟩ => ?_))
  subst e e2
  simp only [bAdd, x2 _ _ g, g2]
  rw [if_pos (by omega)]
  refine .ok ⟨(x1.trans x2).trans Ext.new, S2.n, l ++ l2, rfl, Sto.get_new_self, by simp; omega, fun y hy => ?_⟩
  rcases List.mem_append.mp hy with hy | hy
  · exact okv_ext (ho y hy) (x2.trans Ext.new)
  · exact okv_ext (ho2 y hy) Ext.new
theorem gl_var {i k n : Nat} {l : List D} {sd : SD} (h : sd[i]? = some (some (.loc k))) : ∀ S, S.get k = some (.lst l) → l.length = n → (∀ y ∈ l, Okv S y) → AllR (mVar i sd S) fun x S1 => Ext S S1 ∧ ∃ k l, x = .loc k ∧ S1.get k = some (.lst l) ∧ l.length = n ∧ ∀ y ∈ l, Okv S1 y := fun S g hl ho => by
  unfold mVar
  rw [h]
  exact .ok ⟨Ext.refl, k, l, rfl, g, hl, ho⟩
theorem roll_all {t : Int} {sd : SD} {e : ME} {S : Sto} (h0 : sd[0]? = some (some (.loc 0))) (he : e sd S = .ok (.int t) S) (ht : 0 < t ∧ t.natAbs.log2 < 9000) (hd : S.get 0 = some .dice) : AllR (mCall mRoll (mCons (mVar 0) (mCons e mNil)) sd S) fun x S1 => S1 = S ∧ ∃ r : Nat, x = .int r ∧ (r : Int) < t := by
  have e1 : mVar 0 sd S = .ok (.loc 0) S := by unfold mVar; rw [h0]
  rw [mCall_ok (mCons_ok e1 (mCons_ok he mNil_ok))]
  simp only [mRoll, hd]
  rw [if_pos ht]
  exact .pick fun k hk => .ok ⟨rfl, k, rfl, by omega⟩
theorem AllR.bindX {α β : Type} {r : Res α} {k : α → Sto → Res β} {P : β → Sto → Prop} (h : AllR r fun a S => AllR (k a S) P) : AllR (r.bindX k) P := by
  generalize hq : (fun a S => AllR (k a S) P) = q at h
  induction h with
  | ok h => subst hq; exact h
  | pick h ih => exact .pick fun j hj => ih j hj hq
def intsOnly (l : List D) : Prop := (l.all fun y => match y with
    | .int i => decide (i.natAbs ≤ B60)
    | _ => false) = true
theorem comp_ok {sd : SD} {dl n : Nat} (h0 : sd[0]? = some (some (.loc 0))) (hdl : dl ≠ 0) (hn : n ≤ 5) : ∀ (m i : Nat) (acc : List D) (S : Sto), S.get 0 = some .dice → S.get dl = some (.lst acc) → intsOnly acc → acc.length ≤ i → i ≤ n → n < m + i →
    AllR (lcLoop (.rng 0 1 n) (.nm 3) tYesM (mCall mRoll (mCons (mVar 0) (mCons (mC (.int 9)) mNil))) sd dl m i S) fun x S1 => x = .loc dl ∧ (∃ l, S1.get dl = some (.lst l) ∧ intsOnly l ∧ l.length ≤ 5) ∧ ∀ j c, j ≠ dl → S.get j = some c → S1.get j = some c
  | 0, i, acc, S, hd, hg, ha, hl, hi, hm => by omega
  | m + 1, i, acc, S, hd, hg, ha, hl, hi, hm => by
    unfold lcLoop
    by_cases h : i < n
    · simp only [itNext, if_pos h, asg]
      have hs : (sd.set 3 (some (.int (0 + (i : Int) * 1))))[0]? = some (some (.loc 0)) := by rw [List.getElem?_set_ne (by decide)]; exact h0
      refine AllR.bindX (.ok ?_)
      rw [if_pos rfl]
      refine AllR.bindX ((roll_all hs (t := 9) (e := mC (.int 9)) (S := S) rfl (by decide +kernel) hd).mono fun x S1 ⟨e1, r, e2, hr⟩ => ?_)
      subst e1 e2
      simp only [hg]
      rw [if_pos (by omega)]
      have g1 : (S1.set dl (.lst (acc ++ [.int r]))).get dl = some (.lst (acc ++ [.int r])) := Sto.get_set_self hg
      have g0 : (S1.set dl (.lst (acc ++ [.int r]))).get 0 = some .dice := by rw [Sto.get_set_ne (Ne.symm hdl)]; exact hd
      refine (comp_ok h0 hdl hn m (i + 1) (acc ++ [.int r]) _ g0 g1 (by
        have hr' : ((r : Int)).natAbs ≤ B60 := by unfold B60; omega
        unfold intsOnly at ha ⊢
        rw [List.all_append, ha]
        simp only [List.all_cons, List.all_nil, Bool.and_true, Bool.true_and, decide_eq_true_eq]
        exact hr') (by simp; omega) (by omega) (by omega)).mono fun x S2 ⟨a1, a2, a3⟩ => ⟨a1, a2, fun j c hj hc => a3 j c hj (by rw [Sto.get_set_ne hj]; exact hc)⟩
    · simp only [itNext, if_neg h]
      exact .ok ⟨rfl, ⟨acc, hg, ha, by omega⟩, fun j c _ hc => hc⟩
theorem gd_tup {N : Int} {o : Option D} : Gd (mCall fTuple (mCons (mLc (mIts itRng1 (mCons (mCall mRoll (mCons (mVar 0) (mCons (mC (.int 5)) mNil))) mNil)) (.nm 3) tYesM (mCall mRoll (mCons (mVar 0) (mCons (mC (.int 9)) mNil))) [3]) mNil)) [some (.loc 0), some (.int N), o, none] := fun S hd => by
  have hn : 0 < S.n := Sto.get_lt hd
  refine AllR.bind (AllR.bind (AllR.bind ?_))
  refine AllR.bind (AllR.bind ((roll_all (sd := [some (.loc 0), some (.int N), o, none]) rfl (t := 5) (e := mC (.int 5)) (S := S) rfl (by decide +kernel) hd).mono fun x S1 ⟨e1, r, e2, hr⟩ => ?_))
  subst e1 e2
  refine .ok ?_
  have er : itRng1 [.int r] S1 = .ok (.rng 0 1 r) S1 := by
    simp only [itRng1]
    rw [if_pos (by omega)]
    simp
  rw [er]
  refine .ok ?_
  refine (comp_ok (sd := [some (.loc 0), some (.int N), o, none]) (dl := S1.n) (n := r) rfl (by omega) (by omega) (r + 1) 0 [] (S1.new (.lst [])) (Ext.new _ _ hd) Sto.get_new_self rfl (by simp) (Nat.zero_le _) (by omega)).mono fun x S2 ⟨a1, ⟨l, a2, a3, a4⟩, a5⟩ => ?_
  subst a1
  refine .ok ?_
  have x2 : Ext S1 S2 := fun j c hc => a5 j c (by have := Sto.get_lt hc; omega) (Ext.new _ _ hc)
  simp only [fTuple, a2]
  refine .ok ⟨x2, by omega, fun y hy => ?_⟩
  have := List.all_eq_true.mp a3 y hy
  cases y with
  | int i => exact this
  | _ => cases this
theorem num_ok {S : Sto} (hd : S.get 0 = some .dice) : AllR ((mBin bAdd (mBin bMul (mCall mRoll (mCons (mVar 0) (mCons (mBin bPow (mC (.int 10)) (mC (.int 18))) mNil))) (mBin bPow (mC (.int 10)) (mC (.int 42)))) (mCall mRoll (mCons (mVar 0) (mCons (mBin bPow (mC (.int 10)) (mC (.int 9))) mNil)))) [some (.loc 0), none, none, none] S)
    fun x S1 => S1 = S ∧ ∃ N : Int, x = .int N ∧ 0 ≤ N ∧ N < 1000000000000000000000000000000000000000000000000000000000000 := by
  refine AllR.bind (AllR.bind ((roll_all (sd := [some (.loc 0), none, none, none]) rfl (t := 1000000000000000000) (S := S) rfl (by decide +kernel) hd).mono fun x S1 ⟨e1, r, e2, hr⟩ => ?_))
  subst e1 e2
  have e3 : (mBin bPow (mC (.int 10)) (mC (.int 42))) [some (.loc 0), none, none, none] S1 = .ok (.int 1000000000000000000000000000000000000000000) S1 := rfl
  rw [e3]
  show AllR (bMul (.int r) (.int 1000000000000000000000000000000000000000000) S1) _
  simp only [bMul]
  rw [mulOk_small (by omega), if_pos rfl]
  refine .ok ?_
  refine AllR.bind ((roll_all (sd := [some (.loc 0), none, none, none]) rfl (t := 1000000000) (S := S1) rfl (by decide +kernel) hd).mono fun x S2 ⟨e4, r2, e5, hr2⟩ => ?_)
  subst e4 e5
  exact .ok ⟨rfl, _, rfl, by omega, by omega⟩
theorem gl_addp {a b : ME} {sd : SD} {n k : Nat} {S : Sto} (hd : S.get 0 = some .dice) (hn : n + k ≤ 1000) (ha : AllR (a sd S) fun x S1 => Ext S S1 ∧ ∃ k l, x = .loc k ∧ S1.get k = some (.lst l) ∧ l.length = n ∧ ∀ y ∈ l, Okv S1 y) (hb : Gl0 b sd k) :
    AllR (mBin bAdd a b sd S) fun x S1 => Ext S S1 ∧ ∃ j l, x = .loc j ∧ S1.get j = some (.lst l) ∧ l.length = n + k ∧ ∀ y ∈ l, Okv S1 y := by
  refine AllR.bind (ha.mono fun x S1 ⟨x1, i, l, e, g, hl, ho⟩ => AllR.bind ((hb S1 (x1 _ _ hd)).mono fun y S2 ⟨x2, j, l2, e2, g2, hl2, ho2⟩ => ?_))
  subst e e2
  simp only [bAdd, x2 _ _ g, g2]
  rw [if_pos (by omega)]
  refine .ok ⟨(x1.trans x2).trans Ext.new, S2.n, l ++ l2, rfl, Sto.get_new_self, by simp; omega, fun y hy => ?_⟩
  rcases List.mem_append.mp hy with hy | hy
  · exact okv_ext (ho y hy) (x2.trans Ext.new)
  · exact okv_ext (ho2 y hy) Ext.new
theorem gd_t {r : MA} {l : List D} {sd : SD} (e : ∀ S, r sd S = .ok l S) (hl : l.length ≤ 5) (hp : ∀ y ∈ l, Pl y = true) : Gd (mTup r) sd := fun S _ => by
  rw [mTup_ok (e S) (by omega)]
  exact .ok ⟨Ext.refl, hl, hp⟩
theorem values_ok {S : Sto} (hd : S.get 0 = some .dice) : AllR (m_Lvalues [.loc 0] S) fun x S1 => Ext S S1 ∧ ∃ k l, x = .loc k ∧ S1.get k = some (.lst l) ∧ l.length = 29 ∧ ∀ y ∈ l, Okv S1 y := by
  refine AllR.mk rfl ?_
  show AllS (b_Lvalues [some (.loc 0), none, none, none] S) _ _
  refine AllS.andThen (AllS.bind ((num_ok hd).mono fun x S1 ⟨e1, N, e2, n0, n1⟩ => .nx ?_))
  subst e1 e2
  show AllS (sSeq _ _ [some (.loc 0), some (.int N), none, none] S1) _ _
  have g1 : ∀ o : Option D, Gd (mVar 1) [some (.loc 0), some (.int N), o, none] := fun o => gd_v rfl (by unfold B60; omega)
  have g2 : ∀ o : Option D, Gd (mUn uNeg (mVar 1)) [some (.loc 0), some (.int N), o, none] := fun o => gd_i (k := -N) (fun S => rfl) (by unfold B60; omega)
  have hA : Gl0 (mLst (mCons (mC (.int 0)) (mCons (mC (.int 1)) (mCons (mUn uNeg (mC (.int 1))) (mCons (mC (.bl true)) (mCons (mC (.bl false)) (mCons (mC .non) (mCons (mC (.str [])) (mCons (mC (.str [49])) (mCons (mTup mNil) (mCons (mTup (mCons (mC (.int 0)) mNil)) (mCons (mLst mNil) (mCons (mLst (mCons (mC (.int 1)) mNil)) (mCons mDct0 (mCons (mVar 1) (mCons (mUn uNeg (mVar 1)) (mCons (mBin bSub (mBin bPow (mC (.int 10)) (mC (.int 60))) (mC (.int 1))) (mCons (mBin bPow (mC (.int 10)) (mC (.int 60))) mNil)))))))))))))))))) [some (.loc 0), some (.int N), none, none] 17 := gl_lst (n := 17) (by decide) (ga_cons (gd_n (by decide)) (ga_cons (gd_n (by decide)) (ga_cons (gd_i (k := -1) (fun S => rfl) (by decide)) (ga_cons (gd_c fun _ => trivial) (ga_cons (gd_c fun _ => trivial) (ga_cons (gd_c fun _ => trivial)
    (ga_cons (gd_c fun _ => rfl) (ga_cons (gd_c fun _ => rfl) (ga_cons (gd_t (l := []) (fun S => rfl) (by decide) (fun y hy => by cases hy)) (ga_cons (gd_t (l := [.int 0]) (fun S => rfl) (by decide) (by simp [Pl, B60]))
    (ga_cons (gd_l (l := []) (fun S => rfl) (by decide) (fun y hy => by cases hy)) (ga_cons (gd_l (l := [.int 1]) (fun S => rfl) (by decide) (by simp [Pl, B60])) (ga_cons gd_dct (ga_cons (g1 _) (ga_cons (g2 _) (ga_cons (gd_i (k := 999999999999999999999999999999999999999999999999999999999999) (fun S => rfl) (by decide)) (ga_cons (gd_i (k := 1000000000000000000000000000000000000000000000000000000000000) (fun S => rfl) (by decide)) ga_nil0)))))))))))))))))
  refine AllS.andThen (AllS.bind ((hA S1 hd).mono fun x S2 ⟨x2, k, l, e3, q1, q2, q3⟩ => .nx ?_))
  subst e3
  show AllS (sSeq _ _ [some (.loc 0), some (.int N), some (.loc k), none] S2) _ _
  have hB : Gl0 (mLst (mCons (mUn uNeg (mBin bPow (mC (.int 10)) (mC (.int 60)))) (mCons (mBin bSub (mC (.int 1)) (mBin bPow (mC (.int 10)) (mC (.int 60)))) (mCons (mTup (mCons (mC (.int 1)) (mCons (mC (.int 0)) (mCons (mC (.int 1)) mNil)))) (mCons (mTup (mCons (mC (.int 1)) (mCons (mC (.bl true)) mNil))) (mCons (mTup (mCons (mC (.int 2)) (mCons (mUn uNeg (mC (.int 1))) mNil))) (mCons (mTup (mCons (mBin bPow (mC (.int 10)) (mC (.int 60))) mNil)) (mCons (mTup (mCons (mTup (mCons (mC (.int 1)) mNil)) mNil)) (mCons (mTup (mCons (mC .non) mNil)) (mCons (mTup (mCons (mC (.int 3)) (mCons (mC (.str [51])) mNil))) (mCons (mLst (mCons (mC (.int 0)) (mCons (mC (.int 1)) mNil))) mNil))))))))))) [some (.loc 0), some (.int N), some (.loc k), none] 10 := (gl_lst (n := 10) (by decide) (ga_cons (gd_i (k := -1000000000000000000000000000000000000000000000000000000000000) (fun S => rfl) (by decide)) (ga_cons (gd_i (k := -999999999999999999999999999999999999999999999999999999999999) (fun S => rfl) (by decide))
    (ga_cons (gd_t (l := [.int 1, .int 0, .int 1]) (fun S => rfl) (by decide) (by simp [Pl, B60])) (ga_cons (gd_t (l := [.int 1, .bl true]) (fun S => rfl) (by decide) (by simp [Pl, B60])) (ga_cons (gd_t (l := [.int 2, .int (-1)]) (fun S => rfl) (by decide) (by simp [Pl, B60]))
    (ga_cons (gd_t (l := [.int 1000000000000000000000000000000000000000000000000000000000000]) (fun S => rfl) (by decide) (by simp [Pl, B60])) (ga_cons (gd_t (l := [.tup [.int 1]]) (fun S => rfl) (by decide) (by simp [Pl, B60])) (ga_cons (gd_t (l := [.non]) (fun S => rfl) (by decide) (by simp [Pl, B60]))
    (ga_cons (gd_t (l := [.int 3, .str [51]]) (fun S => rfl) (by decide) (fun y hy => by rcases List.mem_cons.mp hy with rfl | hy; decide +kernel; rcases List.mem_cons.mp hy with rfl | hy; decide +kernel; cases hy)) (ga_cons (gd_l (l := [.int 0, .int 1]) (fun S => rfl) (by decide) (by simp [Pl, B60])) ga_nil0)))))))))))
  refine AllS.andThen (AllS.bind ((gl_addp (n := 17) (k := 10) (x2 _ _ hd) (by decide) (gl_var rfl S2 q1 q2 q3) hB).mono fun x S3 ⟨x3, k3, l3, e4, r1, r2, r3⟩ => .nx ?_))
  subst e4
  show AllS (sRet _ [some (.loc 0), some (.int N), some (.loc k3), none] S3) _ _
  have hC : Gl0 (mLst (mCons (mCall fTuple (mCons (mLc (mIts itRng1 (mCons (mCall mRoll (mCons (mVar 0) (mCons (mC (.int 5)) mNil))) mNil)) (.nm 3) tYesM (mCall mRoll (mCons (mVar 0) (mCons (mC (.int 9)) mNil))) [3]) mNil)) (mCons (mUn uNeg (mCall mRoll (mCons (mVar 0) (mCons (mC (.int 50)) mNil)))) mNil))) [some (.loc 0), some (.int N), some (.loc k3), none] 2 := gl_lst (n := 2) (by decide) (ga_cons gd_tup (ga_cons (fun S hd => by
    refine AllR.bind ((roll_all (sd := [some (.loc 0), some (.int N), some (.loc k3), none]) rfl (t := 50) (e := mC (.int 50)) (S := S) rfl (by decide +kernel) hd).mono fun x S4 ⟨e1, r, e2, hr⟩ => ?_)
    subst e1 e2
    exact .ok ⟨Ext.refl, show (-(r : Int)).natAbs ≤ B60 by unfold B60; omega⟩) ga_nil0))
  exact AllS.bind ((gl_addp (n := 27) (k := 2) (x3 _ _ (x2 _ _ hd)) (by decide) (gl_var rfl S3 r1 r2 r3) hC).mono fun x S4 ⟨x4, q⟩ => .rt ⟨(x2.trans x3).trans x4, q⟩)
theorem L1 : AllR (m_Lwords_right [.loc 0] SB) Fine := by
  refine AllR.mk rfl ?_
  show AllS (sSeq (sFor (mIt (mCall m_Lvalues (mCons (mVar 0) mNil))) (.nm 1) wbody) _ [some (.loc 0), none, none] SB) _ _
  refine AllS.andThen (AllS.bind (AllR.bind (?_ : AllR (m_Lvalues [.loc 0] SB) _)))
  refine (values_ok (S := SB) rfl).mono fun x S1 ⟨x1, k, l, e, g, hl, ho⟩ => ?_
  subst e
  have e2 : itOf (.loc k) S1 = .ok (.lst k) S1 := by simp only [itOf, g]
  rw [e2]
  refine .ok ?_
  have e3 : itLen (.lst k) S1 = l.length := by simp only [itLen, g]
  rw [e3]
  obtain ⟨sd2, S2, e4, x2⟩ := loop_ok (x0 := .loc 0) (l.length + 1) 0 S1 none none g ho (Nat.zero_le _) (by omega)
  rw [e4]
  refine .nx ?_
  exact .rt ⟨rfl, x2 _ _ (x1 _ _ rfl)⟩
end K00

namespace K00
open PySem PySem.Spec PyProof.Rows L2 Y
def endsS (p : SD → Sto → Bool) : SRes → Bool
  | .nx sd S => p sd S
  | .pick t f => (List.range t).all fun k => endsS p (f k)
  | _ => false
theorem AllS.look {p : SD → Sto → Bool} {T : D → Sto → Prop} : ∀ {r : SRes}, endsS p r = true → AllS r (fun sd S => p sd S = true) T
  | .nx sd S, h => .nx h
  | .pick t f, h => .pick fun k hk => AllS.look (List.all_eq_true.mp h k (List.mem_range.mpr hk))
  | .rt _ _, h => by simp only [endsS] at h; cases h
  | .bk _ _, h => by simp only [endsS] at h; cases h
  | .ct _ _, h => by simp only [endsS] at h; cases h
  | .ex _ _ _, h => by simp only [endsS] at h; cases h
  | .stuck, h => by simp only [endsS] at h; cases h
def at0 (sd : SD) (S : Sto) : Bool := (match sd with
  | [some (.loc 0), _, _, _, _, _] => true
  | _ => false) && (match S.get 0 with
  | some .dice => true
  | _ => false)
def loop1 : MS := (sFor (mIts itEnl (mCons (mCall m_Lplain_errors mNil) mNil)) (.tp [(.nm 1), (.nm 2)]) (sIf (tOrM (mTst cNe (mCall m_Lraised_by (mCons (mVar 2) mNil)) (mLst (mCons (mC (.str [99, 114, 111, 115, 115])) (mCons (mC (.str [118, 97, 108, 117, 101])) mNil)))) (tOrM (mTst cNe (mCall m_Lcaught_by (mCons (mVar 2) mNil)) (mLst (mCons (mVar 1) mNil))) (mTru (mCall (fIsE kit kix) (mCons (mVar 2) (mCons (mC (.cls 26)) mNil)))))) (sRet (mC (.bl false))) sSkip))
theorem loop1_ok : endsS at0 (loop1 [some (.loc 0), none, none, none, none, none] SB) = true := by decide +kernel
/-! ### by which an error is caught -/
def Yl (m : ME) (sd : SD) (S : Sto) (ws : List D) : Prop := ∃ S1 k, m sd S = .ok (.loc k) S1 ∧ Ext S S1 ∧ S1.get k = some (.lst ws)
theorem yl_item {e c c' : Nat} {fs : List (Str × D)} {b : Bool} {w : List Nat} {sd : SD} {S : Sto} (h0 : sd[0]? = some (some (.loc e))) (hs : S.get e = some (.exv c fs)) (hk : kix c c' = some b) :
    Yl (mBin bMul (mLst (mCons (mC (.str w)) mNil)) (mCall fInt (mCons (mCall (fIsE kit kix) (mCons (mVar 0) (mCons (mC (.cls c')) mNil))) mNil))) sd S (if b then [.str w] else []) := by
  have e1 : mLst (mCons (mC (.str w)) mNil) sd S = .ok (.loc S.n) (S.new (.lst [.str w])) := mLst_ok (mCons_ok rfl mNil_ok) (by simp)
  have g1 : (S.new (.lst [.str w])).get S.n = some (.lst [.str w]) := Sto.get_new_self
  have g2 : (S.new (.lst [.str w])).get e = some (.exv c fs) := Ext.new _ _ hs
  have v0 : mVar 0 sd (S.new (.lst [.str w])) = .ok (.loc e) (S.new (.lst [.str w])) := by unfold mVar; rw [h0]
  have e2 : (mCall (fIsE kit kix) (mCons (mVar 0) (mCons (mC (.cls c')) mNil))) sd (S.new (.lst [.str w])) = .ok (.bl b) (S.new (.lst [.str w])) := by
    rw [mCall_ok (mCons_ok v0 (mCons_ok rfl mNil_ok))]
    simp only [fIsE, g2, hk]
  have e3 := mCall1 (f := fInt) e2
  have e4 : fInt [.bl b] (S.new (.lst [.str w])) = .ok (.int (if b then 1 else 0)) (S.new (.lst [.str w])) := rfl
  refine ⟨(S.new (.lst [.str w])).new (.lst (if b then [.str w] else [])), (S.new (.lst [.str w])).n, ?_, Ext.new.trans Ext.new, Sto.get_new_self⟩
  rw [mBin_ok e1 (e3.trans e4)]
  cases b with
  | true => simp only [bMul, g1]; rfl
  | false => simp only [bMul, g1]; rfl
theorem yl_add {a b : ME} {sd : SD} {S : Sto} {xs ys : List D} (ha : Yl a sd S xs) (hb : ∀ S1, Ext S S1 → Yl b sd S1 ys) (hl : xs.length + ys.length ≤ 100) : Yl (mBin bAdd a b) sd S (xs ++ ys) := by
  obtain ⟨S1, k, e1, x1, g1⟩ := ha
  obtain ⟨S2, j, e2, x2, g2⟩ := hb S1 x1
  refine ⟨S2.new (.lst (xs ++ ys)), S2.n, ?_, (x1.trans x2).trans Ext.new, Sto.get_new_self⟩
  rw [mBin_ok e1 e2]
  simp only [bAdd, x2 _ _ g1, g2]
  rw [if_pos (by omega)]
theorem yl_var {i k : Nat} {sd : SD} {S : Sto} {ws : List D} (h : sd[i]? = some (some (.loc k))) (g : S.get k = some (.lst ws)) : Yl (mVar i) sd S ws := ⟨S, k, by unfold mVar; rw [h], Ext.refl, g⟩
def word (b : Bool) (w : List Nat) : List D := if b then [.str w] else []
theorem word_len (b : Bool) (w : List Nat) : (word b w).length ≤ 1 := by cases b <;> simp [word]
theorem raised_ok {e c : Nat} {fs : List (Str × D)} {b1 b2 b3 b4 b5 b6 b7 : Bool} {S : Sto} (hs : S.get e = some (.exv c fs)) (k1 : kix c 10 = some b1) (k2 : kix c 100 = some b2) (k3 : kix c 101 = some b3) (k4 : kix c 102 = some b4) (k5 : kix c 103 = some b5) (k6 : kix c 104 = some b6) (k7 : kix c 105 = some b7) :
    ∃ S1 k, m_Lraised_by [.loc e] S = .ok (.loc k) S1 ∧ Ext S S1 ∧ S1.get k = some (.lst (((((word b1 [99, 114, 111, 115, 115] ++ word b2 [118, 97, 108, 117, 101]) ++ word b3 [105, 110, 100, 101, 120]) ++ word b4 [107, 101, 121]) ++ word b5 [114, 117, 110, 116, 105, 109, 101] ++ word b6 [111, 118, 101, 114, 102, 108, 111, 119]) ++ word b7 [97, 114, 105, 116, 104, 109, 101, 116, 105, 99])) := by
  have w1 := word_len b1 [99, 114, 111, 115, 115]
  have w2 := word_len b2 [118, 97, 108, 117, 101]
  have w3 := word_len b3 [105, 110, 100, 101, 120]
  have w4 := word_len b4 [107, 101, 121]
  have w5 := word_len b5 [114, 117, 110, 116, 105, 109, 101]
  have w6 := word_len b6 [111, 118, 101, 114, 102, 108, 111, 119]
  have w7 := word_len b7 [97, 114, 105, 116, 104, 109, 101, 116, 105, 99]
  obtain ⟨S1, j1, e1, x1, g1⟩ := yl_add (sd := [some (.loc e), none]) (yl_item (w := [99, 114, 111, 115, 115]) rfl hs k1) (fun S1 x => yl_item (w := [118, 97, 108, 117, 101]) rfl (x _ _ hs) k2) (by show (word b1 _).length + (word b2 _).length ≤ 100; omega)
  obtain ⟨S2, j2, e2, x2, g2⟩ := yl_add (sd := [some (.loc e), some (.loc j1)]) (yl_add (yl_var (i := 1) rfl g1) (fun S2 x => yl_item (w := [105, 110, 100, 101, 120]) rfl (x _ _ (x1 _ _ hs)) k3) (by rw [List.length_append]; show (word b1 _).length + (word b2 _).length + (word b3 _).length ≤ 100; omega)) (fun S2 x => yl_item (w := [107, 101, 121]) rfl (x _ _ (x1 _ _ hs)) k4) (by rw [List.length_append, List.length_append]; show (word b1 _).length + (word b2 _).length + (word b3 _).length + (word b4 _).length ≤ 100; omega)
  obtain ⟨S3, j3, e3, x3, g3⟩ := yl_add (sd := [some (.loc e), some (.loc j2)]) (yl_var (i := 1) rfl g2) (fun S2 x => yl_item (w := [114, 117, 110, 116, 105, 109, 101]) rfl (x _ _ (x2 _ _ (x1 _ _ hs))) k5) (by rw [List.length_append, List.length_append, List.length_append]; show (word b1 _).length + (word b2 _).length + (word b3 _).length + (word b4 _).length + (word b5 _).length ≤ 100; omega)
  obtain ⟨S4, j4, e4, x4, g4⟩ := yl_add (sd := [some (.loc e), some (.loc j3)]) (yl_var (i := 1) rfl g3) (fun S2 x => yl_item (w := [111, 118, 101, 114, 102, 108, 111, 119]) rfl (x _ _ (x3 _ _ (x2 _ _ (x1 _ _ hs)))) k6) (by rw [List.length_append, List.length_append, List.length_append, List.length_append]; show (word b1 _).length + (word b2 _).length + (word b3 _).length + (word b4 _).length + (word b5 _).length + (word b6 _).length ≤ 100; omega)
  obtain ⟨S5, j5, e5, x5, g5⟩ := yl_add (sd := [some (.loc e), some (.loc j4)]) (yl_var (i := 1) rfl g4) (fun S2 x => yl_item (w := [97, 114, 105, 116, 104, 109, 101, 116, 105, 99]) rfl (x _ _ (x4 _ _ (x3 _ _ (x2 _ _ (x1 _ _ hs))))) k7) (by rw [List.length_append, List.length_append, List.length_append, List.length_append, List.length_append]; show (word b1 _).length + (word b2 _).length + (word b3 _).length + (word b4 _).length + (word b5 _).length + (word b6 _).length + (word b7 _).length ≤ 100; omega)
  refine ⟨S5, j5, ?_, (((x1.trans x2).trans x3).trans x4).trans x5, g5⟩
  show (b_Lraised_by [some (.loc e), none] S).res = _
  unfold b_Lraised_by
  rw [sSeq_nx (sSet_ok e1)]
  show (sSeq _ _ [some (.loc e), some (.loc j1)] S1).res = _
  rw [sSeq_nx (sSet_ok e2)]
  show (sSeq _ _ [some (.loc e), some (.loc j2)] S2).res = _
  rw [sSeq_nx (sSet_ok e3)]
  show (sSeq _ _ [some (.loc e), some (.loc j3)] S3).res = _
  rw [sSeq_nx (sSet_ok e4)]
  show (sRet _ [some (.loc e), some (.loc j4)] S4).res = _
  rw [sRet_ok e5]
  rfl
/-! ### lists of lists of words -/
abbrev Wd := List (List Nat)
def dW (ws : Wd) : List D := ws.map D.str
def pW (ws : Wd) : PyData := .list (ws.map fun w => .str ⟨w.toArray⟩)
def All2 (S : Sto) : List Nat → List Wd → Prop
  | [], [] => True
  | k :: ks, w :: ws => S.get k = some (.lst (dW w)) ∧ All2 S ks ws
  | _, _ => False
theorem All2.ext {S S' : Sto} (x : Ext S S') : ∀ {ks : List Nat} {ws : List Wd}, All2 S ks ws → All2 S' ks ws
  | [], [], _ => trivial
  | k :: ks, w :: ws, h => ⟨x _ _ h.1, All2.ext x h.2⟩
  | [], _ :: _, h => h.elim
  | _ :: _, [], h => h.elim
theorem All2.app {S : Sto} : ∀ {ks ks' : List Nat} {ws ws' : List Wd}, All2 S ks ws → All2 S ks' ws' → All2 S (ks ++ ks') (ws ++ ws')
  | [], _, [], _, _, h2 => h2
  | k :: ks, _, w :: ws, _, h, h2 => ⟨h.1, All2.app h.2 h2⟩
  | [], _, _ :: _, _, h, _ => h.elim
  | _ :: _, _, [], _, h, _ => h.elim
theorem py_words {S : Sto} {n : Nat} : ∀ ws : Wd, allP (toPy S (n + 1)) (dW ws) = some (ws.map fun w => .str ⟨w.toArray⟩)
  | [] => rfl
  | w :: ws => allP_cons rfl (py_words ws)
theorem All2.py {S : Sto} {n : Nat} : ∀ {ks : List Nat} {ws : List Wd}, All2 S ks ws → allP (toPy S (n + 2)) (ks.map D.loc) = some (ws.map pW)
  | [], [], _ => rfl
  | k :: ks, w :: ws, h => allP_cons (by
      show (match S.get k with | some (.lst l) => (allP (toPy S (n + 1)) l).map PyData.list | _ => none) = _
      rw [h.1]
      show (allP (toPy S (n + 1)) (dW w)).map PyData.list = _
      rw [py_words]
      rfl) (All2.py h.2)
  | [], _ :: _, h => h.elim
  | _ :: _, [], h => h.elim
def YA (r : MA) (sd : SD) (S : Sto) (ws : List Wd) : Prop := ∃ S1 ks, r sd S = .ok (ks.map D.loc) S1 ∧ Ext S S1 ∧ All2 S1 ks ws ∧ ks.length = ws.length
theorem ya_nil {sd : SD} {S : Sto} : YA mNil sd S [] := ⟨S, [], rfl, Ext.refl, trivial, rfl⟩
theorem ya_cons {m : ME} {r : MA} {sd : SD} {S : Sto} {w : Wd} {ws : List Wd} (h : Yl m sd S (dW w)) (h2 : ∀ S', Ext S S' → YA r sd S' ws) : YA (mCons m r) sd S (w :: ws) := by
  obtain ⟨S1, k, e1, x1, g1⟩ := h
  obtain ⟨S2, ks, e2, x2, a2, l2⟩ := h2 S1 x1
  exact ⟨S2, k :: ks, mCons_ok e1 e2, x1.trans x2, ⟨x2 _ _ g1, a2⟩, by simp [l2]⟩
def YLL (m : ME) (sd : SD) (S : Sto) (ws : List Wd) : Prop := ∃ S1 k ks, m sd S = .ok (.loc k) S1 ∧ Ext S S1 ∧ S1.get k = some (.lst (ks.map D.loc)) ∧ All2 S1 ks ws ∧ ks.length = ws.length
theorem yll_lst {r : MA} {sd : SD} {S : Sto} {ws : List Wd} (h : YA r sd S ws) (hl : ws.length ≤ 100) : YLL (mLst r) sd S ws := by
  obtain ⟨S1, ks, e1, x1, a1, l1⟩ := h
  exact ⟨S1.new (.lst (ks.map D.loc)), S1.n, ks, mLst_ok e1 (by simp; omega), x1.trans Ext.new, Sto.get_new_self, a1.ext Ext.new, l1⟩
theorem yll_var {i k : Nat} {ks : List Nat} {sd : SD} {S : Sto} {ws : List Wd} (h : sd[i]? = some (some (.loc k))) (g : S.get k = some (.lst (ks.map D.loc))) (a : All2 S ks ws) (l : ks.length = ws.length) : YLL (mVar i) sd S ws := ⟨S, k, ks, by unfold mVar; rw [h], Ext.refl, g, a, l⟩
theorem yll_add {a b : ME} {sd : SD} {S : Sto} {xs ys : List Wd} (ha : YLL a sd S xs) (hb : ∀ S1, Ext S S1 → YLL b sd S1 ys) (hl : xs.length + ys.length ≤ 100) : YLL (mBin bAdd a b) sd S (xs ++ ys) := by
  obtain ⟨S1, k, ks, e1, x1, g1, a1, l1⟩ := ha
  obtain ⟨S2, j, js, e2, x2, g2, a2, l2⟩ := hb S1 x1
  refine ⟨S2.new (.lst ((ks ++ js).map D.loc)), S2.n, ks ++ js, ?_, (x1.trans x2).trans Ext.new, Sto.get_new_self, ((a1.ext x2).app a2).ext Ext.new, by simp [l1, l2]⟩
  rw [mBin_ok e1 e2]
  simp only [bAdd, x2 _ _ g1, g2]
  rw [if_pos (by simp; omega), List.map_append]
theorem yll_py {S : Sto} {k : Nat} {ks : List Nat} {ws : List Wd} (g : S.get k = some (.lst (ks.map D.loc))) (a : All2 S ks ws) : toPy S 12 (.loc k) = some (.list (ws.map pW)) := by
  show (match S.get k with | some (.lst l) => (allP (toPy S 11) l).map PyData.list | _ => none) = _
  rw [g]
  show (allP (toPy S 11) (ks.map D.loc)).map PyData.list = _
  rw [a.py]
  rfl
theorem yl_words {ws : Wd} {r : MA} {sd : SD} {S : Sto} (e : ∀ S, r sd S = .ok (dW ws) S) (hl : ws.length ≤ 100) : Yl (mLst r) sd S (dW ws) := ⟨_, _, mLst_ok (e S) (by simp [dW]; omega), Ext.new, Sto.get_new_self⟩
theorem yr {c : Nat} {f : Str} {sd : SD} {S : Sto} {d : D} {b1 b2 b3 b4 b5 b6 b7 : Bool} {ws : Wd} (h3 : sd[3]? = some (some d)) (k1 : kix c 10 = some b1) (k2 : kix c 100 = some b2) (k3 : kix c 101 = some b3) (k4 : kix c 102 = some b4) (k5 : kix c 103 = some b5) (k6 : kix c 104 = some b6) (k7 : kix c 105 = some b7)
    (hw : (((((word b1 [99, 114, 111, 115, 115] ++ word b2 [118, 97, 108, 117, 101]) ++ word b3 [105, 110, 100, 101, 120]) ++ word b4 [107, 101, 121]) ++ word b5 [114, 117, 110, 116, 105, 109, 101] ++ word b6 [111, 118, 101, 114, 102, 108, 111, 119]) ++ word b7 [97, 114, 105, 116, 104, 109, 101, 116, 105, 99]) = dW ws) :
    Yl (mCall m_Lraised_by (mCons (mCall (fExcK c f) (mCons (mVar 3) mNil)) mNil)) sd S (dW ws) := by
  have v : mVar 3 sd S = .ok d S := by unfold mVar; rw [h3]
  have e1 : (mCall (fExcK c f) (mCons (mVar 3) mNil)) sd S = .ok (.loc S.n) (S.new (.exv c [(f, d)])) := mCall1 v
  obtain ⟨S1, k, e2, x1, g1⟩ := raised_ok (S := S.new (.exv c [(f, d)])) (e := S.n) (fs := [(f, d)]) Sto.get_new_self k1 k2 k3 k4 k5 k6 k7
  exact ⟨S1, k, (mCall1 e1).trans e2, Ext.new.trans x1, by rw [g1, hw]⟩
/-! ### the value -/
theorem pick_ok {S : Sto} {k : Nat} {l : List D} (hd : S.get 0 = some .dice) (g : S.get k = some (.lst l)) (hl : l.length = 29) (ho : ∀ y ∈ l, Okv S y) : AllR (m_Lpick [.loc 0, .loc k] S) fun d S1 => S1 = S ∧ Okv S d := by
  refine AllR.mk rfl ?_
  show AllS (sRet _ [some (.loc 0), some (.loc k)] S) _ _
  have eL : (mCall fLen (mCons (mVar 1) mNil)) [some (.loc 0), some (.loc k)] S = .ok (.int 29) S := by
    rw [mCall1 (show mVar 1 [some (.loc 0), some (.loc k)] S = .ok (.loc k) S from rfl)]
    simp only [fLen, g, hl]
    rfl
  refine AllS.bind (AllR.bind (?_ : AllR (mVar 1 [some (.loc 0), some (.loc k)] S) _))
  refine .ok ?_
  refine AllR.bind ((roll_all (sd := [some (.loc 0), some (.loc k)]) rfl (t := 29) (S := S) eL (by decide +kernel) hd).mono fun x S1 ⟨e1, r, e2, hr⟩ => ?_)
  subst e1 e2
  have hr' : r < l.length := by omega
  have ea : atI l r = some l[r] := by
    unfold atI ixN
    rw [if_pos (Int.natCast_nonneg r), if_pos (by omega), Option.bind_some]
    simp
  simp only [ixD, g, ea]
  exact .ok (.rt ⟨rfl, ho _ (List.getElem_mem hr')⟩)
theorem value_ok {S : Sto} {o1 o2 o3 o4 o5 : Option D} (hd : S.get 0 = some .dice) : AllR ((mCall m_Lpick (mCons (mVar 0) (mCons (mCall m_Lvalues (mCons (mVar 0) mNil)) mNil))) [some (.loc 0), o1, o2, o3, o4, o5] S) fun d S1 => Ext S S1 ∧ Okv S1 d := by
  refine AllR.bind (AllR.bind (.ok ?_))
  refine AllR.bind (AllR.bind ?_)
  refine (values_ok hd).mono fun x S1 ⟨x1, k, l, e, g, hl, ho⟩ => ?_
  subst e
  refine .ok (.ok ?_)
  exact (pick_ok (x1 _ _ hd) g hl ho).mono fun d S2 ⟨e2, h2⟩ => by subst e2; exact ⟨x1, h2⟩
/-! ### what is told of a value -/
theorem log_ok {i : Int} (h : i.natAbs ≤ B60) : i.natAbs.log2 < 1920 := by
  by_cases z : i.natAbs = 0
  · rw [z]; decide
  · rw [Nat.log2_lt z]
    refine Nat.lt_of_le_of_lt h ?_
    decide +kernel
theorem tells_pl0 {d : D} (h : Pl d = true) (ht : ∀ l, d ≠ .tup l) : ∃ p, (∀ S n, toPy S (n + 1) d = some p) ∧ Tells p 2000 1 := by
  cases d with
  | non => exact ⟨.none, fun _ _ => rfl, ⟨rfl, rfl, by decide, ⟨by decide +kernel, by decide +kernel⟩⟩⟩
  | bl b => exact ⟨.bool b, fun _ _ => rfl, ⟨rfl, rfl, by simp [PyData.depth], ⟨by cases b <;> decide +kernel, by cases b <;> decide +kernel⟩⟩⟩
  | int i => exact ⟨.int i, fun _ _ => rfl, (Tells.int (log_ok (by simpa [Pl] using h))).mono (by decide) (by decide)⟩
  | str x =>
    refine ⟨.str ⟨x.toArray⟩, fun _ _ => rfl, ?_⟩
    simp only [Pl, Bool.or_eq_true, beq_iff_eq] at h
    rcases h with (rfl | rfl) | rfl <;> exact ⟨rfl, rfl, by decide, ⟨by decide +kernel, by decide +kernel⟩⟩
  | tup l => exact absurd rfl (ht l)
  | _ => cases h
theorem tells_ints : ∀ {l : List D}, (l.all fun y => match y with | .int i => decide (i.natAbs ≤ B60) | _ => false) = true → ∃ ps, (∀ S n, allP (toPy S (n + 1)) l = some ps) ∧ TellsA ps 2000 1 ∧ ps.length = l.length
  | [], _ => ⟨[], fun _ _ => rfl, .nil, rfl⟩
  | d :: l, h => by
    rw [List.all_cons, Bool.and_eq_true] at h
    obtain ⟨ps, e, t, ln⟩ := tells_ints h.2
    cases d with
    | int i => exact ⟨.int i :: ps, fun S n => allP_cons rfl (e S n), .cons ((Tells.int (log_ok (by simpa using h.1))).mono (by decide) (by decide)) t, by simp [ln]⟩
    | _ => simp at h
theorem tells_pl {d : D} (h : Pl d = true) : ∃ p, (∀ S n, toPy S (n + 2) d = some p) ∧ Tells p 10100 2 := by
  cases d with
  | tup l =>
    simp only [Pl, Bool.and_eq_true, decide_eq_true_eq] at h
    obtain ⟨ps, e, t, ln⟩ := tells_ints h.1
    refine ⟨.tuple ps, fun S n => ?_, t.tuple.mono (by omega) (by decide)⟩
    show (allP (toPy S (n + 1)) l).map PyData.tuple = _
    rw [e]
    rfl
  | _ =>
    obtain ⟨p, e, t⟩ := tells_pl0 h (fun l z => by cases z)
    exact ⟨p, fun S n => e S (n + 1), t.mono (by decide) (by decide)⟩
theorem tells_pls : ∀ {l : List D}, (∀ y ∈ l, Pl y = true) → ∃ ps, (∀ S n, allP (toPy S (n + 2)) l = some ps) ∧ TellsA ps 10100 2 ∧ ps.length = l.length
  | [], _ => ⟨[], fun _ _ => rfl, .nil, rfl⟩
  | d :: l, h => by
    obtain ⟨ps, e, t, ln⟩ := tells_pls fun y hy => h y (List.mem_cons_of_mem _ hy)
    obtain ⟨p, e1, t1⟩ := tells_pl (h d (List.mem_cons_self ..))
    exact ⟨p :: ps, fun S n => allP_cons (e1 S n) (e S n), .cons t1 t, by simp [ln]⟩
theorem okv_tells {S : Sto} {d : D} (h : Okv S d) : (∃ j, d = .loc j ∧ S.get j = some (.dct 0 [])) ∨ ∃ p, (∀ S', Ext S S' → toPy S' 11 d = some p ∧ isDct0 d S' = false) ∧ Tells p 60000 3 := by
  cases d with
  | loc j =>
    rcases h with ⟨l, g, hl, hp⟩ | g
    · obtain ⟨ps, e, t, ln⟩ := tells_pls hp
      refine .inr ⟨.list ps, fun S' x => ⟨?_, by simp [isDct0, x _ _ g]⟩, t.list.mono (by omega) (by decide)⟩
      show (match S'.get j with | some (.lst l) => (allP (toPy S' 10) l).map PyData.list | _ => none) = _
      rw [x _ _ g]
      show (allP (toPy S' 10) l).map PyData.list = _
      rw [e]
      rfl
    · exact .inl ⟨j, rfl, g⟩
  | tup l =>
    obtain ⟨hl, hp⟩ := h
    obtain ⟨ps, e, t, ln⟩ := tells_pls hp
    refine .inr ⟨.tuple ps, fun S' x => ⟨?_, rfl⟩, t.tuple.mono (by omega) (by decide)⟩
    show (allP (toPy S' 10) l).map PyData.tuple = _
    rw [e]
    rfl
  | int i =>
    have h' : i.natAbs ≤ B60 := h
    obtain ⟨p, e, t⟩ := tells_pl (d := .int i) (by simpa [Pl] using h')
    exact .inr ⟨p, fun S' _ => ⟨e S' 9, rfl⟩, t.mono (by decide) (by decide)⟩
  | bl b =>
    obtain ⟨p, e, t⟩ := tells_pl (d := .bl b) rfl
    exact .inr ⟨p, fun S' _ => ⟨e S' 9, rfl⟩, t.mono (by decide) (by decide)⟩
  | non =>
    obtain ⟨p, e, t⟩ := tells_pl (d := .non) rfl
    exact .inr ⟨p, fun S' _ => ⟨e S' 9, rfl⟩, t.mono (by decide) (by decide)⟩
  | str x =>
    obtain ⟨p, e, t⟩ := tells_pl (d := .str x) h
    exact .inr ⟨p, fun S' _ => ⟨e S' 9, rfl⟩, t.mono (by decide) (by decide)⟩
  | scr l => exact h.elim
  | cls n => exact h.elim
theorem five {S : Sto} {d : D} (h : Okv S d) : ∃ x, PyData.strOk ⟨x.toArray⟩ = true ∧ ∀ S' k, Ext S S' → S'.get k = some (.lst [d, d, d, d, d]) → fReprD [.loc k] S' = .ok (.str x) S' := by
  rcases okv_tells h with ⟨j, rfl, g⟩ | ⟨p, e, t⟩
  · refine ⟨(PyData.shown (.list (List.replicate 5 (.dict [])))).cps.toList, by decide +kernel, fun S' k x gk => ?_⟩
    have i0 : isDct0 (.loc j) S' = true := by simp [isDct0, x _ _ g]
    have i1 : isDs0 (.loc k) S' = some 5 := by simp [isDs0, gk, allD0, i0]
    have hz : (PyData.shown (.list (List.replicate 5 (.dict [])))).length ≤ 16777216 := by decide +kernel
    simp only [fReprD, i1]
    rw [if_pos hz]
  · have tl : Tells (.list [p, p, p, p, p]) 400000 4 := (TellsA.list (.cons t (.cons t (.cons t (.cons t (.cons t .nil)))))).mono (by simp) (by decide)
    refine ⟨(PyData.shown (.list [p, p, p, p, p])).cps.toList, strOk_shown tl, fun S' k x gk => ?_⟩
    obtain ⟨e1, e2⟩ := e S' x
    refine repr_tells ?_ ?_ ?_ (tl.mono (Nat.le_refl _) (by decide)) (by decide)
    · simp [isDs0, gk, allD0, e2]
    · simp [isDct0, gk]
    · show (match S'.get k with | some (.lst l) => (allP (toPy S' 11) l).map PyData.list | _ => none) = _
      rw [gk]
      show (allP (toPy S' 11) [d, d, d, d, d]).map PyData.list = _
      rw [allP_cons e1 (allP_cons e1 (allP_cons e1 (allP_cons e1 (allP_cons e1 rfl))))]
      rfl
theorem fld_ok {c : Nat} {f : Str} {sd : SD} {S : Sto} {d : D} (h3 : sd[3]? = some (some d)) : (mUn (fldE c f) (mCall (fExcK c f) (mCons (mVar 3) mNil))) sd S = .ok d (S.new (.exv c [(f, d)])) := by
  have v : mVar 3 sd S = .ok d S := by unfold mVar; rw [h3]
  have e1 : (mCall (fExcK c f) (mCons (mVar 3) mNil)) sd S = .ok (.loc S.n) (S.new (.exv c [(f, d)])) := mCall1 v
  rw [mUn_ok e1]
  have g : (S.new (.exv c [(f, d)])).get S.n = some (.exv c [(f, d)]) := Sto.get_new_self
  simp [fldE, g, List.lookup]
theorem AllR.of_eq {α : Type} {r : Res α} {a : α} {S : Sto} {P : α → Sto → Prop} (e : r = .ok a S) (h : P a S) : AllR r P := by rw [e]; exact .ok h
theorem L2 : AllR (m_Lerrors_right [.loc 0] SB) Fine := by
  refine AllR.mk rfl ?_
  show AllS (sSeq loop1 _ [some (.loc 0), none, none, none, none, none] SB) _ _
  refine AllS.andThen ((AllS.look loop1_ok).mono (fun sd S h => ?_) (fun d S h => h))
  unfold at0 at h
  rw [Bool.and_eq_true] at h
  obtain ⟨ha, hb⟩ := h
  split at ha
  case h_2 => cases ha
  rename_i o1 o2 o3 o4 o5
  split at hb
  case h_2 => cases hb
  rename_i hd
  refine AllS.andThen (AllS.bind ((value_ok hd).mono fun d S1 ⟨x1, hv⟩ => .nx ?_))
  show AllS (sSeq _ _ [some (.loc 0), o1, o2, some d, o4, o5] S1) _ _
  obtain ⟨S2, k2, ks2, e2, x2, g2, a2, l2⟩ := yll_lst (sd := [some (.loc 0), o1, o2, some d, o4, o5]) (S := S1) (ya_cons (yr (c := 26) (f := "number") (ws := [[99, 114, 111, 115, 115], [118, 97, 108, 117, 101]]) (rfl) (b1 := true) (b2 := true) (b3 := false) (b4 := false) (b5 := false) (b6 := false) (b7 := false) rfl rfl rfl rfl rfl rfl rfl rfl) fun S' _ => ya_cons (yr (c := 27) (f := "value") (ws := [[105, 110, 100, 101, 120]]) (rfl) (b1 := false) (b2 := false) (b3 := true) (b4 := false) (b5 := false) (b6 := false) (b7 := false) rfl rfl rfl rfl rfl rfl rfl rfl) fun S' _ => ya_cons (yr (c := 28) (f := "asked") (ws := [[114, 117, 110, 116, 105, 109, 101]]) (rfl) (b1 := false) (b2 := false) (b3 := false) (b4 := false) (b5 := true) (b6 := false) (b7 := false) rfl rfl rfl rfl rfl rfl rfl rfl) fun S' _ => ya_nil) (by decide)
  refine AllS.andThen (AllS.bind (AllR.of_eq e2 (.nx ?_)))
  show AllS (sSeq _ _ [some (.loc 0), o1, o2, some d, some (.loc k2), o5] S2) _ _
  obtain ⟨S3, k3, ks3, e3, x3, g3, a3, l3⟩ := yll_add (sd := [some (.loc 0), o1, o2, some d, some (.loc k2), o5]) (S := S2) (yll_var (i := 4) rfl g2 a2 l2) (fun S' _ => yll_lst (ya_cons (yr (c := 29) (f := "limit") (ws := [[111, 118, 101, 114, 102, 108, 111, 119], [97, 114, 105, 116, 104, 109, 101, 116, 105, 99]]) (rfl) (b1 := false) (b2 := false) (b3 := false) (b4 := false) (b5 := false) (b6 := true) (b7 := true) rfl rfl rfl rfl rfl rfl rfl rfl) fun S' _ => ya_cons (yr (c := 30) (f := "pledge") (ws := [[97, 114, 105, 116, 104, 109, 101, 116, 105, 99]]) (rfl) (b1 := false) (b2 := false) (b3 := false) (b4 := false) (b5 := false) (b6 := false) (b7 := true) rfl rfl rfl rfl rfl rfl rfl rfl) fun S' _ => ya_nil) (by decide)) (by decide)
  refine AllS.andThen (AllS.bind (AllR.of_eq e3 (.nx ?_)))
  show AllS (sSeq _ _ [some (.loc 0), o1, o2, some d, some (.loc k3), o5] S3) _ _
  obtain ⟨S4, k4, ks4, e4, x4, g4, a4, l4⟩ := yll_lst (sd := [some (.loc 0), o1, o2, some d, some (.loc k3), o5]) (S := S3) (ya_cons (yl_words (ws := [[99, 114, 111, 115, 115], [118, 97, 108, 117, 101]]) (r := (mCons (mC (.str [99, 114, 111, 115, 115])) (mCons (mC (.str [118, 97, 108, 117, 101])) mNil))) (fun S => rfl) (by decide)) fun S' _ => ya_cons (yl_words (ws := [[105, 110, 100, 101, 120]]) (r := (mCons (mC (.str [105, 110, 100, 101, 120])) mNil)) (fun S => rfl) (by decide)) fun S' _ => ya_cons (yl_words (ws := [[114, 117, 110, 116, 105, 109, 101]]) (r := (mCons (mC (.str [114, 117, 110, 116, 105, 109, 101])) mNil)) (fun S => rfl) (by decide)) fun S' _ => ya_cons (yl_words (ws := [[111, 118, 101, 114, 102, 108, 111, 119], [97, 114, 105, 116, 104, 109, 101, 116, 105, 99]]) (r := (mCons (mC (.str [111, 118, 101, 114, 102, 108, 111, 119])) (mCons (mC (.str [97, 114, 105, 116, 104, 109, 101, 116, 105, 99])) mNil))) (fun S => rfl) (by decide)) fun S' _ => ya_cons (yl_words (ws := [[97, 114, 105, 116, 104, 109, 101, 116, 105, 99]]) (r := (mCons (mC (.str [97, 114, 105, 116, 104, 109, 101, 116, 105, 99])) mNil)) (fun S => rfl) (by decide)) fun S' _ => ya_nil) (by decide)
  have py3 := yll_py (x4 _ _ g3) (a3.ext x4)
  have py4 := yll_py g4 a4
  have en : cNe (.loc k3) (.loc k4) S4 = .ok (.bl false) S4 := by
    have c1 : (SeqAt.shaped (.list (List.map pW ([[[99, 114, 111, 115, 115], [118, 97, 108, 117, 101]], [[105, 110, 100, 101, 120]], [[114, 117, 110, 116, 105, 109, 101]]] ++ [[[111, 118, 101, 114, 102, 108, 111, 119], [97, 114, 105, 116, 104, 109, 101, 116, 105, 99]], [[97, 114, 105, 116, 104, 109, 101, 116, 105, 99]]]))) && SeqAt.shaped (.list (List.map pW [[[99, 114, 111, 115, 115], [118, 97, 108, 117, 101]], [[105, 110, 100, 101, 120]], [[114, 117, 110, 116, 105, 109, 101]], [[111, 118, 101, 114, 102, 108, 111, 119], [97, 114, 105, 116, 104, 109, 101, 116, 105, 99]], [[97, 114, 105, 116, 104, 109, 101, 116, 105, 99]]]))) = true := by decide +kernel
    have c2 : PyData.eqv (.list (List.map pW ([[[99, 114, 111, 115, 115], [118, 97, 108, 117, 101]], [[105, 110, 100, 101, 120]], [[114, 117, 110, 116, 105, 109, 101]]] ++ [[[111, 118, 101, 114, 102, 108, 111, 119], [97, 114, 105, 116, 104, 109, 101, 116, 105, 99]], [[97, 114, 105, 116, 104, 109, 101, 116, 105, 99]]]))) (.list (List.map pW [[[99, 114, 111, 115, 115], [118, 97, 108, 117, 101]], [[105, 110, 100, 101, 120]], [[114, 117, 110, 116, 105, 109, 101]], [[111, 118, 101, 114, 102, 108, 111, 119], [97, 114, 105, 116, 104, 109, 101, 116, 105, 99]], [[97, 114, 105, 116, 104, 109, 101, 116, 105, 99]]])) = true := by decide +kernel
    unfold cNe eqDat
    rw [py3, py4]
    simp only [c1, c2, if_true]
    rfl
  refine AllS.andThen ?_
  rw [sIf_f (mTst_ok ((mBin_ok (show mVar 4 [some (.loc 0), o1, o2, some d, some (.loc k3), o5] S3 = .ok (.loc k3) S3 from rfl) e4).trans en))]
  refine .nx ?_
  show AllS (sSeq _ _ [some (.loc 0), o1, o2, some d, some (.loc k3), o5] S4) _ _
  have h3 : ([some (.loc 0), o1, o2, some d, some (.loc k3), o5] : SD)[3]? = some (some d) := rfl
  have e5 := mLst_ok (mCons_ok (fld_ok (c := 26) (f := "number") (S := S4) h3) (mCons_ok (fld_ok (c := 27) (f := "value") h3) (mCons_ok (fld_ok (c := 28) (f := "asked") h3) (mCons_ok (fld_ok (c := 29) (f := "limit") h3) mNil_ok)))) (by simp)
  generalize hS5 : ((((S4.new (.exv 26 [("number", d)])).new (.exv 27 [("value", d)])).new (.exv 28 [("asked", d)])).new (.exv 29 [("limit", d)])) = S5 at e5
  have x5 : Ext S4 S5 := by rw [← hS5]; exact ((Ext.new.trans Ext.new).trans Ext.new).trans Ext.new
  refine AllS.andThen (AllS.bind (AllR.of_eq e5 (.nx ?_)))
  show AllS (sRet _ [some (.loc 0), o1, o2, some d, some (.loc k3), some (.loc S5.n)] (S5.new (.lst [d, d, d, d]))) _ _
  generalize hS6 : S5.new (.lst [d, d, d, d]) = S6
  have g6 : S6.get S5.n = some (.lst [d, d, d, d]) := by rw [← hS6]; exact Sto.get_new_self
  have x6 : Ext S5 S6 := by rw [← hS6]; exact Ext.new
  have h3' : ([some (.loc 0), o1, o2, some d, some (.loc k3), some (.loc S5.n)] : SD)[3]? = some (some d) := rfl
  have e7 := mLst_ok (mCons_ok (fld_ok (c := 30) (f := "pledge") (S := S6) h3') mNil_ok) (by simp)
  generalize hS7 : S6.new (.exv 30 [("pledge", d)]) = S7 at e7
  have x7 : Ext S6 S7 := by rw [← hS7]; exact Ext.new
  have g8 : (S7.new (.lst [d])).get S7.n = some (.lst [d]) := Sto.get_new_self
  have g9 : (S7.new (.lst [d])).get S5.n = some (.lst [d, d, d, d]) := Ext.new _ _ (x7 _ _ g6)
  have e9 : bAdd (.loc S5.n) (.loc S7.n) (S7.new (.lst [d])) = .ok (.loc (S7.new (.lst [d])).n) ((S7.new (.lst [d])).new (.lst [d, d, d, d, d])) := by
    simp only [bAdd, g8, g9]
    rfl
  generalize hS8 : S7.new (.lst [d]) = S8 at e7 e9 g8 g9
  have x8 : Ext S7 S8 := by rw [← hS8]; exact Ext.new
  have g10 : (S8.new (.lst [d, d, d, d, d])).get S8.n = some (.lst [d, d, d, d, d]) := Sto.get_new_self
  generalize hS9 : S8.new (.lst [d, d, d, d, d]) = S9 at e9 g10
  have x9 : Ext S8 S9 := by rw [← hS9]; exact Ext.new
  have x19 : Ext S1 S9 := ((((((x2.trans x3).trans x4).trans x5).trans x6).trans x7).trans x8).trans x9
  obtain ⟨tx, tok, tell⟩ := five hv
  have v3 : mVar 3 [some (.loc 0), o1, o2, some d, some (.loc k3), some (.loc S5.n)] S9 = .ok d S9 := rfl
  have e10 := mLst_ok (mCons_ok v3 mNil_ok) (by simp)
  have g11 : (S9.new (.lst [d])).get S9.n = some (.lst [d]) := Sto.get_new_self
  have e11 : bMul (.loc S9.n) (.int 5) (S9.new (.lst [d])) = .ok (.loc (S9.new (.lst [d])).n) ((S9.new (.lst [d])).new (.lst [d, d, d, d, d])) := by
    simp only [bMul, g11]
    rfl
  have g12 : ((S9.new (.lst [d])).new (.lst [d, d, d, d, d])).get (S9.new (.lst [d])).n = some (.lst [d, d, d, d, d]) := Sto.get_new_self
  have x12 : Ext S1 ((S9.new (.lst [d])).new (.lst [d, d, d, d, d])) := x19.trans (Ext.new.trans Ext.new)
  have r1 := (mCall1 (f := fReprD) ((mBin_ok (show mVar 5 [some (.loc 0), o1, o2, some d, some (.loc k3), some (.loc S5.n)] S6 = .ok (.loc S5.n) S6 from rfl) e7).trans e9)).trans (tell S9 S8.n x19 g10)
  have r2 := (mCall1 (f := fReprD) ((mBin_ok e10 (show mC (.int 5) [some (.loc 0), o1, o2, some d, some (.loc k3), some (.loc S5.n)] (S9.new (.lst [d])) = .ok (.int 5) _ from rfl)).trans e11)).trans (tell _ _ x12 g12)
  rw [sRet_ok ((mBin_ok r1 r2).trans (cEq_str tok))]
  exact .rt ⟨rfl, x12 _ _ (x1 _ _ hd)⟩
end K00

namespace K00
open PySem PySem.Spec PyProof.Rows L2 Y
theorem the_law {P : Program} {w : World} {mg : Str → Option Value} {base : Heap} {G : Glo} {A : Ad} (T : TT P G mg A) : FnT G P w mg base 5 63 A.a_law := top_law K00.L1 K00.L2 T
end K00

open PySem PySem.W PyProof.Rows
theorem K00.fin {K : PySem.W.Frag} {w : World} {mg : PySem.Str → Option Value} {fa : Addr} (am : ∃ (G : Y.Glo) (A : K00.Ad), G.K = K ∧ K00.TT K00.pw G mg A) (hmg : mg "law" = some (.ref fa)) : ∃ G : Y.Glo, G.K = K ∧ ∀ base : Heap, K.In base → base.Ns mainGlobals mg → Y.FnT G K00.pw w mg base 5 63 fa := by
  obtain ⟨G, A, hK, T⟩ := am
  have e := T.g_law
  rw [hmg] at e
  cases e
  exact ⟨G, hK, fun base _ _ => K00.the_law T⟩
set_option maxRecDepth 100000 in
set_option maxHeartbeats 0 in
theorem PySem.Challenge.cw_crosswebs_k00_words_and_errors_holds : PySem.Challenge.rw_crosswebs_k00_words_and_errors.Holds := by
  w_on; o_law; k_head; (case hw => w_witness2)
  k_fill
  refine Y.walkG (l := PySem.Challenge.rw_crosswebs_k00_words_and_errors) (n := 63) (k := 5) rfl (by decide) rfl ⟨rfl, by decide, by decide⟩ (fun w h Y => PySem.W.kIn_of Y) ?F
  case F =>
    intro w mg fa h KX Gn XX hmg
    refine K00.fin ?am hmg
    refine' K00.all_mk KX Gn XX.2 ?a_is_integer ?l_is_integer ?k_is_integer ?q_is_integer ?a_is_count ?l_is_count ?k_is_count ?q_is_count ?a_are_counts ?l_are_counts ?k_are_counts ?q_are_counts ?a_Ldice ?l_Ldice ?k_Ldice ?q_Ldice ?a_Lroll ?l_Lroll ?k_Lroll ?q_Lroll ?a_Lpick ?l_Lpick ?k_Lpick ?q_Lpick ?a_Lis_number ?l_Lis_number ?k_Lis_number ?q_Lis_number ?a_Lare_numbers ?l_Lare_numbers ?k_Lare_numbers ?q_Lare_numbers ?a_Lvalues ?l_Lvalues ?k_Lvalues ?q_Lvalues ?a_Lwords_right ?l_Lwords_right ?k_Lwords_right ?q_Lwords_right ?a_Lraised_by ?l_Lraised_by ?k_Lraised_by ?q_Lraised_by ?a_Lplain_errors ?l_Lplain_errors ?k_Lplain_errors ?q_Lplain_errors ?a_Lcaught_by ?l_Lcaught_by ?k_Lcaught_by ?q_Lcaught_by ?a_Lerrors_right ?l_Lerrors_right ?k_Lerrors_right ?q_Lerrors_right ?a_law ?l_law ?k_law ?q_law ?n_isinstance ?n_int ?n_bool ?n_abs ?n_tuple ?n_all ?n_len ?n_max ?n_range ?n_repr ?n_ValueError ?n_IndexError ?n_KeyError ?n_RuntimeError ?n_OverflowError ?n_ArithmeticError ?n_enumerate ?n_super ?n_min ?v_MAX_FIGURES ?a_CrossError ?a_InvalidWeb ?a_InvalidCourse ?a_InvalidMove ?a_InvalidEnd ?a_InvalidDrawing ?a_InvalidRow ?a_InvalidPaper ?a_InvalidTree ?a_InvalidOrder ?a_InvalidSmoothing ?a_InvalidShade ?a_InvalidOperation ?a_InvalidColouring ?a_InvalidMatching ?a_InvalidPairing ?a_ParseError ?a_NothingToUndo ?a_InvalidNumber ?a_Refused ?a_TooMany ?h1 ?h2 ?h3 ?h4 ?p_InvalidWeb ?p_InvalidCourse ?p_InvalidMove ?p_InvalidEnd ?p_InvalidDrawing ?p_InvalidRow ?p_InvalidPaper ?p_InvalidTree ?p_InvalidOrder ?p_InvalidSmoothing ?p_InvalidShade ?p_InvalidOperation ?p_InvalidColouring ?p_InvalidMatching ?p_InvalidPairing ?i_NothingToUndo ?l_NothingToUndo ?k_NothingToUndo ?m_NothingToUndo ?o_NothingToUndo ?u_NothingToUndo ?w_NothingToUndo ?x_NothingToUndo ?i_InvalidNumber ?l_InvalidNumber ?k_InvalidNumber ?m_InvalidNumber ?o_InvalidNumber ?u_InvalidNumber ?w_InvalidNumber ?x_InvalidNumber ?i_ParseError ?l_ParseError ?k_ParseError ?m_ParseError ?o_ParseError ?u_ParseError ?w_ParseError ?x_ParseError ?i_Refused ?l_Refused ?k_Refused ?m_Refused ?o_Refused ?u_Refused ?w_Refused ?x_Refused ?i_TooMany ?l_TooMany ?k_TooMany ?m_TooMany ?o_TooMany ?u_TooMany ?w_TooMany ?x_TooMany
    (case a_is_integer => k_is)
    (case l_is_integer => k_is)
    (case k_is_integer => k_is)
    (case q_is_integer => k_is)
    (case a_is_count => k_is)
    (case l_is_count => k_is)
    (case k_is_count => k_is)
    (case q_is_count => k_is)
    (case a_are_counts => k_is)
    (case l_are_counts => k_is)
    (case k_are_counts => k_is)
    (case q_are_counts => k_is)
    (case a_Ldice => k_is)
    (case l_Ldice => k_is)
    (case k_Ldice => k_is)
    (case q_Ldice => k_is)
    (case a_Lroll => k_is)
    (case l_Lroll => k_is)
    (case k_Lroll => k_is)
    (case q_Lroll => k_is)
    (case a_Lpick => k_is)
    (case l_Lpick => k_is)
    (case k_Lpick => k_is)
    (case q_Lpick => k_is)
    (case a_Lis_number => k_is)
    (case l_Lis_number => k_is)
    (case k_Lis_number => k_is)
    (case q_Lis_number => k_is)
    (case a_Lare_numbers => k_is)
    (case l_Lare_numbers => k_is)
    (case k_Lare_numbers => k_is)
    (case q_Lare_numbers => k_is)
    (case a_Lvalues => k_is)
    (case l_Lvalues => k_is)
    (case k_Lvalues => k_is)
    (case q_Lvalues => k_is)
    (case a_Lwords_right => k_is)
    (case l_Lwords_right => k_is)
    (case k_Lwords_right => k_is)
    (case q_Lwords_right => k_is)
    (case a_Lraised_by => k_is)
    (case l_Lraised_by => k_is)
    (case k_Lraised_by => k_is)
    (case q_Lraised_by => k_is)
    (case a_Lplain_errors => k_is)
    (case l_Lplain_errors => k_is)
    (case k_Lplain_errors => k_is)
    (case q_Lplain_errors => k_is)
    (case a_Lcaught_by => k_is)
    (case l_Lcaught_by => k_is)
    (case k_Lcaught_by => k_is)
    (case q_Lcaught_by => k_is)
    (case a_Lerrors_right => k_is)
    (case l_Lerrors_right => k_is)
    (case k_Lerrors_right => k_is)
    (case q_Lerrors_right => k_is)
    (case a_law => k_is)
    (case l_law => k_is)
    (case k_law => k_is)
    (case q_law => k_is)
    (case n_isinstance => k_is)
    (case n_int => k_is)
    (case n_bool => k_is)
    (case n_abs => k_is)
    (case n_tuple => k_is)
    (case n_all => k_is)
    (case n_len => k_is)
    (case n_max => k_is)
    (case n_range => k_is)
    (case n_repr => k_is)
    (case n_ValueError => k_is)
    (case n_IndexError => k_is)
    (case n_KeyError => k_is)
    (case n_RuntimeError => k_is)
    (case n_OverflowError => k_is)
    (case n_ArithmeticError => k_is)
    (case n_enumerate => k_is)
    (case n_super => k_is)
    (case n_min => k_is)
    (case v_MAX_FIGURES => k_is)
    (case a_CrossError => k_is)
    (case a_InvalidWeb => k_is)
    (case a_InvalidCourse => k_is)
    (case a_InvalidMove => k_is)
    (case a_InvalidEnd => k_is)
    (case a_InvalidDrawing => k_is)
    (case a_InvalidRow => k_is)
    (case a_InvalidPaper => k_is)
    (case a_InvalidTree => k_is)
    (case a_InvalidOrder => k_is)
    (case a_InvalidSmoothing => k_is)
    (case a_InvalidShade => k_is)
    (case a_InvalidOperation => k_is)
    (case a_InvalidColouring => k_is)
    (case a_InvalidMatching => k_is)
    (case a_InvalidPairing => k_is)
    (case a_ParseError => k_is)
    (case a_NothingToUndo => k_is)
    (case a_InvalidNumber => k_is)
    (case a_Refused => k_is)
    (case a_TooMany => k_is)
    (case h1 => kernel_rfl)
    (case h2 => kernel_rfl)
    (case h3 => kernel_rfl)
    (case h4 => kernel_rfl)
    (case p_InvalidWeb => kernel_rfl)
    (case p_InvalidCourse => kernel_rfl)
    (case p_InvalidMove => kernel_rfl)
    (case p_InvalidEnd => kernel_rfl)
    (case p_InvalidDrawing => kernel_rfl)
    (case p_InvalidRow => kernel_rfl)
    (case p_InvalidPaper => kernel_rfl)
    (case p_InvalidTree => kernel_rfl)
    (case p_InvalidOrder => kernel_rfl)
    (case p_InvalidSmoothing => kernel_rfl)
    (case p_InvalidShade => kernel_rfl)
    (case p_InvalidOperation => kernel_rfl)
    (case p_InvalidColouring => kernel_rfl)
    (case p_InvalidMatching => kernel_rfl)
    (case p_InvalidPairing => kernel_rfl)
    (case i_NothingToUndo => k_is)
    (case l_NothingToUndo => k_is)
    (case k_NothingToUndo => k_is)
    (case m_NothingToUndo => k_is)
    (case o_NothingToUndo => rfl)
    (case u_NothingToUndo => decide +kernel)
    (case w_NothingToUndo => k_is)
    (case x_NothingToUndo => kernel_rfl)
    (case i_InvalidNumber => k_is)
    (case l_InvalidNumber => k_is)
    (case k_InvalidNumber => k_is)
    (case m_InvalidNumber => k_is)
    (case o_InvalidNumber => rfl)
    (case u_InvalidNumber => decide +kernel)
    (case w_InvalidNumber => k_is)
    (case x_InvalidNumber => kernel_rfl)
    (case i_ParseError => k_is)
    (case l_ParseError => k_is)
    (case k_ParseError => k_is)
    (case m_ParseError => k_is)
    (case o_ParseError => rfl)
    (case u_ParseError => decide +kernel)
    (case w_ParseError => k_is)
    (case x_ParseError => kernel_rfl)
    (case i_Refused => k_is)
    (case l_Refused => k_is)
    (case k_Refused => k_is)
    (case m_Refused => k_is)
    (case o_Refused => rfl)
    (case u_Refused => decide +kernel)
    (case w_Refused => k_is)
    (case x_Refused => kernel_rfl)
    (case i_TooMany => k_is)
    (case l_TooMany => k_is)
    (case k_TooMany => k_is)
    (case m_TooMany => k_is)
    (case o_TooMany => rfl)
    (case u_TooMany => decide +kernel)
    (case w_TooMany => k_is)
    (case x_TooMany => kernel_rfl)

