import PyProof.Rows.All
import Wide.All
import OpenK.AllK
import Wide.FinOn
import HandS.ForMost
import HandS.ForExc
import HandS.More
import HandS.Slots
import HandS.Wide
import HandS.ExcInit
import HandS.Walk
import HandS.IsInst
import HandS.SlotsOwn
import HandS.TupAny
import HandS.Lambda
import HandS.Ends
import KE.KExcSuper
import HandS.ExcSuper
import HandS.ExcValue
import HandS.ExcField
import HandS.TryMany
import KE.KExcIs
import HandS.MakeKw
import HandS.MakeKwOnly
import HandS.ClsMeth
import HandS.Property
import HandS.Defaults
import KE.KOpsOwn
import HandS.NamedTupSort
import HandS.Small
import HandS.DictComp
import HandS.DictEq
import HandS.TupSets
import HandS.SortInts
import HandS.Deep
import HandS.ListItems
import HandS.FStr
import HandS.Steps
import HandS.TryOnly
import HandS.Flow
import KE.KCallOwn
import HandS.RaiseMore
import HandS.SortKw
import HandS.Style
import HandS.Conv
import KE.DataMinMax
import KE.KDictList
import PySem.Challenge.RW_crosswebs_k03_whole_quotients_and_powers
set_option Elab.async false
set_option linter.all false
set_option maxRecDepth 100000
set_option maxHeartbeats 4000000
/-! Y1: plain data, a store, results; how they lie in the layer's heap. -/
namespace Y
open PySem PySem.Spec PyProof.Rows L2

inductive D where
  | non | bl (b : Bool) | int (i : Int) | str (x : List Nat) | tup (l : List D) | loc (n : Nat) | cls (n : Nat) | scr (l : List Int)
  deriving Inhabited

inductive Cell where
  | lst (l : List D)
  | dct (lk : Nat) (l : List (D × D))
  | ins (c : Nat) (l : List (Option D))
  | dice
  /-- an exception that was not raised: its class, its fields -/
  | exv (c : Nat) (fs : List (Str × D))

structure Sto where
  n : Nat
  c : List Cell
def Sto.get (S : Sto) (i : Nat) : Option Cell := if i < S.n then S.c[S.n - 1 - i]? else none
def Sto.set (S : Sto) (i : Nat) (x : Cell) : Sto := if i < S.n then ⟨S.n, S.c.set (S.n - 1 - i) x⟩ else S
def Sto.new (S : Sto) (x : Cell) : Sto := ⟨S.n + 1, x :: S.c⟩
theorem Sto.get_new (S : Sto) (x : Cell) (i : Nat) : (S.new x).get i = if i = S.n then some x else S.get i := by
  unfold Sto.new Sto.get
  by_cases h : i = S.n
  · subst h
    simp
  · rw [if_neg h]
    by_cases h2 : i < S.n
    · have e1 : i < S.n + 1 := by omega
      have e : S.n + 1 - 1 - i = (S.n - 1 - i) + 1 := by omega
      simp only [e1, h2, if_true, e, List.getElem?_cons_succ]
    · have e1 : ¬ i < S.n + 1 := by omega
      simp only [e1, h2, if_false]
theorem Sto.get_lt {S : Sto} {i : Nat} {x : Cell} (h : S.get i = some x) : i < S.n := by
  unfold Sto.get at h
  split at h
  · assumption
  · cases h
theorem Sto.get_set_self {S : Sto} {i : Nat} {x y : Cell} (h : S.get i = some x) : (S.set i y).get i = some y := by
  have hl := Sto.get_lt h
  unfold Sto.get at h ⊢
  unfold Sto.set
  rw [if_pos hl] at h ⊢
  simp only [hl, if_true]
  obtain ⟨h1, _⟩ := List.getElem?_eq_some_iff.mp h
  exact List.getElem?_set_self h1
theorem Sto.get_set_ne {S : Sto} {i j : Nat} {y : Cell} (h : j ≠ i) : (S.set i y).get j = S.get j := by
  unfold Sto.set
  split
  · rename_i hi
    unfold Sto.get
    split
    · rename_i hj
      simp only [hj, if_true]
      exact List.getElem?_set_ne (by simp only at hj; omega)
    · rename_i hj
      simp only [hj, if_false]
  · rfl
theorem Sto.set_n (S : Sto) (i : Nat) (y : Cell) : (S.set i y).n = S.n := by
  unfold Sto.set
  split <;> rfl

/-- an exception: its class's number and what it keeps -/
structure Ex where
  cls : Nat
  fs : List (Str × D)

inductive Res (α : Type) where
  | ok (a : α) (S : Sto)
  | exc (x : Ex) (S : Sto)
  | stuck
  /-- any number below t -/
  | pick (t : Nat) (f : Nat → Res α)
def Res.bind {α β : Type} (r : Res α) (k : α → Sto → Res β) : Res β := match r with
  | .ok a S => k a S
  | .exc x S => .exc x S
  | .stuck => .stuck
  | .pick t f => .pick t fun r => (f r).bind k

abbrev SD := List (Option D)
abbrev ME := SD → Sto → Res D
abbrev MT := SD → Sto → Res Bool
abbrev MA := SD → Sto → Res (List D)
abbrev MF := List D → Sto → Res D

/-! ### the relation -/
structure Glo where
  K : PySem.W.Frag
  ca : Nat → Value
abbrev Rho := Nat → Option Addr
/-- the script: known to its object, or an object of the module -/
def ScrAt (K : PySem.W.Frag) (H : Hp) (a : Addr) (l : List Int) : Prop := (∃ o, H a = some (.frz o (.lst (l.map V.int)))) ∨ ∀ H' : Hp, SqL K H' a (l.map V.int)
theorem ScrAt.seq {K : PySem.W.Frag} {H : Hp} {a : Addr} {l : List Int} (h : ScrAt K H a l) : SqL K H a (l.map V.int) := by
  rcases h with ⟨o, h⟩ | h
  · exact .inl (.inr ⟨o, h⟩)
  · exact h H
theorem ScrAt.of {K : PySem.W.Frag} {H : Hp} {a : Addr} {l : List Int} (hO : Only H) (h : SqL K H a (l.map V.int)) : ScrAt K H a l := by
  rcases h with (h | ⟨o, h⟩) | h
  · rcases hO a with z | ⟨o, xs, z⟩
    · rw [z] at h
      cases h
    · rw [z] at h
      cases h
  · exact .inl ⟨o, h⟩
  · exact .inr fun _ => .inr h

mutual
def RelD (G : Glo) (ρ : Rho) (H : Hp) : D → V → Prop
  | .non, v => v = .non
  | .bl b, v => v = .bl b
  | .int i, v => v = .int i
  | .str x, v => v = .str ⟨x.toArray⟩
  | .tup l, v => ∃ a xs, v = .ref a ∧ H a = some (.tup xs) ∧ RelDs G ρ H l xs
  | .loc n, v => ∃ a, ρ n = some a ∧ v = .ref a
  | .cls n, v => RelV v (G.ca n)
  | .scr l, v => ∃ a, v = .ref a ∧ ScrAt G.K H a l
def RelDs (G : Glo) (ρ : Rho) (H : Hp) : List D → List V → Prop
  | [], xs => xs = []
  | d :: r, xs => ∃ v ys, xs = v :: ys ∧ RelD G ρ H d v ∧ RelDs G ρ H r ys
end

/-- the heap has grown: tuples, and what is known to an object, stay -/
structure Le (G : Glo) (ρ : Rho) (H : Hp) (ρ' : Rho) (H' : Hp) : Prop where
  rho : ∀ i a, ρ i = some a → ρ' i = some a
  tp : ∀ a xs, H a = some (.tup xs) → H' a = some (.tup xs)
  fz : ∀ a o u, H a = some (.frz o u) → H' a = some (.frz o u)
theorem Le.refl {G : Glo} {ρ : Rho} {H : Hp} : Le G ρ H ρ H := ⟨fun _ _ h => h, fun _ _ h => h, fun _ _ _ h => h⟩
theorem Le.trans {G : Glo} {ρ ρ1 ρ2 : Rho} {H H1 H2 : Hp} (a : Le G ρ H ρ1 H1) (b : Le G ρ1 H1 ρ2 H2) : Le G ρ H ρ2 H2 :=
  ⟨fun i x h => b.rho i x (a.rho i x h), fun x xs h => b.tp x xs (a.tp x xs h), fun x o u h => b.fz x o u (a.fz x o u h)⟩
theorem Le.tup {G : Glo} {ρ ρ' : Rho} {H H' : Hp} (le : Le G ρ H ρ' H') : ∀ a xs, H a = some (.tup xs) → H' a = some (.tup xs) := le.tp
theorem Le.scr {G : Glo} {ρ ρ' : Rho} {H H' : Hp} (le : Le G ρ H ρ' H') : ∀ a l, ScrAt G.K H a l → ScrAt G.K H' a l := fun a l h => by
  rcases h with ⟨ob, h⟩ | h
  · exact .inl ⟨ob, le.fz _ _ _ h⟩
  · exact .inr h

structure Lw (G : Glo) (ρ : Rho) (H : Hp) (ρ' : Rho) (H' : Hp) : Prop where
  rho : ∀ i a, ρ i = some a → ρ' i = some a
  tup : ∀ a xs, H a = some (.tup xs) → H' a = some (.tup xs)
  scr : ∀ a l, ScrAt G.K H a l → ScrAt G.K H' a l
theorem Le.lw {G : Glo} {ρ ρ' : Rho} {H H' : Hp} (le : Le G ρ H ρ' H') : Lw G ρ H ρ' H' := ⟨le.rho, le.tup, le.scr⟩
mutual
theorem RelD.monoW {G : Glo} {ρ ρ' : Rho} {H H' : Hp} (le : Lw G ρ H ρ' H') : ∀ {d : D} {v : V}, RelD G ρ H d v → RelD G ρ' H' d v
  | .non, _, h => by simpa only [RelD] using h
  | .bl _, _, h => by simpa only [RelD] using h
  | .int _, _, h => by simpa only [RelD] using h
  | .str _, _, h => by simpa only [RelD] using h
  | .tup l, v, h => by
    simp only [RelD] at h ⊢
    obtain ⟨a, xs, e, hs, hr⟩ := h
    exact ⟨a, xs, e, le.tup a xs hs, RelDs.monoW le hr⟩
  | .loc n, v, h => by
    simp only [RelD] at h ⊢
    obtain ⟨a, e, h⟩ := h
    exact ⟨a, le.rho _ _ e, h⟩
  | .cls _, _, h => by simpa only [RelD] using h
  | .scr _, _, h => by
    simp only [RelD] at h ⊢
    obtain ⟨a, e, h⟩ := h
    exact ⟨a, e, le.scr _ _ h⟩
theorem RelDs.monoW {G : Glo} {ρ ρ' : Rho} {H H' : Hp} (le : Lw G ρ H ρ' H') : ∀ {l : List D} {xs : List V}, RelDs G ρ H l xs → RelDs G ρ' H' l xs
  | [], _, h => by simpa only [RelDs] using h
  | d :: r, xs, h => by
    simp only [RelDs] at h ⊢
    obtain ⟨v, ys, e, h1, h2⟩ := h
    exact ⟨v, ys, e, RelD.monoW le h1, RelDs.monoW le h2⟩
end
theorem RelD.mono {G : Glo} {ρ ρ' : Rho} {H H' : Hp} (le : Le G ρ H ρ' H') {d : D} {v : V} (h : RelD G ρ H d v) : RelD G ρ' H' d v := RelD.monoW le.lw h
theorem RelDs.mono {G : Glo} {ρ ρ' : Rho} {H H' : Hp} (le : Le G ρ H ρ' H') {l : List D} {xs : List V} (h : RelDs G ρ H l xs) : RelDs G ρ' H' l xs := RelDs.monoW le.lw h
section
variable {G : Glo} {ρ : Rho} {H : Hp}
theorem RelDs.nil : RelDs G ρ H [] [] := by simp only [RelDs]
theorem RelDs.cons {d : D} {v : V} {l : List D} {xs : List V} (h : RelD G ρ H d v) (t : RelDs G ρ H l xs) : RelDs G ρ H (d :: l) (v :: xs) := by
  simp only [RelDs]
  exact ⟨v, xs, rfl, h, t⟩
theorem RelDs.length : ∀ {l : List D} {xs : List V}, RelDs G ρ H l xs → l.length = xs.length
  | [], _, h => by
    simp only [RelDs] at h
    subst h
    rfl
  | d :: r, xs, h => by
    simp only [RelDs] at h
    obtain ⟨v, ys, rfl, h1, h2⟩ := h
    simp only [List.length_cons, RelDs.length h2]
theorem RelDs.get : ∀ {l : List D} {xs : List V} {i : Nat} {d : D}, RelDs G ρ H l xs → l[i]? = some d → ∃ v, xs[i]? = some v ∧ RelD G ρ H d v
  | [], _, _, _, _, e => by simp at e
  | d :: r, xs, i, d', h, e => by
    simp only [RelDs] at h
    obtain ⟨v, ys, rfl, h1, h2⟩ := h
    cases i with
    | zero =>
      simp only [List.getElem?_cons_zero, Option.some.injEq] at e ⊢
      subst e
      exact ⟨v, rfl, h1⟩
    | succ i =>
      simp only [List.getElem?_cons_succ] at e ⊢
      exact RelDs.get h2 e
theorem RelDs.append : ∀ {l m : List D} {xs ys : List V}, RelDs G ρ H l xs → RelDs G ρ H m ys → RelDs G ρ H (l ++ m) (xs ++ ys)
  | [], _, _, _, h, h2 => by
    simp only [RelDs] at h
    subst h
    exact h2
  | d :: r, m, xs, ys, h, h2 => by
    simp only [RelDs] at h
    obtain ⟨v, zs, rfl, h1, h3⟩ := h
    exact .cons h1 (RelDs.append h3 h2)
theorem RelDs.one {d : D} {v : V} (h : RelD G ρ H d v) : RelDs G ρ H [d] [v] := .cons h .nil
theorem RelDs.set {d : D} {v : V} (h : RelD G ρ H d v) : ∀ {l : List D} {xs : List V} (i : Nat), RelDs G ρ H l xs → RelDs G ρ H (l.set i d) (xs.set i v)
  | [], _, i, t => by
    simp only [RelDs] at t
    subst t
    exact .nil
  | e :: r, xs, i, t => by
    simp only [RelDs] at t
    obtain ⟨w, ys, rfl, h1, h2⟩ := t
    cases i with
    | zero => exact .cons h h2
    | succ i => exact .cons h1 (RelDs.set h i h2)
theorem RelDs.take : ∀ {l : List D} {xs : List V} (n : Nat), RelDs G ρ H l xs → RelDs G ρ H (l.take n) (xs.take n)
  | [], _, n, t => by
    simp only [RelDs] at t
    subst t
    simp only [List.take_nil]
    exact .nil
  | e :: r, xs, n, t => by
    simp only [RelDs] at t
    obtain ⟨w, ys, rfl, h1, h2⟩ := t
    cases n with
    | zero => exact .nil
    | succ n => exact .cons h1 (RelDs.take n h2)
theorem RelDs.drop : ∀ {l : List D} {xs : List V} (n : Nat), RelDs G ρ H l xs → RelDs G ρ H (l.drop n) (xs.drop n)
  | [], _, n, t => by
    simp only [RelDs] at t
    subst t
    simp only [List.drop_nil]
    exact .nil
  | e :: r, xs, n, t => by
    simp only [RelDs] at t
    obtain ⟨w, ys, rfl, h1, h2⟩ := t
    cases n with
    | zero => exact .cons h1 h2
    | succ n => exact RelDs.drop n h2
theorem RelDs.ints : ∀ (ns : List Int), RelDs G ρ H (ns.map D.int) (ns.map V.int)
  | [] => .nil
  | n :: r => .cons (by simp only [RelD]) (RelDs.ints r)
theorem RelD.tup' {l : List D} {a : Addr} {xs : List V} (h : H a = some (.tup xs)) (t : RelDs G ρ H l xs) : RelD G ρ H (.tup l) (.ref a) := by
  simp only [RelD]
  exact ⟨a, xs, rfl, h, t⟩
theorem RelD.loc' {n : Nat} {a : Addr} (h : ρ n = some a) : RelD G ρ H (.loc n) (.ref a) := by
  simp only [RelD]
  exact ⟨a, h, rfl⟩
end

/-! ### keys -/
def keyD : D → Option Key
  | .int i => some (.inl i)
  | .str x => some (.inr ⟨x.toArray⟩)
  | _ => none
def keysD : List D → Option (List Key)
  | [] => some []
  | d :: r => match keyD d, keysD r with
    | some k, some ks => some (k :: ks)
    | _, _ => none
def keyT : D → Option (List Key)
  | .tup l => keysD l
  | _ => none

/-- a dict whose keys are ints and texts, by its first one -/
def isK : List (D × D) → Bool
  | [] => true
  | p :: _ => (keyD p.1).isSome
def PairK {κ : Type} (kf : D → Option κ) (G : Glo) (ρ : Rho) (H : Hp) : List (D × D) → List (κ × V) → Prop
  | [], ys => ys = []
  | p :: r, ys => ∃ k v zs, ys = (k, v) :: zs ∧ kf p.1 = some k ∧ RelD G ρ H p.2 v ∧ PairK kf G ρ H r zs
theorem PairK.monoW {κ : Type} {kf : D → Option κ} {G : Glo} {ρ ρ' : Rho} {H H' : Hp} (le : Lw G ρ H ρ' H') : ∀ {l : List (D × D)} {ys : List (κ × V)}, PairK kf G ρ H l ys → PairK kf G ρ' H' l ys
  | [], _, h => h
  | p :: r, ys, h => by
    obtain ⟨k, v, zs, e, h1, h2, h3⟩ := h
    exact ⟨k, v, zs, e, h1, RelD.monoW le h2, PairK.monoW le h3⟩
theorem PairK.mono {κ : Type} {kf : D → Option κ} {G : Glo} {ρ ρ' : Rho} {H H' : Hp} (le : Le G ρ H ρ' H') {l : List (D × D)} {ys : List (κ × V)} (h : PairK kf G ρ H l ys) : PairK kf G ρ' H' l ys := PairK.monoW le.lw h

def RelSl (G : Glo) (ρ : Rho) (H : Hp) (l : List (Option D)) (vs : List (Option V)) : Prop := ∀ (i : Nat) (d : D), l[i]? = some (some d) → ∃ v, vs[i]? = some (some v) ∧ RelD G ρ H d v
theorem RelSl.monoW {G : Glo} {ρ ρ' : Rho} {H H' : Hp} (le : Lw G ρ H ρ' H') {l : List (Option D)} {vs : List (Option V)} (h : RelSl G ρ H l vs) : RelSl G ρ' H' l vs := fun i d e =>
  let ⟨v, e1, r⟩ := h i d e
  ⟨v, e1, RelD.monoW le r⟩
theorem RelSl.mono {G : Glo} {ρ ρ' : Rho} {H H' : Hp} (le : Le G ρ H ρ' H') {l : List (Option D)} {vs : List (Option V)} (h : RelSl G ρ H l vs) : RelSl G ρ' H' l vs := RelSl.monoW le.lw h

/-- a dict as it stands: unlocked (0), or known to an object while it is walked -/
def DctAt (H : Hp) (a : Addr) (lk : Nat) (u : HO) : Prop := match lk with
  | 0 => H a = some u
  | _ => ∃ o, H a = some (.frz o u)
def CellOk (G : Glo) (ρ : Rho) (H : Hp) (a : Addr) : Cell → Prop
  | .lst l => ∃ xs, H a = some (.lst xs) ∧ RelDs G ρ H l xs
  | .dct lk l => (∃ kvs, DctAt H a lk (.dK kvs) ∧ PairK keyD G ρ H l kvs) ∨ (l ≠ [] ∧ ∃ kvs, DctAt H a lk (.dT kvs) ∧ PairK keyT G ρ H l kvs)
  | .ins c l => ∃ C dx vs, G.ca c = .ref C ∧ SlX.Slt H a C dx vs ∧ RelSl G ρ H l vs
  | .dice => ∃ x y z : Int, H a = some (.lst [.int x, .int y, .int z])
  | .exv c fs => ∃ C d, G.ca c = .ref C ∧ H a = some (exo a C d) ∧ ((d = none ∧ fs = []) ∨ ∃ dx gs, d = some dx ∧ H dx = some (.xd gs) ∧ ∀ f e, fs.lookup f = some e → ∃ v, gs.lookup f = some v ∧ RelD G ρ H e v)

structure Rep (G : Glo) (ρ : Rho) (S : Sto) (H : Hp) : Prop where
  cell : ∀ i c, S.get i = some c → ∃ a, ρ i = some a ∧ CellOk G ρ H a c
  inj : ∀ i j a, ρ i = some a → ρ j = some a → i = j
  top : ∀ i, S.n ≤ i → ρ i = none
  dom : ∀ i a, ρ i = some a → ∃ o, H a = some o

/-! ### the heap changes -/
/-- what may be written by a store of ours, or is new: nothing of it is a tuple or the script -/
def Wr : Option HO → Prop
  | none => True
  | some (.lst _) => True
  | some (.dK _) => True
  | some (.dT _) => True
  | some (.ins _ _ _) => True
  | some (.ext _) => True
  | some (.own _) => True
  | some (.xd _) => True
  | some (.tbl _) => True
  | _ => False
section
variable {G : Glo} {ρ : Rho} {H : Hp}
theorem Le.upd {p : Addr} {o : HO} (w : Wr (H p)) : Le G ρ H ρ (upd H p o) := ⟨fun _ _ h => h, fun a xs h => by
  have ne : a ≠ p := fun z => by
    rw [← z, h] at w
    exact w
  rw [upd_ne ne]
  exact h, fun a ob u h => by
  have ne : a ≠ p := fun z => by
    rw [← z, h] at w
    exact w
  rw [upd_ne ne]
  exact h⟩
def ext (ρ : Rho) (n : Nat) (p : Addr) : Rho := fun i => if i = n then some p else ρ i
theorem ext_same {n : Nat} {p : Addr} : ext ρ n p n = some p := by
  unfold ext
  rw [if_pos rfl]
theorem ext_ne {n i : Nat} {p : Addr} (h : i ≠ n) : ext ρ n p i = ρ i := by
  unfold ext
  rw [if_neg h]
theorem Le.ext {n : Nat} {p : Addr} (hn : ρ n = none) : Le G ρ H (ext ρ n p) H := ⟨fun i a h => by
  have ne : i ≠ n := fun z => by
    rw [z, hn] at h
    cases h
  rw [ext_ne ne]
  exact h, fun _ _ h => h, fun _ _ _ h => h⟩
theorem Le.same {H' : Hp} (h : Same H H') : Le G ρ H ρ H' := ⟨fun _ _ h => h, fun a xs q => h _ _ q, fun a o u q => h _ _ q⟩

/-- a cell stands on its own address (and an instance's dict) -/
theorem CellOk.there {a : Addr} {c : Cell} (h : CellOk G ρ H a c) : ∃ o, H a = some o := by
  cases c with
  | lst l =>
    obtain ⟨xs, h, _⟩ := h
    exact ⟨_, h⟩
  | dct lk l =>
    rcases h with ⟨kvs, h, _⟩ | ⟨_, kvs, h, _⟩
    · cases lk with
      | zero => exact ⟨_, h⟩
      | succ k =>
        obtain ⟨o, h⟩ := h
        exact ⟨_, h⟩
    · cases lk with
      | zero => exact ⟨_, h⟩
      | succ k =>
        obtain ⟨o, h⟩ := h
        exact ⟨_, h⟩
  | ins k l =>
    obtain ⟨C, dx, vs, _, h, _⟩ := h
    rcases h with ⟨h, _⟩ | ⟨h, _⟩
    · exact ⟨_, h⟩
    · exact ⟨_, h⟩
  | dice =>
    obtain ⟨x, y, z, h⟩ := h
    exact ⟨_, h⟩
  | exv k fs =>
    obtain ⟨C, d, _, h, _⟩ := h
    exact ⟨_, h⟩
/-- what of a heap a cell leans on -/
theorem CellOk.keepW {ρ' : Rho} {H' : Hp} {a : Addr} {c : Cell} (h : CellOk G ρ H a c) (le : Lw G ρ H ρ' H') (k : ∀ o, H a = some o → H' a = some o) (kd : ∀ dx gs, H dx = some (.xd gs) → H' dx = some (.xd gs)) : CellOk G ρ' H' a c := by
  cases c with
  | lst l =>
    obtain ⟨xs, h, r⟩ := h
    exact ⟨xs, k _ h, RelDs.monoW le r⟩
  | dct lk l =>
    have at_ : ∀ u, DctAt H a lk u → DctAt H' a lk u := fun u h => by
      cases lk with
      | zero => exact k _ h
      | succ n =>
        obtain ⟨o, h⟩ := h
        exact ⟨o, k _ h⟩
    rcases h with ⟨kvs, h, r⟩ | ⟨hne, kvs, h, r⟩
    · exact .inl ⟨kvs, at_ _ h, PairK.monoW le r⟩
    · exact .inr ⟨hne, kvs, at_ _ h, PairK.monoW le r⟩
  | ins n l =>
    obtain ⟨C, dx, vs, e, h, r⟩ := h
    refine ⟨C, dx, vs, e, ?_, RelSl.monoW le r⟩
    rcases h with ⟨h1, h2⟩ | ⟨h1, h2⟩
    · exact .inl ⟨k _ h1, h2⟩
    · exact .inr ⟨k _ h1, kd _ _ h2⟩
  | dice =>
    obtain ⟨x, y, z, h⟩ := h
    exact ⟨x, y, z, k _ h⟩
  | exv n fs =>
    obtain ⟨C, d, e, h, r⟩ := h
    refine ⟨C, d, e, k _ h, ?_⟩
    rcases r with r | ⟨dx, gs, e1, h1, h2⟩
    · exact .inl r
    · exact .inr ⟨dx, gs, e1, kd _ _ h1, fun f e q => let ⟨v, q1, q2⟩ := h2 f e q; ⟨v, q1, RelD.monoW le q2⟩⟩
theorem CellOk.keep {ρ' : Rho} {H' : Hp} {a : Addr} {c : Cell} (h : CellOk G ρ H a c) (le : Le G ρ H ρ' H') (k : ∀ o, H a = some o → H' a = some o) (kd : ∀ dx gs, H dx = some (.xd gs) → H' dx = some (.xd gs)) : CellOk G ρ' H' a c := h.keepW le.lw k kd
/-- all of the heap stays -/
theorem Rep.same {S : Sto} {H' : Hp} (r : Rep G ρ S H) (h : Same H H') : Rep G ρ S H' :=
  ⟨fun i c e => let ⟨a, e1, q⟩ := r.cell i c e; ⟨a, e1, q.keep (Le.same h) (fun o => h a o) fun dx gs => h dx _⟩, r.inj, r.top, fun i a e => let ⟨o, q⟩ := r.dom i a e; ⟨o, h _ _ q⟩⟩
theorem same_new {p : Addr} {o : HO} (h : H p = none) : Same H (upd H p o) := fun b x e => by
  rw [upd_ne (ne_of_none e h)]
  exact e
/-- a new object that no one names -/
theorem Rep.free {S : Sto} {p : Addr} {o : HO} (r : Rep G ρ S H) (h : H p = none) : Rep G ρ S (upd H p o) := r.same (same_new h)
/-- a new cell -/
theorem Rep.new {S : Sto} {p : Addr} {o : HO} {c : Cell} (r : Rep G ρ S H) (h : H p = none) (q : CellOk G (Y.ext ρ S.n p) (L2.upd H p o) p c) : Rep G (Y.ext ρ S.n p) (S.new c) (L2.upd H p o) := by
  have hn : ρ S.n = none := r.top _ (Nat.le_refl _)
  have le : Le G ρ H (Y.ext ρ S.n p) (L2.upd H p o) := (Le.ext hn).trans (Le.same (same_new h))
  have nop : ∀ i a, ρ i = some a → i < S.n := fun i a e => by
    by_cases z : S.n ≤ i
    · rw [r.top i z] at e
      cases e
    · omega
  have nep : ∀ i, ρ i ≠ some p := fun i e => by
    obtain ⟨o, z⟩ := r.dom i p e
    rw [h] at z
    cases z
  refine ⟨fun i c' e => ?_, fun i j a e1 e2 => ?_, fun i hi => ?_, fun i a e => ?_⟩
  · rw [Sto.get_new] at e
    split at e
    · rename_i z
      cases e
      exact ⟨p, by rw [z]; exact ext_same, q⟩
    · rename_i z
      obtain ⟨a, e1, q1⟩ := r.cell i c' e
      exact ⟨a, le.rho _ _ e1, q1.keep le (fun x e => same_new h _ _ e) fun dx gs e => same_new h _ _ e⟩
  · by_cases h1 : i = S.n
    · by_cases h2 : j = S.n
      · rw [h1, h2]
      · rw [h1, ext_same] at e1
        rw [ext_ne h2, ← e1] at e2
        exact absurd e2 (nep j)
    · rw [ext_ne h1] at e1
      by_cases h2 : j = S.n
      · rw [h2, ext_same, ← e1] at e2
        exact absurd e2.symm (nep i)
      · rw [ext_ne h2] at e2
        exact r.inj i j a e1 e2
  · rw [ext_ne (by show i ≠ S.n; have : S.n + 1 ≤ i := hi; omega)]
    exact r.top i (by have : S.n + 1 ≤ i := hi; omega)
  · by_cases h1 : i = S.n
    · rw [h1, ext_same] at e
      cases e
      exact ⟨o, upd_same⟩
    · rw [ext_ne h1] at e
      obtain ⟨x, q⟩ := r.dom i a e
      exact ⟨x, same_new h _ _ q⟩
/-- what may be written: not an instance's dict -/
def Wr1 : Option HO → Prop
  | some (.lst _) => True
  | some (.dK _) => True
  | some (.dT _) => True
  | some (.ins _ _ _) => True
  | some (.ext _) => True
  | _ => False
theorem Wr1.wr {o : Option HO} (h : Wr1 o) : Wr o := by
  cases o with
  | none => exact h.elim
  | some u => cases u <;> first | exact trivial | exact h.elim
/-- a cell is written -/
theorem Rep.setW {S : Sto} {i : Nat} {a : Addr} {o : HO} {c c' : Cell} (r : Rep G ρ S H) (hi : S.get i = some c) (ha : ρ i = some a) (lw : Lw G ρ H ρ (L2.upd H a o)) (hx : ∀ gs, H a ≠ some (.xd gs)) (q : CellOk G ρ (L2.upd H a o) a c') : Rep G ρ (S.set i c') (L2.upd H a o) := by
  refine ⟨fun j c2 e => ?_, r.inj, fun j hj => r.top j (by rw [Sto.set_n] at hj; exact hj), fun j b e => ?_⟩
  · by_cases h : j = i
    · rw [h, Sto.get_set_self hi] at e
      cases e
      exact ⟨a, by rw [h]; exact ha, q⟩
    · rw [Sto.get_set_ne h] at e
      obtain ⟨b, e1, q1⟩ := r.cell j c2 e
      have ne : b ≠ a := fun z => h (r.inj j i a (by rw [← z]; exact e1) ha)
      refine ⟨b, e1, q1.keepW lw (fun x e => by rw [upd_ne ne]; exact e) fun dx gs e => ?_⟩
      have nd : dx ≠ a := fun z => by
        rw [z] at e
        exact hx gs e
      rw [upd_ne nd]
      exact e
  · by_cases h : b = a
    · exact ⟨o, by rw [h]; exact upd_same⟩
    · obtain ⟨x, z⟩ := r.dom j b e
      exact ⟨x, by rw [upd_ne h]; exact z⟩
theorem Rep.set {S : Sto} {i : Nat} {a : Addr} {o : HO} {c c' : Cell} (r : Rep G ρ S H) (hi : S.get i = some c) (ha : ρ i = some a) (w : Wr1 (H a)) (q : CellOk G ρ (L2.upd H a o) a c') : Rep G ρ (S.set i c') (L2.upd H a o) :=
  r.setW hi ha (Le.upd w.wr).lw (fun gs z => by rw [z] at w; exact w) q
/-- a dict is locked, unlocked -/
theorem Rep.lock {S : Sto} {n : Nat} {l : List (D × D)} {v : V} (r : Rep G ρ S H) (hi : S.get n = some (.dct 0 l)) (h : RelD G ρ H (.loc n) v) : ∃ a u, v = .ref a ∧ ρ n = some a ∧ H a = some u ∧ Mut (some u) ∧ Wr (some u) ∧ (∀ xs, u ≠ .tup xs) ∧ (∀ xs, u ≠ .lst xs) ∧ ∀ od, Rep G ρ (S.set n (.dct 1 l)) (L2.upd H a (.frz od u)) := by
  simp only [RelD] at h
  obtain ⟨a, e, rfl⟩ := h
  obtain ⟨b, e1, q⟩ := r.cell n _ hi
  rw [e] at e1
  cases e1
  rcases q with ⟨kvs, hd, p⟩ | ⟨hne, kvs, hd, p⟩
  · have hd : H a = some (.dK kvs) := hd
    have w : Wr1 (H a) := by rw [hd]; exact trivial
    exact ⟨a, _, rfl, e, hd, trivial, trivial, fun xs z => (by cases z), fun xs z => (by cases z), fun od => r.set hi e w (Or.inl ⟨kvs, ⟨od, upd_same⟩, p.mono (Le.upd w.wr)⟩)⟩
  · have hd : H a = some (.dT kvs) := hd
    have w : Wr1 (H a) := by rw [hd]; exact trivial
    exact ⟨a, _, rfl, e, hd, trivial, trivial, fun xs z => (by cases z), fun xs z => (by cases z), fun od => r.set hi e w (Or.inr ⟨hne, kvs, ⟨od, upd_same⟩, p.mono (Le.upd w.wr)⟩)⟩
theorem Rep.unlock {S : Sto} {n : Nat} {l : List (D × D)} {a : Addr} {od : Obj} {u : HO} (r : Rep G ρ S H) (hi : S.get n = some (.dct 1 l)) (e : ρ n = some a) (hd : H a = some (.frz od u)) (u1 : ∀ xs, u ≠ .tup xs) (u2 : ∀ xs, u ≠ .lst xs) : Rep G ρ (S.set n (.dct 0 l)) (L2.upd H a u) := by
  have lw : Lw G ρ H ρ (L2.upd H a u) := ⟨fun _ _ h => h, fun b xs h => by
    rw [upd_ne (fun z => by rw [z, hd] at h; cases h)]
    exact h, fun b l h => by
    rcases h with ⟨ob, h⟩ | h
    · exact .inl ⟨ob, by rw [upd_ne (fun z => by rw [z, hd] at h; cases h; exact u2 _ rfl)]; exact h⟩
    · exact .inr h⟩
  obtain ⟨b, e1, q⟩ := r.cell n _ hi
  rw [e] at e1
  cases e1
  refine r.setW hi e lw (fun gs z => by rw [hd] at z; cases z) ?_
  rcases q with ⟨kvs, ⟨o, h⟩, p⟩ | ⟨hne, kvs, ⟨o, h⟩, p⟩
  · rw [hd] at h
    cases h
    exact .inl ⟨kvs, upd_same, p.monoW lw⟩
  · rw [hd] at h
    cases h
    exact .inr ⟨hne, kvs, upd_same, p.monoW lw⟩
theorem le_unlock {ρ' : Rho} {H' : Hp} {a : Addr} {od : Obj} {u : HO} (hd : H a = some u) (w : Wr (some u)) (le : Le G ρ (L2.upd H a (.frz od u)) ρ' H') : Le G ρ H ρ' (L2.upd H' a u) := by
  refine ⟨le.rho, fun b xs h => ?_, fun b o x h => ?_⟩
  · have ne : b ≠ a := fun z => by
      rw [z, hd] at h
      cases h
      exact w
    rw [upd_ne ne]
    exact le.tp _ _ (by rw [upd_ne ne]; exact h)
  · have ne : b ≠ a := fun z => by
      rw [z, hd] at h
      cases h
      exact w
    rw [upd_ne ne]
    exact le.fz _ _ _ (by rw [upd_ne ne]; exact h)
/-- less is known -/
theorem Rep.list {S : Sto} {i : Nat} {l : List D} {v : V} (r : Rep G ρ S H) (hi : S.get i = some (.lst l)) (h : RelD G ρ H (.loc i) v) : ∃ a xs, v = .ref a ∧ ρ i = some a ∧ H a = some (.lst xs) ∧ RelDs G ρ H l xs := by
  simp only [RelD] at h
  obtain ⟨a, e, rfl⟩ := h
  obtain ⟨b, e1, xs, q, t⟩ := r.cell i _ hi
  rw [e] at e1
  cases e1
  exact ⟨a, xs, rfl, e, q, t⟩
end

/-! ### what follows -/
/-- an exception's class and own dict -/
def RelX (G : Glo) (ρ : Rho) (H : Hp) (x : Ex) (cls : Value) (d : Option Addr) : Prop := cls = G.ca x.cls ∧
  match x.fs, d with
  | [], _ => True
  | fs, some a => ∃ gs, H a = some (.xd gs) ∧ ∀ f e, fs.lookup f = some e → ∃ v, gs.lookup f = some v ∧ RelD G ρ H e v
  | _, none => False
section
variable (G : Glo) {α β : Type} (RL : Rho → Hp → α → β → Prop)
def Aft (ρ : Rho) (H : Hp) (r : Res α) (Q : β → Hp → Prop) (W : XK) : Prop := match r with
  | .ok d S => ∀ ρ' H' v, Le G ρ H ρ' H' → Rep G ρ' S H' → RL ρ' H' d v → Q v H'
  | .exc x S => ∀ ρ' H' cls dd, Le G ρ H ρ' H' → Rep G ρ' S H' → RelX G ρ' H' x cls dd → W cls dd H'
  | .stuck => False
  | .pick t f => ∀ r, r < t → Aft ρ H (f r) Q W
end
section
variable {G : Glo} {α β α' β' : Type} {RL : Rho → Hp → α → β → Prop} {RL' : Rho → Hp → α' → β' → Prop} {ρ ρ' : Rho} {H H' : Hp}
theorem Aft.le {r : Res α} {Q : β → Hp → Prop} {W : XK} (h : Aft G RL ρ H r Q W) (le : Le G ρ H ρ' H') : Aft G RL ρ' H' r Q W := by
  induction r with
  | ok d S => exact fun ρ2 H2 v l1 r1 r2 => h ρ2 H2 v (le.trans l1) r1 r2
  | exc x S => exact fun ρ2 H2 c d l1 r1 r2 => h ρ2 H2 c d (le.trans l1) r1 r2
  | stuck => exact h
  | pick t f ih => exact fun r hr => ih r (h r hr)
theorem Aft.bind {r : Res α'} {k : α' → Sto → Res α} {Q : β → Hp → Prop} {W : XK} (h : Aft G RL ρ H (r.bind k) Q W) {Q' : β' → Hp → Prop}
    (f : ∀ ρ1 H1 v d S1, Le G ρ H ρ1 H1 → Rep G ρ1 S1 H1 → RL' ρ1 H1 d v → Aft G RL ρ1 H1 (k d S1) Q W → Q' v H1) : Aft G RL' ρ H r Q' W := by
  induction r with
  | ok d S => exact fun ρ1 H1 v le rp rl => f ρ1 H1 v d S le rp rl (Aft.le (r := k d S) h le)
  | exc x S => exact h
  | stuck => exact h
  | pick t g ih => exact fun r hr => ih r (h r hr)
theorem Aft.ok {d : α} {S : Sto} {Q : β → Hp → Prop} {W : XK} {v : β} (h : Aft G RL ρ H (.ok d S) Q W) (r : Rep G ρ S H) (rl : RL ρ H d v) : Q v H := h ρ H v Le.refl r rl
/-- a bind in which nothing may be raised -/
def Res.bindX (r : Res α') (k : α' → Sto → Res α) : Res α := match r with
  | .ok a S => k a S
  | .exc _ _ => .stuck
  | .stuck => .stuck
  | .pick t f => .pick t fun r => (f r).bindX k
theorem Aft.bindX {r : Res α'} {k : α' → Sto → Res α} {Q : β → Hp → Prop} {W W' : XK} (h : Aft G RL ρ H (r.bindX k) Q W) {Q' : β' → Hp → Prop}
    (f : ∀ ρ1 H1 v d S1, Le G ρ H ρ1 H1 → Rep G ρ1 S1 H1 → RL' ρ1 H1 d v → Aft G RL ρ1 H1 (k d S1) Q W → Q' v H1) : Aft G RL' ρ H r Q' W' := by
  induction r with
  | ok d S => exact fun ρ1 H1 v le rp rl => f ρ1 H1 v d S le rp rl (Aft.le (r := k d S) h le)
  | exc x S => exact h.elim
  | stuck => exact h
  | pick t g ih => exact fun r hr => ih r (h r hr)
/-- all ends -/
def Res.all (p : α → Sto → Bool) : Res α → Bool
  | .ok a S => p a S
  | .exc _ _ => false
  | .stuck => false
  | .pick t f => (List.range t).all fun r => (f r).all p
theorem Res.all_aft {p : α → Sto → Bool} {r : Res α} {Q : β → Hp → Prop} {W : XK} (h : r.all p = true) (f : ∀ d S, p d S = true → ∀ ρ' H' v, Le G ρ H ρ' H' → Rep G ρ' S H' → RL ρ' H' d v → Q v H') : Aft G RL ρ H r Q W := by
  induction r with
  | ok d S => exact f d S h
  | exc x S => cases h
  | stuck => cases h
  | pick t g ih =>
    intro r hr
    simp only [Res.all, List.all_eq_true, List.mem_range] at h
    exact ih r (h r hr)
end
end Y

/-! Y2: judgements, expressions. -/
namespace Y
open PySem PySem.Spec PyProof.Rows L2

def RelSt (G : Glo) (ρ : Rho) (H : Hp) (sd : SD) (σ : L2.St) : Prop := sd.length = σ.length ∧ RelSl G ρ H sd σ
theorem RelSt.mono {G : Glo} {ρ ρ' : Rho} {H H' : Hp} {sd : SD} {σ : L2.St} (h : RelSt G ρ H sd σ) (le : Le G ρ H ρ' H') : RelSt G ρ' H' sd σ := ⟨h.1, RelSl.mono le h.2⟩
theorem RelSt.set {G : Glo} {ρ : Rho} {H : Hp} {sd : SD} {σ : L2.St} {d : D} {v : V} (h : RelSt G ρ H sd σ) (r : RelD G ρ H d v) (i : Nat) : RelSt G ρ H (sd.set i (some d)) (σ.set i (some v)) := by
  refine ⟨by simp only [List.length_set]; exact h.1, fun j e hj => ?_⟩
  by_cases hij : i = j
  · subst hij
    have hl : i < sd.length := by
      obtain ⟨z, _⟩ := List.getElem?_eq_some_iff.mp hj
      simpa using z
    rw [List.getElem?_set_self hl] at hj
    cases hj
    exact ⟨v, List.getElem?_set_self (by rw [← h.1]; exact hl), r⟩
  · rw [List.getElem?_set_ne hij] at hj ⊢
    exact h.2 j e hj

structure XOk (G : Glo) (X : Cx) (W : WX) : Prop where
  tk : Takes X W
  own : PassesOwn (model X.prog X.w) X.A X.env X.xe
  kk : G.K = X.K

def te (G : Glo) (m : ME) (W : WX) : TE := fun σ H Q => ∃ sd S ρ, RelSt G ρ H sd σ ∧ Rep G ρ S H ∧ Aft G (RelD G) ρ H (m sd S) Q (fun c d H' => W c d σ H')
def RelB (ρ : Rho) (H : Hp) (a b : Bool) : Prop := a = b
def tt (G : Glo) (m : MT) (W : WX) : TT := fun σ H Q => ∃ sd S ρ, RelSt G ρ H sd σ ∧ Rep G ρ S H ∧ Aft G RelB ρ H (m sd S) Q (fun c d H' => W c d σ H')
def ta (G : Glo) (m : MA) (W : WX) : TA := fun σ H Q => ∃ sd S ρ, RelSt G ρ H sd σ ∧ Rep G ρ S H ∧ Aft G (RelDs G) ρ H (m sd S) Q (fun c d H' => W c d σ H')

def PEm (G : Glo) (X : Cx) (e : Expr) (m : ME) : Prop := ∀ W, XOk G X W → PE X e (te G m W)
def PTm (G : Glo) (X : Cx) (e : Expr) (m : MT) : Prop := ∀ W, XOk G X W → PT X e (tt G m W)
def PAm (G : Glo) (X : Cx) (es : List Expr) (m : MA) : Prop := ∀ W, XOk G X W → PA X es (ta G m W)
/-- operations on values -/
def OpM (G : Glo) (X : Cx) (F : Value → Value → Sem Value) (f : D → D → Sto → Res D) : Prop := ∀ W, XOk G X W →
  ∀ (pins : List (Addr × Obj)) (s : Shared) (σ : L2.St) (H : Hp) (ρ : Rho) (S : Sto) (x y : V) (v u : Value) (d e : D) (Q : VK), Inv X pins σ H s → RelV x v → RelV y u → Rep G ρ S H → RelD G ρ H d x → RelD G ρ H e y →
    Aft G (RelD G) ρ H (f d e S) Q (fun c a H' => W c a σ H') → wpAny (model X.prog X.w) X.A (F v u) (EP X pins σ Q) X.xe s
def UnM (G : Glo) (X : Cx) (F : Value → Sem Value) (f : D → Sto → Res D) : Prop := ∀ W, XOk G X W →
  ∀ (pins : List (Addr × Obj)) (s : Shared) (σ : L2.St) (H : Hp) (ρ : Rho) (S : Sto) (x : V) (v : Value) (d : D) (Q : VK), Inv X pins σ H s → RelV x v → Rep G ρ S H → RelD G ρ H d x →
    Aft G (RelD G) ρ H (f d S) Q (fun c a H' => W c a σ H') → wpAny (model X.prog X.w) X.A (F v) (EP X pins σ Q) X.xe s
def CallM (G : Glo) (X : Cx) (F : Value) (f : MF) : Prop := ∀ W, XOk G X W →
  ∀ (pins : List (Addr × Obj)) (s : Shared) (σ : L2.St) (H : Hp) (ρ : Rho) (S : Sto) (xs : List V) (us : List Value) (ds : List D) (Q : VK), Inv X pins σ H s → Vals xs us → Rep G ρ S H → RelDs G ρ H ds xs →
    Aft G (RelD G) ρ H (f ds S) Q (fun c a H' => W c a σ H') → wpAny (model X.prog X.w) X.A (call F us) (EP X pins σ Q) X.xe s

theorem PE_imp {X : Cx} {e : Expr} {t t' : TE} (h : PE X e t) (f : ∀ σ H Q, t' σ H Q → t σ H Q) : PE X e t' := ⟨fun pins s σ H Q I q => h.run pins s σ H Q I (f σ H Q q)⟩
theorem PT_imp {X : Cx} {e : Expr} {t t' : TT} (h : PT X e t) (f : ∀ σ H Q, t' σ H Q → t σ H Q) : PT X e t' := ⟨fun pins s σ H Q I q => h.run pins s σ H Q I (f σ H Q q)⟩
theorem PA_imp {X : Cx} {e : List Expr} {t t' : TA} (h : PA X e t) (f : ∀ σ H Q, t' σ H Q → t σ H Q) : PA X e t' := ⟨fun pos pins s σ H Q I q => h.run pos pins s σ H Q I (f σ H Q q)⟩
theorem PS_imp {X : Cx} {e : Stmt} {t t' : TS} (h : PS X e t) (f : ∀ D σ H, t' D σ H → t D σ H) : PS X e t' := ⟨fun pins s σ H D I q => h.run pins s σ H D I (f D σ H q)⟩
theorem PSs_imp {X : Cx} {e : List Stmt} {t t' : TS} (h : PSs X e t) (f : ∀ D σ H, t' D σ H → t D σ H) : PSs X e t' := ⟨fun pins s σ H D I q => h.run pins s σ H D I (f D σ H q)⟩

/-! ### mirrors -/
def mVar (i : Nat) : ME := fun sd S => match sd[i]? with
  | some (some d) => .ok d S
  | _ => .stuck
def mC (d : D) : ME := fun _ S => .ok d S
def mBin (f : D → D → Sto → Res D) (a b : ME) : ME := fun sd S => (a sd S).bind fun x S1 => (b sd S1).bind fun y S2 => f x y S2
def mUn (f : D → Sto → Res D) (a : ME) : ME := fun sd S => (a sd S).bind f
def mNil : MA := fun _ S => .ok [] S
def mCons (a : ME) (r : MA) : MA := fun sd S => (a sd S).bind fun x S1 => (r sd S1).bind fun xs S2 => .ok (x :: xs) S2
def mTup (a : MA) : ME := fun sd S => (a sd S).bind fun l S1 => if l.length ≤ 16777216 then .ok (.tup l) S1 else .stuck
def mLst (a : MA) : ME := fun sd S => (a sd S).bind fun l S1 => if l.length ≤ 16777216 then .ok (.loc S1.n) (S1.new (.lst l)) else .stuck
def mCall (f : MF) (a : MA) : ME := fun sd S => (a sd S).bind f
def mIf (t : MT) (a b : ME) : ME := fun sd S => (t sd S).bind fun k S1 => if k then a sd S1 else b sd S1
/-- tests -/
def tAndM (t u : MT) : MT := fun sd S => (t sd S).bind fun k S1 => if k then u sd S1 else .ok false S1
def tOrM (t u : MT) : MT := fun sd S => (t sd S).bind fun k S1 => if k then .ok true S1 else u sd S1
def tNotM (t : MT) : MT := fun sd S => (t sd S).bind fun k S1 => .ok (!k) S1
def truD : D → Sto → Res Bool
  | .non, S => .ok false S
  | .bl b, S => .ok b S
  | .int i, S => .ok (i != 0) S
  | .str x, S => if x.length ≤ 16777216 then .ok (!x.isEmpty) S else .stuck
  | .tup l, S => .ok (!l.isEmpty) S
  | .loc n, S => match S.get n with
    | some (.lst l) => .ok (!l.isEmpty) S
    | _ => .stuck
  | _, _ => .stuck
def mTru (m : ME) : MT := fun sd S => (m sd S).bind truD
/-- and, or, not as values -/
def mAndV (a b : ME) : ME := fun sd S => (a sd S).bind fun x S1 => match x with
  | .bl true => b sd S1
  | .bl false => .ok (.bl false) S1
  | _ => .stuck
def mOrV (a b : ME) : ME := fun sd S => (a sd S).bind fun x S1 => match x with
  | .bl true => .ok (.bl true) S1
  | .bl false => b sd S1
  | _ => .stuck
def mNotV (a : ME) : ME := fun sd S => (a sd S).bind fun x S1 => match x with
  | .bl k => .ok (.bl (!k)) S1
  | _ => .stuck

section
variable {G : Glo} {X : Cx}
/-! ### rules -/
theorem pm_var {i : Nat} {x : Str} {pos : Pos} (hN : X.N[i]? = some x := by rfl) (hv : Vis X.env.scope x := by first | exact Or.inl rfl | exact Or.inr (Or.inl rfl) | exact Or.inr (Or.inr rfl)) (hd : (x == ("__debug__" : Str)) = false := by decide)
    (hcd : (x == ("__classdict__" : Str)) = false := by decide) : PEm G X (.Name x pos) (mVar i) := fun W ok => PE_imp (pe_var hN hv hd hcd) fun σ H Q ⟨sd, S, ρ, hs, hr, h⟩ => by
  unfold mVar at h
  split at h
  · rename_i d e
    obtain ⟨v, e1, r⟩ := hs.2 i d e
    exact ⟨v, e1, h.ok hr r⟩
  · exact h.elim
theorem pm_c {e : Expr} {d : D} {v : V} (h : PE X e (tC v)) (r : ∀ ρ H, RelD G ρ H d v) : PEm G X e (mC d) := fun W ok => PE_imp h fun σ H Q ⟨sd, S, ρ, hs, hr, h⟩ => h.ok hr (r ρ H)
theorem pm_int {i : Int} {j pos} : PEm G X (.Constant (.int i) j pos) (mC (.int i)) := pm_c pe_int fun _ _ => by simp only [RelD]
theorem pm_bl {b : Bool} {j pos} : PEm G X (.Constant (.bool b) j pos) (mC (.bl b)) := pm_c pe_bl fun _ _ => by simp only [RelD]
theorem pm_non {j pos} : PEm G X (.Constant .none j pos) (mC .non) := pm_c pe_non fun _ _ => by simp only [RelD]
theorem pm_str {x : Str} {l : List Nat} {j pos} (h : x = ⟨l.toArray⟩) : PEm G X (.Constant (.str x) j pos) (mC (.str l)) := pm_c pe_str fun _ _ => by simp only [RelD, h]
/-- a module's constant, a class -/
theorem pm_glob {x : Str} {d : D} {u : Value} {v : V} {pos : Pos} (hg : Gl X x) (hm : X.mg x = some u) (r : RelV v u) (rd : ∀ ρ H, RelD G ρ H d v) (hd : (x == ("__debug__" : Str)) = false := by decide) : PEm G X (.Name x pos) (mC d) := pm_c (pe_glob hg hm r hd) rd

theorem te_bin {ma mb : ME} {f : D → D → Sto → Res D} {W : WX} {σ : L2.St} {H : Hp} {Q : VK} {R : V → V → Hp → Prop} (h : te G (mBin f ma mb) W σ H Q)
    (k : ∀ ρ H2 S d e x y, Rep G ρ S H2 → RelD G ρ H2 d x → RelD G ρ H2 e y → Aft G (RelD G) ρ H2 (f d e S) Q (fun c a H' => W c a σ H') → R x y H2) : te G ma W σ H fun x H1 => te G mb W σ H1 fun y H2 => R x y H2 := by
  obtain ⟨sd, S, ρ, hs, hr, h⟩ := h
  refine ⟨sd, S, ρ, hs, hr, Aft.bind h fun ρ1 H1 x d S1 le1 r1 rd h1 => ⟨sd, S1, ρ1, hs.mono le1, r1, Aft.bind h1 fun ρ2 H2 y e S2 le2 r2 re h2 => ?_⟩⟩
  exact k ρ2 H2 S2 d e x y r2 (rd.mono le2) re h2
theorem pm_bin {op : Operator} {f : D → D → Sto → Res D} {a b : Expr} {ma mb : ME} {pos : Pos} (ho : OpM G X (binaryOp op) f) (ha : PEm G X a ma) (hb : PEm G X b mb) : PEm G X (.BinOp a op b pos) (mBin f ma mb) := fun W ok => by
  refine ⟨fun pins s σ H Q I h => ?_⟩
  refine wpAny_BinOp (binT (ha W ok) (hb W ok) (R := fun x y H2 => ∃ ρ S d e, Rep G ρ S H2 ∧ RelD G ρ H2 d x ∧ RelD G ρ H2 e y ∧ Aft G (RelD G) ρ H2 (f d e S) Q (fun c a H' => W c a σ H')) I (te_bin h fun ρ H2 S d e x y a b c q => ⟨ρ, S, d, e, a, b, c, q⟩) fun v u s2 x y H2 I2 rx ry q => ?_)
  obtain ⟨ρ, S, d, e, a, b, c, q⟩ := q
  exact ho W ok pins s2 σ H2 ρ S x y v u d e Q I2 rx ry a b c q
theorem pm_cmp {op : CmpOp} {f : D → D → Sto → Res D} {a b : Expr} {ma mb : ME} {pos : Pos} (ho : OpM G X (compareOp op) f) (ha : PEm G X a ma) (hb : PEm G X b mb) (hm : behindInMarks op b = false) : PEm G X (.Compare a [op] [b] pos) (mBin f ma mb) := fun W ok => by
  refine ⟨fun pins s σ H Q I h => ?_⟩
  refine wpAny_Compare1 (binT (ha W ok) (hb W ok) (R := fun x y H2 => ∃ ρ S d e, Rep G ρ S H2 ∧ RelD G ρ H2 d x ∧ RelD G ρ H2 e y ∧ Aft G (RelD G) ρ H2 (f d e S) Q (fun c a H' => W c a σ H')) I (te_bin h fun ρ H2 S d e x y a b c q => ⟨ρ, S, d, e, a, b, c, q⟩) fun v u s2 x y H2 I2 rx ry q => ?_) hm
  obtain ⟨ρ, S, d, e, a, b, c, q⟩ := q
  exact ho W ok pins s2 σ H2 ρ S x y v u d e Q I2 rx ry a b c q
/-- a comparison as a test: its answer is a bool -/
def mTst (f : D → D → Sto → Res D) (a b : ME) : MT := fun sd S => (mBin f a b sd S).bind fun d S1 => match d with
  | .bl k => .ok k S1
  | _ => .stuck
theorem aft_bl {ρ : Rho} {H : Hp} {r : Res D} {Q : Bool → Hp → Prop} {W : XK} (h : Aft G RelB ρ H (r.bind fun d S1 => match d with | .bl k => Res.ok k S1 | _ => .stuck) Q W) :
    Aft G (RelD G) ρ H r (fun z H3 => ∃ k, z = .bl k ∧ Q k H3) W := by
  refine Aft.bind h fun ρ1 H1 v d S1 le r1 rd h1 => ?_
  cases d with
  | bl k =>
    simp only [RelD] at rd
    exact ⟨k, rd, h1.ok r1 rfl⟩
  | _ => exact h1.elim
theorem pt_cmp {op : CmpOp} {f : D → D → Sto → Res D} {a b : Expr} {ma mb : ME} {pos : Pos} (ho : OpM G X (compareOp op) f) (ha : PEm G X a ma) (hb : PEm G X b mb) (hm : behindInMarks op b = false) : PTm G X (.Compare a [op] [b] pos) (mTst f ma mb) := fun W ok => by
  refine ⟨fun pins s σ H Q I h => ?_⟩
  obtain ⟨sd, S, ρ, hs, hr, h⟩ := h
  have h' : te G (mBin f ma mb) W σ H (fun z H3 => ∃ k, z = .bl k ∧ Q k H3) := ⟨sd, S, ρ, hs, hr, aft_bl h⟩
  have t := te_bin (R := fun x y H2 => ∃ ρ S d e, Rep G ρ S H2 ∧ RelD G ρ H2 d x ∧ RelD G ρ H2 e y ∧ Aft G (RelD G) ρ H2 (f d e S) (fun z H3 => ∃ k, z = .bl k ∧ Q k H3) (fun c a H' => W c a σ H')) h' fun ρ H2 S d e x y a b c q => ⟨ρ, S, d, e, a, b, c, q⟩
  refine wpAny_isTrue_Compare1 (thn ((ha W ok).run pins s σ H _ I t) fun v s1 ⟨x, H1, I1, r1, q1⟩ => thn ((hb W ok).run pins s1 σ H1 _ I1 q1) fun u s2 ⟨y, H2, I2, r2, q2⟩ => ?_) hm
  obtain ⟨ρ, S, d, e, a, b, c, q⟩ := q2
  refine thn (ho W ok pins s2 σ H2 ρ S x y v u d e _ I2 r1 r2 a b c q) fun c s3 ⟨z, H3, I3, r3, k, e, q3⟩ => ?_
  subst e
  cases r3
  exact wpAny_truthy_bool ⟨H3, I3, q3⟩
theorem pm_un {op : UnaryOp} {f : D → Sto → Res D} {a : Expr} {ma : ME} {pos : Pos} (ho : UnM G X (unaryOp op) f) (ha : PEm G X a ma) : PEm G X (.UnaryOp op a pos) (mUn f ma) := fun W ok => by
  refine ⟨fun pins s σ H Q I h => ?_⟩
  obtain ⟨sd, S, ρ, hs, hr, h⟩ := h
  have t : te G ma W σ H (fun x H1 => ∃ ρ S d, Rep G ρ S H1 ∧ RelD G ρ H1 d x ∧ Aft G (RelD G) ρ H1 (f d S) Q (fun c a H' => W c a σ H')) := ⟨sd, S, ρ, hs, hr, Aft.bind h fun ρ1 H1 x d S1 le1 r1 rd h1 => ⟨ρ1, S1, d, r1, rd, h1⟩⟩
  refine UnaryOp_ (thn ((ha W ok).run pins s σ H _ I t) fun v s1 ⟨x, H1, I1, r1, q1⟩ => ?_)
  obtain ⟨ρ1, S1, d, a, b, q⟩ := q1
  exact ho W ok pins s1 σ H1 ρ1 S1 x v d Q I1 r1 a b q
/-! ### arguments, displays -/
theorem pa_nilm : PAm G X [] mNil := fun W ok => PA_imp pa_nil fun σ H Q ⟨sd, S, ρ, hs, hr, h⟩ => h.ok hr RelDs.nil
theorem pa_consm {e : Expr} {es : List Expr} {m : ME} {r : MA} (ha : PEm G X e m) (hr : PAm G X es r) (hs : starEach (e :: es) X.env = (false, eval e X.env) :: starEach es X.env := by rfl) : PAm G X (e :: es) (mCons m r) := fun W ok =>
  PA_imp (pa_cons (ha W ok) (hr W ok) hs) fun σ H Q ⟨sd, S, ρ, hs, hr, h⟩ => ⟨sd, S, ρ, hs, hr, Aft.bind h fun ρ1 H1 x d S1 le1 r1 rd h1 => ⟨sd, S1, ρ1, hs.mono le1, r1, Aft.bind h1 fun ρ2 H2 y ds S2 le2 r2 re h2 => h2.ok r2 (.cons (rd.mono le2) re)⟩⟩
theorem pm_tup {es : List Expr} {m : MA} {x1} {pos : Pos} (ha : PAm G X es m) : PEm G X (.Tuple es x1 pos) (mTup m) := fun W ok => PE_imp (pe_tup (ha W ok)) fun σ H Q ⟨sd, S, ρ, hs, hr, h⟩ => by
  refine ⟨sd, S, ρ, hs, hr, Aft.bind h fun ρ1 H1 xs ds S1 le1 r1 rd h1 => ?_⟩
  split at h1
  · rename_i hl
    refine ⟨by rw [← rd.length, sizeLine_eq]; exact hl, fun p hp => ?_⟩
    have s := same_new (o := .tup xs) hp
    exact h1 ρ1 _ _ (Le.same s) (r1.same s) (RelD.tup' upd_same (rd.mono (Le.same s)))
  · exact h1.elim
theorem pm_lst {es : List Expr} {m : MA} {pos : Pos} (ha : PAm G X es m) : PEm G X (.List es pos) (mLst m) := fun W ok => PE_imp (pe_lst (ha W ok)) fun σ H Q ⟨sd, S, ρ, hs, hr, h⟩ => by
  refine ⟨sd, S, ρ, hs, hr, Aft.bind h fun ρ1 H1 xs ds S1 le1 r1 rd h1 => ?_⟩
  split at h1
  · rename_i hl
    refine ⟨by rw [← rd.length, sizeLine_eq]; exact hl, fun p hp => ?_⟩
    have le : Le G ρ1 H1 (ext ρ1 S1.n p) (upd H1 p (.lst xs)) := (Le.ext (r1.top _ (Nat.le_refl _))).trans (Le.same (same_new hp))
    exact h1 _ _ _ le (r1.new hp ⟨xs, upd_same, rd.mono le⟩) (RelD.loc' ext_same)
  · exact h1.elim
/-! ### tests -/
theorem truD_ok {W : WX} {pins : List (Addr × Obj)} {s : Shared} {σ : L2.St} {H : Hp} {ρ : Rho} {S : Sto} {x : V} {v : Value} {d : D} {Q : Bool → Hp → Prop} (kk : G.K = X.K) (I : Inv X pins σ H s) (rx : RelV x v) (hr : Rep G ρ S H) (rd : RelD G ρ H d x)
    (h : Aft G RelB ρ H (truD d S) Q (fun c a H' => W c a σ H')) : ∃ k, TruV X.K x H k ∧ Q k H := by
  cases d with
  | non =>
    simp only [RelD] at rd
    subst rd
    exact ⟨false, rfl, h.ok hr rfl⟩
  | bl b =>
    simp only [RelD] at rd
    subst rd
    exact ⟨b, rfl, h.ok hr rfl⟩
  | int i =>
    simp only [RelD] at rd
    subst rd
    exact ⟨_, rfl, h.ok hr rfl⟩
  | str l =>
    simp only [RelD] at rd
    subst rd
    simp only [truD] at h
    split at h
    · rename_i hl
      have e : (⟨l.toArray⟩ : Str).length = l.length := by show l.toArray.size = l.length; simp
      refine ⟨!l.isEmpty, ⟨by rw [e, sizeLine_eq]; exact hl, ?_⟩, h.ok hr rfl⟩
      rw [e]
      cases l with
      | nil => rfl
      | cons a r =>
        show true = ((((r.length + 1 : Nat)) : Int) != 0)
        have z : ((((r.length + 1 : Nat)) : Int) != 0) = true := by
          simp only [bne_iff_ne, ne_eq]
          omega
        rw [z]
    · exact h.elim
  | tup l =>
    simp only [RelD] at rd
    obtain ⟨a, xs, rfl, hs, ht⟩ := rd
    refine ⟨!l.isEmpty, .inr (.inl ⟨xs, (.inl (.inl hs)), ?_⟩), h.ok hr rfl⟩
    have e := ht.length
    cases l <;> cases xs <;> first | rfl | (simp at e)
  | loc n =>
    simp only [truD] at h
    split at h
    · rename_i l e
      obtain ⟨a, xs, rfl, e1, hH, ht⟩ := hr.list e rd
      refine ⟨!l.isEmpty, .inl ⟨xs, .inl (.inl hH), ?_⟩, h.ok hr rfl⟩
      have e := ht.length
      cases l <;> cases xs <;> first | rfl | (simp at e)
    · exact h.elim
  | cls n => exact h.elim
  | scr l => exact h.elim
theorem pt_tru {a : Expr} {m : ME} (ha : PEm G X a m) (he : ∀ whole, isTrue a X.env whole = (do let v ← whole; standAt a.pos; holding [v] (truthy v)) := by intro _; rfl) : PTm G X a (mTru m) := fun W ok => by
  refine ⟨fun pins s σ H Q I h => ?_⟩
  obtain ⟨sd, S, ρ, hs, hr, h⟩ := h
  have t : te G m W σ H (fun x H1 => ∃ ρ S d, Rep G ρ S H1 ∧ RelD G ρ H1 d x ∧ Aft G RelB ρ H1 (truD d S) Q (fun c a H' => W c a σ H')) := ⟨sd, S, ρ, hs, hr, Aft.bind h fun ρ1 H1 x d S1 le1 r1 rd h1 => ⟨ρ1, S1, d, r1, rd, h1⟩⟩
  refine isTrue_plain (thn ((ha W ok).run pins s σ H _ I t) fun v s1 ⟨x, H1, I1, r1, q1⟩ => ?_) (he _)
  obtain ⟨ρ1, S1, d, a, b, q⟩ := q1
  exact tru_ok pins s1 σ H1 x v Q I1 r1 (truD_ok ok.kk I1 r1 a b q)
theorem pt_notm {a : Expr} {m : MT} {pos : Pos} (ha : PTm G X a m) : PTm G X (.UnaryOp .Not a pos) (tNotM m) := fun W ok => PT_imp (pt_not (ha W ok)) fun σ H Q ⟨sd, S, ρ, hs, hr, h⟩ =>
  ⟨sd, S, ρ, hs, hr, Aft.bind h fun ρ1 H1 x d S1 le1 r1 rd h1 => by
    have e : d = x := rd
    subst e
    exact h1.ok r1 rfl⟩
def PWm (G : Glo) (X : Cx) (e : Expr) (m : MT) : Prop := ∀ W, XOk G X W → PW X e (tt G m W)
theorem PW_imp {X : Cx} {e : Expr} {t t' : TT} (h : PW X e t) (f : ∀ σ H Q, t' σ H Q → t σ H Q) : PW X e t' := ⟨fun wh pins s σ H Q I q => h.run wh pins s σ H Q I (f σ H Q q)⟩
theorem pt_w {e : Expr} {m : MT} (h : PWm G X e m) : PTm G X e m := fun W ok => (h W ok).pt
theorem pw_and1m {a : Expr} {m : MT} {pos : Pos} (ha : PTm G X a m) : PWm G X (.BoolOp .And [a] pos) m := fun W ok => pw_and1 (ha W ok)
theorem pw_or1m {a : Expr} {m : MT} {pos : Pos} (ha : PTm G X a m) : PWm G X (.BoolOp .Or [a] pos) m := fun W ok => pw_or1 (ha W ok)
theorem pw_andm {a b : Expr} {rest : List Expr} {m n : MT} {pos : Pos} (ha : PTm G X a m) (hb : PWm G X (.BoolOp .And (b :: rest) pos) n) : PWm G X (.BoolOp .And (a :: b :: rest) pos) (tAndM m n) := fun W ok => PW_imp (pw_and (ha W ok) (hb W ok)) fun σ H Q ⟨sd, S, ρ, hs, hr, h⟩ =>
  ⟨sd, S, ρ, hs, hr, Aft.bind h fun ρ1 H1 x d S1 le1 r1 rd h1 => by
    have e : d = x := rd
    subst e
    cases d with
    | true => exact ⟨sd, S1, ρ1, hs.mono le1, r1, h1⟩
    | false => exact h1.ok r1 rfl⟩
theorem pw_orm {a b : Expr} {rest : List Expr} {m n : MT} {pos : Pos} (ha : PTm G X a m) (hb : PWm G X (.BoolOp .Or (b :: rest) pos) n) : PWm G X (.BoolOp .Or (a :: b :: rest) pos) (tOrM m n) := fun W ok => PW_imp (pw_or (ha W ok) (hb W ok)) fun σ H Q ⟨sd, S, ρ, hs, hr, h⟩ =>
  ⟨sd, S, ρ, hs, hr, Aft.bind h fun ρ1 H1 x d S1 le1 r1 rd h1 => by
    have e : d = x := rd
    subst e
    cases d with
    | true => exact h1.ok r1 rfl
    | false => exact ⟨sd, S1, ρ1, hs.mono le1, r1, h1⟩⟩
theorem pm_ifexp {c a b : Expr} {t : MT} {m n : ME} {pos : Pos} (hc : PTm G X c t) (ha : PEm G X a m) (hb : PEm G X b n) : PEm G X (.IfExp c a b pos) (mIf t m n) := fun W ok => PE_imp (pe_ifExp (hc W ok) (ha W ok) (hb W ok)) fun σ H Q ⟨sd, S, ρ, hs, hr, h⟩ =>
  ⟨sd, S, ρ, hs, hr, Aft.bind h fun ρ1 H1 x d S1 le1 r1 rd h1 => by
    have e : d = x := rd
    subst e
    cases d with
    | true => exact ⟨sd, S1, ρ1, hs.mono le1, r1, h1⟩
    | false => exact ⟨sd, S1, ρ1, hs.mono le1, r1, h1⟩⟩
theorem pm_one {op} {a : Expr} {m : ME} {pos : Pos} (h : PEm G X a m) : PEm G X (.BoolOp op [a] pos) m := fun W ok => pe_one (h W ok)
theorem pm_and {a b : Expr} {rest : List Expr} {m n : ME} {pos : Pos} (ha : PEm G X a m) (hb : PEm G X (.BoolOp .And (b :: rest) pos) n) : PEm G X (.BoolOp .And (a :: b :: rest) pos) (mAndV m n) := fun W ok => PE_imp (pe_and (ha W ok) (hb W ok)) fun σ H Q ⟨sd, S, ρ, hs, hr, h⟩ =>
  ⟨sd, S, ρ, hs, hr, Aft.bind h fun ρ1 H1 x d S1 le1 r1 rd h1 => by
    cases d with
    | bl k =>
      simp only [RelD] at rd
      refine ⟨k, rd, ?_⟩
      cases k with
      | true => exact ⟨sd, S1, ρ1, hs.mono le1, r1, h1⟩
      | false => exact h1.ok r1 (by simp only [RelD])
    | _ => exact h1.elim⟩
theorem pm_or {a b : Expr} {rest : List Expr} {m n : ME} {pos : Pos} (ha : PEm G X a m) (hb : PEm G X (.BoolOp .Or (b :: rest) pos) n) : PEm G X (.BoolOp .Or (a :: b :: rest) pos) (mOrV m n) := fun W ok => PE_imp (pe_or (ha W ok) (hb W ok)) fun σ H Q ⟨sd, S, ρ, hs, hr, h⟩ =>
  ⟨sd, S, ρ, hs, hr, Aft.bind h fun ρ1 H1 x d S1 le1 r1 rd h1 => by
    cases d with
    | bl k =>
      simp only [RelD] at rd
      refine ⟨k, rd, ?_⟩
      cases k with
      | true => exact h1.ok r1 (by simp only [RelD])
      | false => exact ⟨sd, S1, ρ1, hs.mono le1, r1, h1⟩
    | _ => exact h1.elim⟩
theorem pm_not {a : Expr} {m : ME} {pos : Pos} (ha : PEm G X a m) : PEm G X (.UnaryOp .Not a pos) (mNotV m) := fun W ok => PE_imp (pe_not (ha W ok)) fun σ H Q ⟨sd, S, ρ, hs, hr, h⟩ =>
  ⟨sd, S, ρ, hs, hr, Aft.bind h fun ρ1 H1 x d S1 le1 r1 rd h1 => by
    cases d with
    | bl k =>
      simp only [RelD] at rd
      exact ⟨k, rd, h1.ok r1 (by simp only [RelD])⟩
    | _ => exact h1.elim⟩
/-! ### calls -/
theorem pm_callB {x : Str} {id : String} {f : MF} {e : Expr} {es : List Expr} {m : MA} {p pos : Pos} (hc : CallM G X (.builtin id) f) (hg : Gl X x) (hm : X.mg x = none) (hv : bootBuiltins x = some (.builtin id)) (ha : PAm G X (e :: es) m) (hn : x ≠ "__name__" := by decide) (hdb : (x == ("__debug__" : Str)) = false := by decide)
    (he : starEach (e :: es) X.env = (false, eval e X.env) :: starEach es X.env := by rfl) (hpl : (backTo pos (starEach es X.env)).any (·.1) = false := by rfl) : PEm G X (.Call (.Name x p) (e :: es) [] pos) (mCall f m) := fun W ok => by
  refine ⟨fun pins s σ H Q I h => ?_⟩
  obtain ⟨sd, S, ρ, hs, hr, h⟩ := h
  have t : ta G m W σ H (fun xs H1 => ∃ ρ S ds, Rep G ρ S H1 ∧ RelDs G ρ H1 ds xs ∧ Aft G (RelD G) ρ H1 (f ds S) Q (fun c a H' => W c a σ H')) := ⟨sd, S, ρ, hs, hr, Aft.bind h fun ρ1 H1 x d S1 le1 r1 rd h1 => ⟨ρ1, S1, d, r1, rd, h1⟩⟩
  refine wpAny_Call_Name_kw (ld_blt I hg hm hv ?_ hn hdb)
  refine PyProof.Rows.callWith_builtin1 (thn ((ha W ok).run pos pins s σ H _ I t) fun us s1 ⟨vs, H1, I1, r1, q1⟩ => ?_) he hpl
  obtain ⟨ρ1, S1, d, a, b, q⟩ := q1
  exact hc W ok pins s1 σ H1 ρ1 S1 vs us d Q I1 r1 a b q
theorem pm_callT {x : Str} {T : String} {f : MF} {e : Expr} {es : List Expr} {m : MA} {p pos : Pos} (hc : CallM G X (.type T) f) (hg : Gl X x) (hm : X.mg x = none) (hv : bootBuiltins x = some (.type T)) (ha : PAm G X (e :: es) m) (hn : x ≠ "__name__" := by decide) (hdb : (x == ("__debug__" : Str)) = false := by decide)
    (he : starEach (e :: es) X.env = (false, eval e X.env) :: starEach es X.env := by rfl) (hpl : (backTo pos (starEach es X.env)).any (·.1) = false := by rfl) : PEm G X (.Call (.Name x p) (e :: es) [] pos) (mCall f m) := fun W ok => by
  refine ⟨fun pins s σ H Q I h => ?_⟩
  obtain ⟨sd, S, ρ, hs, hr, h⟩ := h
  have t : ta G m W σ H (fun xs H1 => ∃ ρ S ds, Rep G ρ S H1 ∧ RelDs G ρ H1 ds xs ∧ Aft G (RelD G) ρ H1 (f ds S) Q (fun c a H' => W c a σ H')) := ⟨sd, S, ρ, hs, hr, Aft.bind h fun ρ1 H1 x d S1 le1 r1 rd h1 => ⟨ρ1, S1, d, r1, rd, h1⟩⟩
  refine wpAny_Call_Name_kw (ld_blt I hg hm hv ?_ hn hdb)
  refine PyProof.Rows.callWith_type1 (thn ((ha W ok).run pos pins s σ H _ I t) fun us s1 ⟨vs, H1, I1, r1, q1⟩ => ?_) he hpl
  obtain ⟨ρ1, S1, d, a, b, q⟩ := q1
  exact hc W ok pins s1 σ H1 ρ1 S1 vs us d Q I1 r1 a b q
/-- a def of our own, called by its name -/
theorem pm_call {x : Str} {g : Addr} {f : MF} {e : Expr} {es : List Expr} {m : MA} {p pos : Pos} (hc : CallM G X (.ref g) f) (hg : Gl X x) (hm : X.mg x = some (.ref g)) (hk : PySem.W.keepIn X.K (.ref g) = true) (ha : PAm G X (e :: es) m) (hdb : (x == ("__debug__" : Str)) = false := by decide)
    (he : starEach (e :: es) X.env = (false, eval e X.env) :: starEach es X.env := by rfl) (hpl : (backTo pos (starEach es X.env)).any (·.1) = false := by rfl) : PEm G X (.Call (.Name x p) (e :: es) [] pos) (mCall f m) := fun W ok => by
  refine ⟨fun pins s σ H Q I h => ?_⟩
  obtain ⟨sd, S, ρ, hs, hr, h⟩ := h
  have t : ta G m W σ H (fun xs H1 => ∃ ρ S ds, Rep G ρ S H1 ∧ RelDs G ρ H1 ds xs ∧ Aft G (RelD G) ρ H1 (f ds S) Q (fun c a H' => W c a σ H')) := ⟨sd, S, ρ, hs, hr, Aft.bind h fun ρ1 H1 x d S1 le1 r1 rd h1 => ⟨ρ1, S1, d, r1, rd, h1⟩⟩
  refine wpAny_Call_Name_kw (ld_glob I hg hm ?_ hdb)
  refine PySem.W.callWith_K (h₀ := X.base) I.ok.mod.kin hk (thn ((ha W ok).run pos pins s σ H _ I t) fun us s1 ⟨vs, H1, I1, r1, q1⟩ => ⟨I1.kIn, ?_⟩) he hpl
  obtain ⟨ρ1, S1, d, a, b, q⟩ := q1
  exact hc W ok pins s1 σ H1 ρ1 S1 vs us d Q I1 r1 a b q
theorem pm_call0 {x : Str} {g : Addr} {f : MF} {p pos : Pos} (hc : CallM G X (.ref g) f) (hg : Gl X x) (hm : X.mg x = some (.ref g)) (hk : PySem.W.keepIn X.K (.ref g) = true) (hdb : (x == ("__debug__" : Str)) = false := by decide) :
    PEm G X (.Call (.Name x p) [] [] pos) (mCall f mNil) := fun W ok => by
  refine ⟨fun pins s σ H Q I h => ?_⟩
  obtain ⟨sd, S, ρ, hs, hr, h⟩ := h
  refine wpAny_Call_Name_kw (ld_glob I hg hm ?_ hdb)
  exact PySem.W.callWith_K0 I.kIn hk (hc W ok pins s σ H ρ S [] [] [] Q I .nil hr RelDs.nil h)
end
end Y

/-! Y3: statements, targets, loops, comprehensions. -/
namespace Y
open PySem PySem.Spec PyProof.Rows L2

inductive SRes where
  | nx (sd : SD) (S : Sto)
  | rt (d : D) (S : Sto)
  | bk (sd : SD) (S : Sto)
  | ct (sd : SD) (S : Sto)
  | ex (x : Ex) (sd : SD) (S : Sto)
  | stuck
  | pick (t : Nat) (f : Nat → SRes)
abbrev MS := SD → Sto → SRes
def AftS (G : Glo) (ρ : Rho) (H : Hp) (r : SRes) (E : Ends) (W : WX) : Prop := match r with
  | .nx sd S => ∀ ρ' H' σ', Le G ρ H ρ' H' → Rep G ρ' S H' → RelSt G ρ' H' sd σ' → E.nx σ' H'
  | .rt d S => ∀ ρ' H' v, Le G ρ H ρ' H' → Rep G ρ' S H' → RelD G ρ' H' d v → E.rt v H'
  | .bk sd S => ∀ ρ' H' σ', Le G ρ H ρ' H' → Rep G ρ' S H' → RelSt G ρ' H' sd σ' → E.bk σ' H'
  | .ct sd S => ∀ ρ' H' σ', Le G ρ H ρ' H' → Rep G ρ' S H' → RelSt G ρ' H' sd σ' → E.ct σ' H'
  | .ex x sd S => ∀ ρ' H' σ' cls dd, Le G ρ H ρ' H' → Rep G ρ' S H' → RelSt G ρ' H' sd σ' → RelX G ρ' H' x cls dd → W cls dd σ' H'
  | .stuck => False
  | .pick t f => ∀ r, r < t → AftS G ρ H (f r) E W
theorem AftS.le {G : Glo} {ρ ρ' : Rho} {H H' : Hp} {r : SRes} {E : Ends} {W : WX} (h : AftS G ρ H r E W) (le : Le G ρ H ρ' H') : AftS G ρ' H' r E W := by
  induction r with
  | nx sd S => exact fun ρ2 H2 σ2 l1 r1 r2 => h ρ2 H2 σ2 (le.trans l1) r1 r2
  | rt d S => exact fun ρ2 H2 σ2 l1 r1 r2 => h ρ2 H2 σ2 (le.trans l1) r1 r2
  | bk sd S => exact fun ρ2 H2 σ2 l1 r1 r2 => h ρ2 H2 σ2 (le.trans l1) r1 r2
  | ct sd S => exact fun ρ2 H2 σ2 l1 r1 r2 => h ρ2 H2 σ2 (le.trans l1) r1 r2
  | ex x sd S => exact fun ρ2 H2 σ2 c d l1 r1 r2 r3 => h ρ2 H2 σ2 c d (le.trans l1) r1 r2 r3
  | stuck => exact h
  | pick t f ih => exact fun r hr => ih r (h r hr)
def bindS {α : Type} (r : Res α) (sd : SD) (k : α → Sto → SRes) : SRes := match r with
  | .ok a S => k a S
  | .exc x S => .ex x sd S
  | .stuck => .stuck
  | .pick t f => .pick t fun r => bindS (f r) sd k
theorem AftS.bind {G : Glo} {α β : Type} {RL : Rho → Hp → α → β → Prop} {ρ : Rho} {H : Hp} {r : Res α} {sd : SD} {σ : L2.St} {k : α → Sto → SRes} {E : Ends} {W : WX} (h : AftS G ρ H (bindS r sd k) E W) (hs : RelSt G ρ H sd σ) {Q : β → Hp → Prop}
    (f : ∀ ρ1 H1 v d S1, Le G ρ H ρ1 H1 → Rep G ρ1 S1 H1 → RL ρ1 H1 d v → AftS G ρ1 H1 (k d S1) E W → Q v H1) : Aft G RL ρ H r Q (fun c d H' => W c d σ H') := by
  induction r with
  | ok d S => exact fun ρ1 H1 v le rp rl => f ρ1 H1 v d S le rp rl (AftS.le (r := k d S) h le)
  | exc x S => exact fun ρ1 H1 c d le rp rx => h ρ1 H1 σ c d le rp (hs.mono le) rx
  | stuck => exact h
  | pick t g ih => exact fun r hr => ih r (h r hr)
def ts (G : Glo) (m : MS) (W : WX) : TS := fun E σ H => ∃ sd S ρ, RelSt G ρ H sd σ ∧ Rep G ρ S H ∧ AftS G ρ H (m sd S) E W
def PSm (G : Glo) (X : Cx) (st : Stmt) (m : MS) : Prop := ∀ W, XOk G X W → PS X st (ts G m W)
def PSsm (G : Glo) (X : Cx) (st : List Stmt) (m : MS) : Prop := ∀ W, XOk G X W → PSs X st (ts G m W)

def SRes.andThen (r : SRes) (f : MS) : SRes := match r with
  | .nx sd S => f sd S
  | .pick t g => .pick t fun r => (g r).andThen f
  | .rt d S => .rt d S
  | .bk sd S => .bk sd S
  | .ct sd S => .ct sd S
  | .ex x sd S => .ex x sd S
  | .stuck => .stuck
/-- behind a turn of a loop -/
def SRes.turn (r : SRes) (f : MS) : SRes := match r with
  | .nx sd S => f sd S
  | .pick t g => .pick t fun r => (g r).turn f
  | .rt d S => .rt d S
  | .bk sd S => .nx sd S
  | .ct sd S => f sd S
  | .ex x sd S => .ex x sd S
  | .stuck => .stuck
theorem AftS.andThen {G : Glo} {ρ : Rho} {H : Hp} {r : SRes} {f : MS} {E : Ends} {W : WX} (h : AftS G ρ H (r.andThen f) E W) : AftS G ρ H r { E with nx := ts G f W E } W := by
  induction r with
  | nx sd S => exact fun ρ1 H1 σ1 le r1 s1 => ⟨sd, S, ρ1, s1, r1, AftS.le (r := f sd S) h le⟩
  | pick t g ih => exact fun r hr => ih r (h r hr)
  | _ => exact h
theorem AftS.turn {G : Glo} {ρ : Rho} {H : Hp} {r : SRes} {f : MS} {E : Ends} {W : WX} (h : AftS G ρ H (r.turn f) E W) {N : L2.St → Hp → Prop}
    (k : ∀ σ' H' sd S ρ', Le G ρ H ρ' H' → RelSt G ρ' H' sd σ' → Rep G ρ' S H' → AftS G ρ' H' (f sd S) E W → N σ' H') : AftS G ρ H r { E with nx := N, ct := N, bk := E.nx } W := by
  induction r with
  | nx sd S => exact fun ρ1 H1 σ1 le r1 s1 => k σ1 H1 sd S ρ1 le s1 r1 (AftS.le (r := f sd S) h le)
  | ct sd S => exact fun ρ1 H1 σ1 le r1 s1 => k σ1 H1 sd S ρ1 le s1 r1 (AftS.le (r := f sd S) h le)
  | pick t g ih => exact fun r hr => ih r (h r hr)
  | _ => exact h

/-! ### mirrors -/
def sSkip : MS := fun sd S => .nx sd S
def sSeq (a b : MS) : MS := fun sd S => (a sd S).andThen b
def sExpr (m : ME) : MS := fun sd S => bindS (m sd S) sd fun _ S1 => .nx sd S1
def sRet (m : ME) : MS := fun sd S => bindS (m sd S) sd fun d S1 => .rt d S1
def sRetN : MS := fun _ S => .rt .non S
def sIf (t : MT) (a b : MS) : MS := fun sd S => bindS (t sd S) sd fun k S1 => if k then a sd S1 else b sd S1
def sSet (i : Nat) (m : ME) : MS := fun sd S => bindS (m sd S) sd fun d S1 => .nx (sd.set i (some d)) S1
def sBreak : MS := fun sd S => .bk sd S
def sCont : MS := fun sd S => .ct sd S

section
variable {G : Glo} {X : Cx}
theorem pss_nilm : PSsm G X [] sSkip := fun W ok => PSs_imp pss_nil fun E σ H ⟨sd, S, ρ, hs, hr, h⟩ => h ρ H σ Le.refl hr hs
theorem pss_consm {st : Stmt} {rest : List Stmt} {a b : MS} (h1 : PSm G X st a) (h2 : PSsm G X rest b) : PSsm G X (st :: rest) (sSeq a b) := fun W ok => PSs_imp (pss_cons (h1 W ok) (h2 W ok)) fun E σ H ⟨sd, S, ρ, hs, hr, h⟩ => by
  exact ⟨sd, S, ρ, hs, hr, AftS.andThen h⟩
theorem pss_onem {st : Stmt} {a : MS} (h1 : PSm G X st a) : PSsm G X [st] a := fun W ok => pss_one (h1 W ok)
theorem ps_passm {pos : Pos} : PSm G X (.Pass pos) sSkip := fun W ok => PS_imp ps_pass fun E σ H ⟨sd, S, ρ, hs, hr, h⟩ => h ρ H σ Le.refl hr hs
theorem ps_breakm {pos : Pos} : PSm G X (.Break pos) sBreak := fun W ok => PS_imp ps_break fun E σ H ⟨sd, S, ρ, hs, hr, h⟩ => h ρ H σ Le.refl hr hs
theorem ps_contm {pos : Pos} : PSm G X (.Continue pos) sCont := fun W ok => PS_imp ps_continue fun E σ H ⟨sd, S, ρ, hs, hr, h⟩ => h ρ H σ Le.refl hr hs
theorem ps_exprm {e : Expr} {m : ME} {pos : Pos} (he : PEm G X e m) (hs : swapsWith e none pos.line X.env = pure false := by rfl) : PSm G X (.Expr e pos) (sExpr m) := fun W ok => PS_imp (ps_expr (he W ok) hs) fun E σ H ⟨sd, S, ρ, hs, hr, h⟩ =>
  ⟨sd, S, ρ, hs, hr, AftS.bind h hs fun ρ1 H1 v d S1 le r1 rd h1 => h1 ρ1 H1 σ Le.refl r1 (hs.mono le)⟩
theorem ps_retm {e : Expr} {m : ME} {pos : Pos} (he : PEm G X e m) : PSm G X (.Return (some e) pos) (sRet m) := fun W ok => PS_imp (ps_ret (he W ok)) fun E σ H ⟨sd, S, ρ, hs, hr, h⟩ =>
  ⟨sd, S, ρ, hs, hr, AftS.bind h hs fun ρ1 H1 v d S1 le r1 rd h1 => h1 ρ1 H1 v Le.refl r1 rd⟩
theorem ps_retNm {pos : Pos} : PSm G X (.Return none pos) sRetN := fun W ok => PS_imp ps_retN fun E σ H ⟨sd, S, ρ, hs, hr, h⟩ => h ρ H .non Le.refl hr (by simp only [RelD])
theorem ps_ifm {c : Expr} {a b : List Stmt} {t : MT} {m n : MS} {pos : Pos} (hc : PTm G X c t) (ha : PSsm G X a m) (hb : PSsm G X b n) : PSm G X (.If c a b pos) (sIf t m n) := fun W ok => PS_imp (ps_if (hc W ok) (ha W ok) (hb W ok)) fun E σ H ⟨sd, S, ρ, hs, hr, h⟩ =>
  ⟨sd, S, ρ, hs, hr, AftS.bind h hs fun ρ1 H1 v d S1 le r1 rd h1 => by
    have e : d = v := rd
    subst e
    cases d with
    | true => exact ⟨sd, S1, ρ1, hs.mono le, r1, h1⟩
    | false => exact ⟨sd, S1, ρ1, hs.mono le, r1, h1⟩⟩
theorem ps_setm {i : Nat} {x : Str} {e : Expr} {m : ME} {pos pos' : Pos} (hN : X.N.Nodup) (he : PEm G X e m) (hi : X.N[i]? = some x := by rfl) (hx : Loc X.env.scope x := by first | exact Or.inl rfl | exact Or.inr rfl)
    (hs : swapsWith e (some (.Name x pos')) pos.line X.env = pure false := by rfl) (hf : X.fn x = true ∨ X.env.scope.names.lookup x = some .local := by first | exact .inl rfl | exact .inr rfl | assumption) :
    PSm G X (.Assign [.Name x pos'] e pos) (sSet i m) := fun W ok => PS_imp (ps_set hN hi hx (he W ok) hs hf) fun E σ H ⟨sd, S, ρ, hs, hr, h⟩ =>
  ⟨sd, S, ρ, hs, hr, AftS.bind h hs fun ρ1 H1 v d S1 le r1 rd h1 => h1 ρ1 H1 _ Le.refl r1 ((hs.mono le).set rd i)⟩

/-! ### targets -/
inductive Tg where
  | nm (i : Nat)
  | tp (l : List Tg)
mutual
def asg : Tg → D → SD → Option SD
  | .nm i, d, sd => some (sd.set i (some d))
  | .tp l, d, sd => match d with
    | .tup ds => asgs l ds sd
    | _ => none
def asgs : List Tg → List D → SD → Option SD
  | [], ds, sd => match ds with
    | [] => some sd
    | _ :: _ => none
  | t :: r, ds, sd => match ds with
    | [] => none
    | d :: q => match asg t d sd with
      | some sd1 => asgs r q sd1
      | none => none
end
mutual
def Tg.slots : Tg → List Nat
  | .nm i => [i]
  | .tp l => Tg.slotss l
def Tg.slotss : List Tg → List Nat
  | [] => []
  | t :: r => t.slots ++ Tg.slotss r
end
mutual
def gOf (K : PySem.W.Frag) : Tg → TG
  | .nm i => gName i
  | .tp l => gTup K l.length (gsOf K l)
def gsOf (K : PySem.W.Frag) : List Tg → TGs
  | [] => gNil
  | t :: r => gCons (gOf K t) (gsOf K r)
end
/-- what a target leaves of the slots -/
def Kept (l : List Nat) (σ σ' : L2.St) : Prop := σ'.length = σ.length ∧ ∀ j : Nat, j ∉ l → σ'[j]? = σ[j]?
theorem asgs_len : ∀ {l : List Tg} {ds : List D} {sd sd' : SD}, asgs l ds sd = some sd' → l.length = ds.length
  | [], [], _, _, _ => rfl
  | [], _ :: _, sd, _, h => by simp only [asgs] at h; cases h
  | t :: r, [], sd, _, h => by simp only [asgs] at h; cases h
  | t :: r, d :: q, sd, sd', h => by
    simp only [asgs] at h
    split at h
    · simp only [List.length_cons, asgs_len h]
    · cases h
mutual
theorem gOf_ok {ρ : Rho} {H : Hp} (kk : G.K = X.K) : ∀ {t : Tg} {d : D} {v : V} {sd sd' : SD} {σ : L2.St} {Q : L2.St → Hp → Prop}, RelD G ρ H d v → RelSt G ρ H sd σ → asg t d sd = some sd' →
    (∀ σ', RelSt G ρ H sd' σ' → Kept t.slots σ σ' → Q σ' H) → gOf X.K t v σ H Q
  | .nm i, d, v, sd, sd', σ, Q, rd, hs, e, h => by
    simp only [asg, Option.some.injEq] at e
    subst e
    show gName i v σ H Q
    refine h _ (hs.set rd i) ⟨by simp, fun j hj => ?_⟩
    simp only [Tg.slots, List.mem_singleton] at hj
    exact List.getElem?_set_ne (Ne.symm hj)
  | .tp l, d, v, sd, sd', σ, Q, rd, hs, e, h => by
    simp only [asg] at e
    split at e
    · rename_i ds
      simp only [RelD] at rd
      obtain ⟨a, xs, rfl, hq, ht⟩ := rd
      show gTup X.K l.length (gsOf X.K l) (.ref a) σ H Q
      refine ⟨a, xs, rfl, (.inl (.inl hq)), by rw [← ht.length, asgs_len e], gsOf_ok kk ht hs e fun σ' a b => h σ' a ?_⟩
      simpa only [Tg.slots] using b
    · cases e
theorem gsOf_ok {ρ : Rho} {H : Hp} (kk : G.K = X.K) : ∀ {l : List Tg} {ds : List D} {xs : List V} {sd sd' : SD} {σ : L2.St} {Q : L2.St → Hp → Prop}, RelDs G ρ H ds xs → RelSt G ρ H sd σ → asgs l ds sd = some sd' →
    (∀ σ', RelSt G ρ H sd' σ' → Kept (Tg.slotss l) σ σ' → Q σ' H) → gsOf X.K l xs σ H Q
  | [], [], xs, sd, sd', σ, Q, rd, hs, e, h => by
    simp only [asgs, Option.some.injEq] at e
    subst e
    simp only [RelDs] at rd
    subst rd
    exact ⟨rfl, h σ hs ⟨rfl, fun _ _ => rfl⟩⟩
  | [], _ :: _, xs, sd, sd', σ, Q, rd, hs, e, h => by simp only [asgs] at e; cases e
  | t :: r, [], xs, sd, sd', σ, Q, rd, hs, e, h => by simp only [asgs] at e; cases e
  | t :: r, d :: q, xs, sd, sd', σ, Q, rd, hs, e, h => by
    simp only [RelDs] at rd
    obtain ⟨v, ys, rfl, r1, r2⟩ := rd
    simp only [asgs] at e
    split at e
    · rename_i sd1 e1
      refine ⟨v, ys, rfl, gOf_ok kk r1 hs e1 fun σ1 s1 k1 => gsOf_ok kk r2 s1 e fun σ2 s2 k2 => h σ2 s2 ⟨k2.1.trans k1.1, fun j hj => ?_⟩⟩
      simp only [Tg.slotss, List.mem_append, not_or] at hj
      exact (k2.2 j hj.2).trans (k1.2 j hj.1)
    · cases e
end
def sAsg (t : Tg) (m : ME) : MS := fun sd S => bindS (m sd S) sd fun d S1 => match asg t d sd with
  | some sd1 => .nx sd1 S1
  | none => .stuck
theorem ps_asgm {tg e : Expr} {t : Tg} {m : ME} {pos : Pos} (he : PEm G X e m) (hg : PG X tg (gOf X.K t)) (hs : swapsWithSole [tg] e pos.line X.env = pure false := by rfl) (hw : swappedStores [tg] e X.env = pure none := by rfl)
    (h1 : (assignEach [tg] X.env).map (·.2) = [assign tg X.env] := by rfl) : PSm G X (.Assign [tg] e pos) (sAsg t m) := fun W ok => PS_imp (ps_asg (he W ok) hg hs hw h1) fun E σ H ⟨sd, S, ρ, hs, hr, h⟩ =>
  ⟨sd, S, ρ, hs, hr, AftS.bind h hs fun ρ1 H1 v d S1 le r1 rd h1 => by
    split at h1
    · rename_i sd1 e1
      exact gOf_ok ok.kk rd (hs.mono le) e1 fun σ' s' _ => h1 ρ1 H1 σ' Le.refl r1 s'
    · exact h1.elim⟩
/-- a, b = x, y (two local names) -/
def sPar (i j : Nat) (m : MA) : MS := fun sd S => bindS (m sd S) sd fun l S1 => match l with
  | [d, e] => .nx ((sd.set i (some d)).set j (some e)) S1
  | _ => .stuck
theorem ps_parm {i j : Nat} {tp t2 : Expr} {es : List Expr} {m : MA} {pos : Pos} (h : ∀ t : TA, PA X es t → PS X (.Assign [tp] t2 pos) (tPar i j t)) (ha : PAm G X es m) : PSm G X (.Assign [tp] t2 pos) (sPar i j m) := fun W ok => PS_imp (h _ (ha W ok)) fun E σ H ⟨sd, S, ρ, hs, hr, h⟩ =>
  ⟨sd, S, ρ, hs, hr, AftS.bind h hs fun ρ1 H1 v d S1 le r1 rd h1 => by
    match d, rd, h1 with
    | [], rd, h1 => exact h1.elim
    | [_], rd, h1 => exact h1.elim
    | [d, e], rd, h1 =>
      simp only [RelDs] at rd
      obtain ⟨v1, _, rfl, r2, v2, _, rfl, r3, rfl⟩ := rd
      exact ⟨v1, v2, rfl, h1 ρ1 H1 _ Le.refl r1 (((hs.mono le).set r2 i).set r3 j)⟩
    | _ :: _ :: _ :: _, rd, h1 => exact h1.elim⟩

/-! ### while -/
def whileLoop (t : MT) (b : MS) : Nat → MS
  | 0 => fun _ _ => .stuck
  | n + 1 => fun sd S => bindS (t sd S) sd fun k S1 => if k then (b sd S1).turn (whileLoop t b n) else .nx sd S1
theorem ps_whilem {c : Expr} {body : List Stmt} {t : MT} {b : MS} {pos : Pos} (n : Nat) (hc : PTm G X c t) (hb : PSsm G X body b) : PSm G X (.While c body [] pos) (whileLoop t b n) := fun W ok => PS_imp (ps_while ok.own (hc W ok) (hb W ok)) fun E σ H ⟨sd, S, ρ, hs, hr, h⟩ => by
  refine ⟨fun m σ H => ∃ sd S ρ, RelSt G ρ H sd σ ∧ Rep G ρ S H ∧ AftS G ρ H (whileLoop t b m sd S) E W, ⟨n, sd, S, ρ, hs, hr, h⟩, fun m σ H ⟨sd, S, ρ, hs, hr, h⟩ => ?_⟩
  cases m with
  | zero => exact h.elim
  | succ m =>
    refine ⟨sd, S, ρ, hs, hr, AftS.bind h hs fun ρ1 H1 v d S1 le r1 rd h1 => ?_⟩
    have e : d = v := rd
    subst e
    cases d with
    | false => exact h1 ρ1 H1 σ Le.refl r1 (hs.mono le)
    | true =>
      refine ⟨fun σ H => ∃ sd S ρ, RelSt G ρ H sd σ ∧ Rep G ρ S H ∧ AftS G ρ H (whileLoop t b m sd S) E W, fun σ' H' q => ⟨m, Nat.lt_succ_self m, q⟩, sd, S1, ρ1, hs.mono le, r1, ?_⟩
      exact AftS.turn h1 fun σ' H' sd S ρ' le rs rp h => ⟨sd, S, ρ', rs, rp, h⟩

/-! ### what is walked -/
inductive ItD where
  | lst (n : Nat)
  | tup (l : List D)
  | rng (lo c : Int) (n : Nat)
  | str (l : List Nat)
  | scr (l : List Int)
  | enl (n : Nat)
  | ent (l : List D)
  | dk (n : Nat)
  | dv (n : Nat)
  | di (n : Nat)
  | zip (a b : ItD)
def itNext : ItD → Nat → Sto → Option (Option D)
  | .lst n, i, S => match S.get n with
    | some (.lst l) => some l[i]?
    | _ => none
  | .tup l, i, _ => some l[i]?
  | .rng lo c n, i, _ => some (if i < n then some (.int (lo + i * c)) else none)
  | .str l, i, _ => some (l[i]?.map fun c => .str [c])
  | .scr l, i, _ => some (l[i]?.map D.int)
  | .enl n, i, S => match S.get n with
    | some (.lst l) => some (l[i]?.map fun d => .tup [.int i, d])
    | _ => none
  | .ent l, i, _ => some (l[i]?.map fun d => .tup [.int i, d])
  | .dk n, i, S => match S.get n with
    | some (.dct _ l) => some (l[i]?.map fun p => p.1)
    | _ => none
  | .dv n, i, S => match S.get n with
    | some (.dct _ l) => some (l[i]?.map fun p => p.2)
    | _ => none
  | .di n, i, S => match S.get n with
    | some (.dct _ l) => some (l[i]?.map fun p => .tup [p.1, p.2])
    | _ => none
  | .zip a b, i, S => match itNext a i S, itNext b i S with
    | some (some x), some (some y) => some (some (.tup [x, y]))
    | some none, some _ => some none
    | some (some _), some none => some none
    | _, _ => none
def itLen : ItD → Sto → Nat
  | .lst n, S => match S.get n with
    | some (.lst l) => l.length
    | _ => 0
  | .tup l, _ => l.length
  | .rng _ _ n, _ => n
  | .str l, _ => l.length
  | .scr l, _ => l.length
  | .enl n, S => match S.get n with
    | some (.lst l) => l.length
    | _ => 0
  | .ent l, _ => l.length
  | .dk n, S => match S.get n with
    | some (.dct _ l) => l.length
    | _ => 0
  | .dv n, S => match S.get n with
    | some (.dct _ l) => l.length
    | _ => 0
  | .di n, S => match S.get n with
    | some (.dct _ l) => l.length
    | _ => 0
  | .zip a b, S => min (itLen a S) (itLen b S)
def ItOk (G : Glo) (ρ : Rho) (H : Hp) (it : ItD) (J : It) : Prop := ∀ (i : Nat) ρ' H' S, Le G ρ H ρ' H' → Rep G ρ' S H' → match itNext it i S with
  | some (some d) => J.go i H' ∧ ∀ x H2, J.yld i H' x H2 → Le G ρ' H' ρ' H2 ∧ Rep G ρ' S H2 ∧ RelD G ρ' H2 d x
  | some none => J.stop i H'
  | none => True
abbrev MI := SD → Sto → Res ItD
def ti (G : Glo) (m : MI) (W : WX) : TI := fun σ H R => ∃ sd S ρ, RelSt G ρ H sd σ ∧ Rep G ρ S H ∧ Aft G (ItOk G) ρ H (m sd S) R (fun c d H' => W c d σ H')
def PIm (G : Glo) (X : Cx) (tg iter : Expr) (m : MI) : Prop := ∀ W, XOk G X W → PI X tg iter (ti G m W)
theorem PI_imp {X : Cx} {tg e : Expr} {t t' : TI} (h : PI X tg e t) (f : ∀ σ H Q, t' σ H Q → t σ H Q) : PI X tg e t' := ⟨fun pins s σ H Q I q => h.run pins s σ H Q I (f σ H Q q)⟩
def forLoop (it : ItD) (t : Tg) (b : MS) : Nat → Nat → MS
  | 0, _ => fun _ _ => .stuck
  | n + 1, i => fun sd S => match itNext it i S with
    | none => .stuck
    | some none => .nx sd S
    | some (some d) => match asg t d sd with
      | none => .stuck
      | some sd1 => (b sd1 S).turn (forLoop it t b n (i + 1))
def sFor (m : MI) (t : Tg) (b : MS) : MS := fun sd S => bindS (m sd S) sd fun it S1 => forLoop it t b (itLen it S1 + 1) 0 sd S1
theorem ps_form {iter tg : Expr} {body : List Stmt} {m : MI} {t : Tg} {b : MS} {pos : Pos} (hc : X.calm = true) (hi : PIm G X tg iter m) (hg : PG X tg (gOf X.K t)) (hb : PSsm G X body b)
    (hs : ∀ x, foldedSetIterable iter X.env x = pure x := by intro _; rfl) : PSm G X (.For tg iter body [] pos) (sFor m t b) := fun W ok => PS_imp (ps_for ok.own hc (hi W ok) hg (hb W ok) hs) fun E σ H ⟨sd, S, ρ, hs, hr, h⟩ => by
  refine ⟨sd, S, ρ, hs, hr, AftS.bind h hs fun ρ1 H1 J it S1 le r1 ij h1 => ?_⟩
  refine ⟨fun i m σ H => ∃ sd S ρ, Le G ρ1 H1 ρ H ∧ RelSt G ρ H sd σ ∧ Rep G ρ S H ∧ AftS G ρ H (forLoop it t b m i sd S) E W, ⟨_, sd, S1, ρ1, Le.refl, hs.mono le, r1, h1⟩, fun i m σ H ⟨sd, S, ρ, lh, hs, hr, h⟩ => ?_⟩
  cases m with
  | zero => exact h.elim
  | succ m =>
    have ij2 := ij i ρ H S lh hr
    simp only [forLoop] at h
    split at h
    · exact h.elim
    · rename_i en
      rw [en] at ij2
      exact .inl ⟨ij2, h ρ H σ Le.refl hr hs⟩
    · rename_i d en
      rw [en] at ij2
      obtain ⟨hgo, hy⟩ := ij2
      refine .inr ⟨hgo, fun σ H => ∃ sd S ρ, Le G ρ1 H1 ρ H ∧ RelSt G ρ H sd σ ∧ Rep G ρ S H ∧ AftS G ρ H (forLoop it t b m (i + 1) sd S) E W, fun σ' H' q => ⟨m, Nat.lt_succ_self m, q⟩, fun x H2 hx => ?_⟩
      obtain ⟨l2, r2, rd⟩ := hy x H2 hx
      split at h
      · exact h.elim
      · rename_i sd1 e1
        refine gOf_ok ok.kk rd (hs.mono l2) e1 fun σ' s' _ => ⟨sd1, S, ρ, s', r2, ?_⟩
        exact AftS.turn (AftS.le h l2) fun σ2 H3 sd2 S2 ρ3 l3 rs rp h3 => ⟨sd2, S2, ρ3, (lh.trans l2).trans l3, rs, rp, h3⟩
end
end Y

/-! Y4: what is walked; comprehensions. -/
namespace Y
open PySem PySem.Spec PyProof.Rows L2
section
variable {G : Glo} {X : Cx} {ρ : Rho} {H : Hp}
theorem keyD_rel {d : D} {k : Key} (h : keyD d = some k) : RelD G ρ H d (kV k) := by
  cases d with
  | int i => cases h; simp only [RelD, kV]
  | str x => cases h; simp only [RelD, kV]
  | _ => cases h
theorem keysD_rel : ∀ {l : List D} {ks : List Key}, keysD l = some ks → RelDs G ρ H l (ks.map kV)
  | [], ks, h => by
    cases h
    exact .nil
  | d :: r, ks, h => by
    simp only [keysD] at h
    split at h
    · rename_i k ks' e1 e2
      cases h
      exact .cons (keyD_rel e1) (keysD_rel e2)
    · cases h
theorem PairK.get {κ : Type} {kf : D → Option κ} : ∀ {l : List (D × D)} {ys : List (κ × V)}, PairK kf G ρ H l ys → l.length = ys.length ∧ ∀ (i : Nat) p, l[i]? = some p → ∃ k v, ys[i]? = some (k, v) ∧ kf p.1 = some k ∧ RelD G ρ H p.2 v
  | [], _, h => by
    cases h
    exact ⟨rfl, fun i p e => by simp at e⟩
  | q :: r, ys, h => by
    obtain ⟨k, v, zs, rfl, h1, h2, h3⟩ := h
    obtain ⟨e, g⟩ := h3.get
    refine ⟨by simp [e], fun i p ei => ?_⟩
    cases i with
    | zero =>
      simp only [List.getElem?_cons_zero, Option.some.injEq] at ei ⊢
      subst ei
      exact ⟨k, v, rfl, h1, h2⟩
    | succ i =>
      simp only [List.getElem?_cons_succ] at ei ⊢
      exact g i p ei

theorem it_lst {n : Nat} {a : Addr} (kk : G.K = X.K) (hn : ρ n = some a) : ItOk G ρ H (.lst n) (Itl X.K a) := fun i ρ' H' S le rp => by
  simp only [itNext]
  split
  · rename_i d en
    split at en
    · rename_i l el
      simp only [Option.some.injEq] at en
      obtain ⟨b, xs, eb, e1, hH, ht⟩ := rp.list el (RelD.loc' (G := G) (H := H') (le.rho _ _ hn))
      cases eb
      obtain ⟨v, ev, rd⟩ := ht.get en
      refine ⟨⟨xs, v, .inl (.inl hH), ev⟩, fun x H2 hx => ?_⟩
      obtain ⟨rfl, hx⟩ := hx
      have e2 := hx xs (.inl (.inl hH))
      rw [ev] at e2
      cases e2
      exact ⟨Le.refl, rp, rd⟩
    · cases en
  · rename_i en
    split at en
    · rename_i l el
      simp only [Option.some.injEq] at en
      obtain ⟨b, xs, eb, e1, hH, ht⟩ := rp.list el (RelD.loc' (G := G) (H := H') (le.rho _ _ hn))
      cases eb
      exact ⟨xs, .inl (.inl hH), by rw [← ht.length]; exact List.getElem?_eq_none_iff.mp en⟩
    · cases en
  · trivial
theorem it_tup {l : List D} {a : Addr} {xs : List V} (kk : G.K = X.K) (hq : H a = some (.tup xs)) (ht : RelDs G ρ H l xs) : ItOk G ρ H (.tup l) (Itt X.K a) := fun i ρ' H' S le rp => by
  have hq' := le.tup _ _ hq
  have ht' := ht.mono le
  simp only [itNext]
  split
  · rename_i d en
    simp only [Option.some.injEq] at en
    obtain ⟨v, ev, rd⟩ := ht'.get en
    refine ⟨⟨xs, v, .inl (.inl hq'), ev⟩, fun x H2 hx => ?_⟩
    obtain ⟨rfl, hx⟩ := hx
    have e2 := hx xs (.inl (.inl hq'))
    rw [ev] at e2
    cases e2
    exact ⟨Le.refl, rp, rd⟩
  · rename_i en
    simp only [Option.some.injEq] at en
    exact ⟨xs, .inl (.inl hq'), by rw [← ht'.length]; exact List.getElem?_eq_none_iff.mp en⟩
  · trivial
theorem it_scr {l : List Int} {a : Addr} (kk : G.K = X.K) (hq : ScrAt G.K H a l) : ItOk G ρ H (.scr l) (Itl X.K a) := fun i ρ' H' S le rp => by
  have hq' := (le.scr _ _ hq).seq
  rw [kk] at hq'
  simp only [itNext]
  cases e : l[i]? with
  | none =>
    simp only [Option.map_none]
    exact ⟨_, hq', by rw [List.length_map]; exact List.getElem?_eq_none_iff.mp e⟩
  | some n =>
    simp only [Option.map_some]
    have ev : (l.map V.int)[i]? = some (.int n) := by rw [List.getElem?_map, e]; rfl
    refine ⟨⟨_, .int n, hq', ev⟩, fun x H2 hx => ?_⟩
    obtain ⟨rfl, hx⟩ := hx
    have e2 := hx _ hq'
    rw [ev] at e2
    cases e2
    exact ⟨Le.refl, rp, by simp only [RelD]⟩
theorem it_rng {lo : Int} {n : Nat} : ItOk G ρ H (.rng lo 1 n) (Itr lo n) := fun i ρ' H' S le rp => by
  simp only [itNext]
  split
  · rename_i d en
    split at en
    · rename_i hi
      simp only [Option.some.injEq] at en
      subst en
      refine ⟨hi, fun x H2 hx => ?_⟩
      obtain ⟨rfl, rfl⟩ := hx
      exact ⟨Le.refl, rp, by simp only [RelD, Int.mul_one]⟩
    · cases en
  · rename_i en
    split at en
    · cases en
    · rename_i hi
      exact Nat.le_of_not_lt hi
  · trivial
theorem it_rngc {lo c : Int} {n : Nat} : ItOk G ρ H (.rng lo c n) (Itc lo c n) := fun i ρ' H' S le rp => by
  simp only [itNext]
  split
  · rename_i d en
    split at en
    · rename_i hi
      simp only [Option.some.injEq] at en
      subst en
      refine ⟨hi, fun x H2 hx => ?_⟩
      obtain ⟨rfl, rfl⟩ := hx
      exact ⟨Le.refl, rp, by simp only [RelD]⟩
    · cases en
  · rename_i en
    split at en
    · cases en
    · rename_i hi
      exact Nat.le_of_not_lt hi
  · trivial
theorem it_str {l : List Nat} : ItOk G ρ H (.str l) (Its ⟨l.toArray⟩) := fun i ρ' H' S le rp => by
  simp only [itNext]
  cases e : l[i]? with
  | none =>
    simp only [Option.map_none]
    show l.toArray.size ≤ i
    simp only [List.size_toArray]
    exact List.getElem?_eq_none_iff.mp e
  | some n =>
    simp only [Option.map_some]
    refine ⟨?_, fun x H2 hx => ?_⟩
    · show i < l.toArray.size
      simp only [List.size_toArray]
      exact (List.getElem?_eq_some_iff.mp e).1
    · obtain ⟨rfl, c, ec, rfl⟩ := hx
      have ec : l.toArray[i]? = some c := ec
      rw [List.getElem?_toArray, e] at ec
      cases ec
      exact ⟨Le.refl, rp, by simp only [RelD]⟩
theorem it_enl {n : Nat} {a : Addr} (kk : G.K = X.K) (hn : ρ n = some a) : ItOk G ρ H (.enl n) (Ite X.K a) := fun i ρ' H' S le rp => by
  simp only [itNext]
  cases el : S.get n with
  | none => trivial
  | some c =>
    cases c with
    | lst l =>
      obtain ⟨b, xs, eb, e1, hH, ht⟩ := rp.list el (RelD.loc' (G := G) (H := H') (le.rho _ _ hn))
      cases eb
      simp only
      cases e : l[i]? with
      | none =>
        simp only [Option.map_none]
        exact ⟨xs, .inl (.inl hH), by rw [← ht.length]; exact List.getElem?_eq_none_iff.mp e⟩
      | some d =>
        simp only [Option.map_some]
        obtain ⟨v, ev, rd⟩ := ht.get e
        refine ⟨⟨xs, v, .inl (.inl hH), ev⟩, fun x H2 hx => ?_⟩
        obtain ⟨T, y, rfl, nT, rfl, hy⟩ := hx
        have e2 := hy xs (.inl (.inl hH))
        rw [ev] at e2
        cases e2
        have sm := same_new (o := .tup [.int (i : Nat), v]) nT
        exact ⟨Le.same sm, rp.same sm, RelD.tup' upd_same (.cons (by simp only [RelD]) (.one (rd.mono (Le.same sm))))⟩
    | _ => trivial
/-- a locked dict's own pairs -/
theorem dct_at {ρ' : Rho} {H' : Hp} {S : Sto} {n : Nat} {d : Addr} {o : Obj} {kvs : List (Key × V)} {lk : Nat} {l : List (D × D)} (rp : Rep G ρ' S H') (el : S.get n = some (.dct lk l)) (hn : ρ' n = some d) (hd : H' d = some (.frz o (.dK kvs))) : PairK keyD G ρ' H' l kvs := by
  obtain ⟨b, e1, q⟩ := rp.cell n _ el
  rw [hn] at e1
  cases e1
  rcases q with ⟨kvs', h, p⟩ | ⟨hne, kvs', h, p⟩
  · cases lk with
    | zero =>
      have h : H' d = _ := h
      rw [hd] at h
      cases h
    | succ k =>
      obtain ⟨o', h⟩ := h
      rw [hd] at h
      cases h
      exact p
  · cases lk with
    | zero =>
      have h : H' d = _ := h
      rw [hd] at h
      cases h
    | succ k =>
      obtain ⟨o', h⟩ := h
      rw [hd] at h
      cases h
theorem dct_atT {ρ' : Rho} {H' : Hp} {S : Sto} {n : Nat} {d : Addr} {o : Obj} {kvs : List (List Key × V)} {lk : Nat} {l : List (D × D)} (rp : Rep G ρ' S H') (el : S.get n = some (.dct lk l)) (hn : ρ' n = some d) (hd : H' d = some (.frz o (.dT kvs))) : PairK keyT G ρ' H' l kvs := by
  obtain ⟨b, e1, q⟩ := rp.cell n _ el
  rw [hn] at e1
  cases e1
  rcases q with ⟨kvs', h, p⟩ | ⟨hne, kvs', h, p⟩
  · cases lk with
    | zero =>
      have h : H' d = _ := h
      rw [hd] at h
      cases h
    | succ k =>
      obtain ⟨o', h⟩ := h
      rw [hd] at h
      cases h
  · cases lk with
    | zero =>
      have h : H' d = _ := h
      rw [hd] at h
      cases h
    | succ k =>
      obtain ⟨o', h⟩ := h
      rw [hd] at h
      cases h
      exact p
theorem it_dk {n : Nat} {d : Addr} {o : Obj} {kvs : List (Key × V)} (hn : ρ n = some d) (hd : H d = some (.frz o (.dK kvs))) : ItOk G ρ H (.dk n) (Itk d o kvs) := fun i ρ' H' S le rp => by
  have hd' := le.fz _ _ _ hd
  simp only [itNext]
  cases el : S.get n with
  | none => trivial
  | some c =>
    cases c with
    | dct lk l =>
      have p := dct_at rp el (le.rho _ _ hn) hd'
      obtain ⟨el2, g⟩ := p.get
      simp only
      cases e : l[i]? with
      | none =>
        simp only [Option.map_none]
        exact ⟨hd', by rw [← el2]; exact List.getElem?_eq_none_iff.mp e⟩
      | some q =>
        simp only [Option.map_some]
        obtain ⟨k, v, ek, e1, e2⟩ := g i q e
        refine ⟨⟨hd', (List.getElem?_eq_some_iff.mp ek).1⟩, fun x H2 hx => ?_⟩
        obtain ⟨rfl, k', v', ek', rfl⟩ := hx
        rw [ek] at ek'
        cases ek'
        exact ⟨Le.refl, rp, keyD_rel e1⟩
    | _ => trivial
theorem it_dkT {n : Nat} {d : Addr} {o : Obj} {kvs : List (List Key × V)} (hn : ρ n = some d) (hd : H d = some (.frz o (.dT kvs))) : ItOk G ρ H (.dk n) (Itkt d o kvs) := fun i ρ' H' S le rp => by
  have hd' := le.fz _ _ _ hd
  simp only [itNext]
  cases el : S.get n with
  | none => trivial
  | some c =>
    cases c with
    | dct lk l =>
      have p := dct_atT rp el (le.rho _ _ hn) hd'
      obtain ⟨el2, g⟩ := p.get
      simp only
      cases e : l[i]? with
      | none =>
        simp only [Option.map_none]
        exact ⟨hd', by rw [← el2]; exact List.getElem?_eq_none_iff.mp e⟩
      | some q =>
        simp only [Option.map_some]
        obtain ⟨k, v, ek, e1, e2⟩ := g i q e
        refine ⟨⟨hd', (List.getElem?_eq_some_iff.mp ek).1⟩, fun x H2 hx => ?_⟩
        obtain ⟨rfl, k', v', qa, ek', rfl, hq⟩ := hx
        rw [ek] at ek'
        cases ek'
        refine ⟨Le.refl, rp, ?_⟩
        cases hq1 : q.1 with
        | tup ds =>
          rw [hq1] at e1
          exact RelD.tup' hq (keysD_rel e1)
        | _ =>
          rw [hq1] at e1
          cases e1
    | _ => trivial
theorem it_dv {n : Nat} {d : Addr} {o : Obj} {kvs : List (Key × V)} (hn : ρ n = some d) (hd : H d = some (.frz o (.dK kvs))) : ItOk G ρ H (.dv n) (Itd d o kvs) := fun i ρ' H' S le rp => by
  have hd' := le.fz _ _ _ hd
  simp only [itNext]
  cases el : S.get n with
  | none => trivial
  | some c =>
    cases c with
    | dct lk l =>
      have p := dct_at rp el (le.rho _ _ hn) hd'
      obtain ⟨el2, g⟩ := p.get
      simp only
      cases e : l[i]? with
      | none =>
        simp only [Option.map_none]
        exact ⟨hd', by rw [← el2]; exact List.getElem?_eq_none_iff.mp e⟩
      | some q =>
        simp only [Option.map_some]
        obtain ⟨k, v, ek, e1, e2⟩ := g i q e
        refine ⟨⟨hd', (List.getElem?_eq_some_iff.mp ek).1⟩, fun x H2 hx => ?_⟩
        obtain ⟨rfl, k', ek'⟩ := hx
        rw [ek] at ek'
        cases ek'
        exact ⟨Le.refl, rp, e2⟩
    | _ => trivial
theorem it_di {n : Nat} {d : Addr} {o : Obj} {kvs : List (Key × V)} (hn : ρ n = some d) (hd : H d = some (.frz o (.dK kvs))) : ItOk G ρ H (.di n) (Iti d o kvs) := fun i ρ' H' S le rp => by
  have hd' := le.fz _ _ _ hd
  simp only [itNext]
  cases el : S.get n with
  | none => trivial
  | some c =>
    cases c with
    | dct lk l =>
      have p := dct_at rp el (le.rho _ _ hn) hd'
      obtain ⟨el2, g⟩ := p.get
      simp only
      cases e : l[i]? with
      | none =>
        simp only [Option.map_none]
        exact ⟨hd', by rw [← el2]; exact List.getElem?_eq_none_iff.mp e⟩
      | some q =>
        simp only [Option.map_some]
        obtain ⟨k, v, ek, e1, e2⟩ := g i q e
        refine ⟨⟨hd', (List.getElem?_eq_some_iff.mp ek).1⟩, fun x H2 hx => ?_⟩
        obtain ⟨T, k', v', ek', rfl, nT, rfl⟩ := hx
        rw [ek] at ek'
        cases ek'
        have sm := same_new (o := .tup [kV k, v]) nT
        exact ⟨Le.same sm, rp.same sm, RelD.tup' upd_same (.cons (keyD_rel e1) (.one (e2.mono (Le.same sm))))⟩
    | _ => trivial

/-! ### walks -/
def itOf : D → Sto → Res ItD
  | .tup l, S => .ok (.tup l) S
  | .str l, S => .ok (.str l) S
  | .scr l, S => .ok (.scr l) S
  | .loc n, S => match S.get n with
    | some (.lst _) => .ok (.lst n) S
    | some (.dct (_ + 1) _) => .ok (.dk n) S
    | _ => .stuck
  | _, _ => .stuck
def mIt (m : ME) : MI := fun sd S => (m sd S).bind itOf
theorem pi_anym {tg e : Expr} {m : ME} (he : PEm G X e m) : PIm G X tg e (mIt m) := fun W ok => by
  refine ⟨fun pins s σ H R I h => ?_⟩
  obtain ⟨sd, S, ρ, hs, hr, h⟩ := h
  have t : te G m W σ H (fun x H1 => ∃ ρ S d, Rep G ρ S H1 ∧ RelD G ρ H1 d x ∧ Aft G (ItOk G) ρ H1 (itOf d S) R (fun c a H' => W c a σ H')) := ⟨sd, S, ρ, hs, hr, Aft.bind h fun ρ1 H1 x d S1 le1 r1 rd h1 => ⟨ρ1, S1, d, r1, rd, h1⟩⟩
  refine thn ((he W ok).run pins s σ H _ I t) fun v s1 ⟨x, H1, I1, r1, q1⟩ => ?_
  obtain ⟨ρ1, S1, d, rp, rd, q⟩ := q1
  cases d with
  | tup l =>
    simp only [RelD] at rd
    obtain ⟨a, xs, rfl, hq, ht⟩ := rd
    cases r1
    obtain ⟨its, rv, p, hz⟩ := I1.tuple (show SqT X.K H1 a xs from .inl (.inl hq))
    refine wpAny_pyIter_tuple (show s1.heap.IsTuple a its.toArray from p) ?_
    refine ⟨s1.heap.objs.size, [s1.heap.objs.size], _, _, H1, rfl, I1.kept (t' := s1.toks) fun b o e => Heap.get?_push_of_some _ e, turn_tuple a _, ⟨_, Heap.get?_push_size _ rfl, rfl, rfl⟩, fun b hb => ?_, q.ok rp (it_tup ok.kk hq ht)⟩
    have e : b = s1.heap.objs.size := by simpa using hb
    subst e
    exact I1.fpOk (Nat.le_refl _) (I1.hok.fresh (Nat.le_refl _))
  | str l =>
    simp only [RelD] at rd
    subst rd
    obtain ⟨t, rfl⟩ := r1
    cases ha : (⟨l.toArray⟩ : Str).cps.all (· < 128)
    · exact wpAny_pyIter_wide ha (pi_one (tk := s1.toks) I1 _ (turn_str _ _ t "str_iterator" (.inr rfl)) ⟨_, Heap.get?_push_size _ rfl, rfl, rfl⟩ (q.ok rp it_str))
    · exact wpAny_pyIter_ascii ha (pi_one (tk := s1.toks) I1 _ (turn_str _ _ t "str_ascii_iterator" (.inl rfl)) ⟨_, Heap.get?_push_size _ rfl, rfl, rfl⟩ (q.ok rp it_str))
  | scr l =>
    simp only [RelD] at rd
    obtain ⟨a, rfl, hq⟩ := rd
    cases r1
    have hq2 := hq.seq
    rw [ok.kk] at hq2
    obtain ⟨its, rv, p, hz⟩ := I1.list hq2
    refine wpAny_pyIter_list p.isList ?_
    refine ⟨s1.heap.objs.size, [s1.heap.objs.size], _, _, H1, rfl, I1.kept (t' := s1.toks) fun b o e => Heap.get?_push_of_some _ e, turn_list a _, ⟨_, Heap.get?_push_size _ rfl, rfl, rfl⟩, fun b hb => ?_, q.ok rp (it_scr ok.kk hq)⟩
    have e : b = s1.heap.objs.size := by simpa using hb
    subst e
    exact I1.fpOk (Nat.le_refl _) (I1.hok.fresh (Nat.le_refl _))
  | loc n =>
    simp only [itOf] at q
    split at q
    · rename_i l el
      obtain ⟨a, xs, rfl, e1, hH, ht⟩ := rp.list el rd
      cases r1
      obtain ⟨its, rv, p, hz⟩ := I1.list (show SqL X.K H1 a xs from .inl (.inl hH))
      refine wpAny_pyIter_list p.isList ?_
      refine ⟨s1.heap.objs.size, [s1.heap.objs.size], _, _, H1, rfl, I1.kept (t' := s1.toks) fun b o e => Heap.get?_push_of_some _ e, turn_list a _, ⟨_, Heap.get?_push_size _ rfl, rfl, rfl⟩, fun b hb => ?_, q.ok rp (it_lst ok.kk e1)⟩
      have e : b = s1.heap.objs.size := by simpa using hb
      subst e
      exact I1.fpOk (Nat.le_refl _) (I1.hok.fresh (Nat.le_refl _))
    · rename_i lk l el
      simp only [RelD] at rd
      obtain ⟨a, e1, rfl⟩ := rd
      cases r1
      obtain ⟨b, e2, c⟩ := rp.cell n _ el
      rw [e1] at e2
      cases e2
      rcases c with ⟨kvs, ⟨o, hd⟩, p⟩ | ⟨hne, kvs, ⟨o, hd⟩, p⟩
      · obtain ⟨hs, hgd, hx, es, ep, vs, hdt, hsz, kv, hm⟩ := I1.frzK hd
        refine iter_keys hs hgd hx hdt (pi_one (tk := s1.toks) I1 _ (turn_keys _ hdt) ⟨_, Heap.get?_push_size _ rfl, rfl, ?_⟩ (q.ok rp (it_dk e1 hd)))
        rw [hsz] <;> rfl
      · obtain ⟨hs, hgd, hx, es, ep, hdt, hsz, ent⟩ := I1.frzT hd
        refine iter_keys hs hgd hx hdt (pi_one (tk := s1.toks) I1 _ (turn_keysT _ hdt) ⟨_, Heap.get?_push_size _ rfl, rfl, ?_⟩ (q.ok rp (it_dkT e1 hd)))
        rw [hsz] <;> rfl
    · exact q.elim
  | _ => exact q.elim
def itRng1 : List D → Sto → Res ItD
  | [.int j], S => if -4611686018427387904 ≤ j ∧ j < 4611686018427387904 then .ok (.rng 0 1 j.toNat) S else .stuck
  | _, _ => .stuck
def itRng2 : List D → Sto → Res ItD
  | [.int i, .int j], S => if -4611686018427387904 ≤ i ∧ i < 4611686018427387904 ∧ -4611686018427387904 ≤ j ∧ j < 4611686018427387904 then .ok (.rng i 1 (j - i).toNat) S else .stuck
  | _, _ => .stuck
def mIts (f : List D → Sto → Res ItD) (m : MA) : MI := fun sd S => (m sd S).bind f
theorem rels1 {ds : List D} {v : V} (h : RelDs G ρ H ds [v]) : ∃ d, ds = [d] ∧ RelD G ρ H d v := by
  match ds, h with
  | [], h => simp only [RelDs] at h; cases h
  | [d], h =>
    simp only [RelDs] at h
    obtain ⟨w, ys, e, h1, h2⟩ := h
    cases e
    exact ⟨d, rfl, h1⟩
  | _ :: _ :: _, h =>
    have e := h.length
    simp at e
theorem pi_range1m {tg a : Expr} {m : MA} {p pos : Pos} (hg : Gl X "range") (hm : X.mg "range" = none) (ha : PAm G X [a] m) (hs : starEach [a] X.env = [(false, eval a X.env)] := by rfl) : PIm G X tg (.Call (.Name "range" p) [a] [] pos) (mIts itRng1 m) := fun W ok =>
  PI_imp (pi_range1 hg hm (ha W ok) hs) fun σ H R ⟨sd, S, ρ, hs, hr, h⟩ => ⟨sd, S, ρ, hs, hr, Aft.bind h fun ρ1 H1 xs ds S1 le1 r1 rd h1 => by
    unfold itRng1 at h1
    split at h1
    · rename_i j
      simp only [RelDs, RelD] at rd
      obtain ⟨_, _, rfl, rfl, rfl⟩ := rd
      split at h1
      · rename_i hj
        exact ⟨j, rfl, hj.1, hj.2, h1.ok r1 it_rng⟩
      · exact h1.elim
    · exact h1.elim⟩
theorem pi_range2m {tg a b : Expr} {m : MA} {p pos : Pos} (hg : Gl X "range") (hm : X.mg "range" = none) (ha : PAm G X [a, b] m) (hs : starEach [a, b] X.env = [(false, eval a X.env), (false, eval b X.env)] := by rfl) (hs2 : starEach [b] X.env = [(false, eval b X.env)] := by rfl) :
    PIm G X tg (.Call (.Name "range" p) [a, b] [] pos) (mIts itRng2 m) := fun W ok =>
  PI_imp (pi_range2 hg hm (ha W ok) hs hs2) fun σ H R ⟨sd, S, ρ, hs, hr, h⟩ => ⟨sd, S, ρ, hs, hr, Aft.bind h fun ρ1 H1 xs ds S1 le1 r1 rd h1 => by
    unfold itRng2 at h1
    split at h1
    · rename_i i j
      simp only [RelDs, RelD] at rd
      obtain ⟨_, _, rfl, rfl, _, _, rfl, rfl, rfl⟩ := rd
      split at h1
      · rename_i hj
        exact ⟨i, j, rfl, hj, h1.ok r1 it_rng⟩
      · exact h1.elim
    · exact h1.elim⟩
def itEnl : List D → Sto → Res ItD
  | [.loc n], S => match S.get n with
    | some (.lst _) => .ok (.enl n) S
    | _ => .stuck
  | _, _ => .stuck
theorem pi_enlm {e : Expr} {m : MA} {p pos tpos : Pos} {elts : List Expr} {kk : Nat} (hg : Gl X "enumerate") (hm : X.mg "enumerate" = none) (ha : PAm G X [e] m) (hs : starEach [e] X.env = [(false, eval e X.env)] := by rfl) :
    PIm G X (.Tuple elts kk tpos) (.Call (.Name "enumerate" p) [e] [] pos) (mIts itEnl m) := fun W ok =>
  PI_imp (pi_enum hg hm (ha W ok) hs) fun σ H R ⟨sd, S, ρ, hs, hr, h⟩ => ⟨sd, S, ρ, hs, hr, Aft.bind h fun ρ1 H1 xs ds S1 le1 r1 rd h1 => by
    unfold itEnl at h1
    split at h1
    · rename_i n
      simp only [RelDs] at rd
      obtain ⟨v, _, rfl, rd, rfl⟩ := rd
      split at h1
      · rename_i l el
        obtain ⟨a, ys, rfl, e2, hH, ht⟩ := r1.list el rd
        exact ⟨a, ys, rfl, .inl (.inl hH), h1.ok r1 (it_enl ok.kk e2)⟩
      · exact h1.elim
    · exact h1.elim⟩
theorem noT {l : List (D × D)} {kvs : List (List Key × V)} (h : isK l = true) (hne : l ≠ []) (p : PairK keyT G ρ H l kvs) : False := by
  cases l with
  | nil => exact hne rfl
  | cons q r =>
    obtain ⟨k, v, zs, _, e, _⟩ := p
    simp only [isK] at h
    cases hq : q.1 with
    | tup ds => rw [hq] at h; simp [keyD] at h
    | _ => rw [hq] at e; simp [keyT] at e
def itDv : D → Sto → Res ItD
  | .loc n, S => match S.get n with
    | some (.dct (_ + 1) l) => if isK l then .ok (.dv n) S else .stuck
    | _ => .stuck
  | _, _ => .stuck
def itDi : D → Sto → Res ItD
  | .loc n, S => match S.get n with
    | some (.dct (_ + 1) l) => if isK l then .ok (.di n) S else .stuck
    | _ => .stuck
  | _, _ => .stuck
def mItM (f : D → Sto → Res ItD) (m : ME) : MI := fun sd S => (m sd S).bind f
theorem dct_k {S : Sto} {n lk : Nat} {l : List (D × D)} {x : V} (r1 : Rep G ρ S H) (el : S.get n = some (.dct (lk + 1) l)) (hk : isK l = true) (rd : RelD G ρ H (.loc n) x) : ∃ a o kvs, x = .ref a ∧ ρ n = some a ∧ H a = some (.frz o (.dK kvs)) := by
  simp only [RelD] at rd
  obtain ⟨a, e2, rfl⟩ := rd
  obtain ⟨b, e3, c⟩ := r1.cell n _ el
  rw [e2] at e3
  cases e3
  rcases c with ⟨kvs, ⟨o, hd⟩, p⟩ | ⟨hne, kvs, ⟨o, hd⟩, p⟩
  · exact ⟨a, o, kvs, rfl, e2, hd⟩
  · exact (noT hk hne p).elim
theorem pi_itemsm {e : Expr} {m : ME} {elts : List Expr} {kk : Nat} {tpos apos cpos : Pos} (he : PEm G X e m) (hbase : attributeBase e "items" X.env (eval e X.env) = eval e X.env := by rfl) (hline : (apos.endLine == cpos.line) = true := by rfl) :
    PIm G X (.Tuple elts kk tpos) (.Call (.Attribute e "items" apos) [] [] cpos) (mItM itDi m) := fun W ok =>
  PI_imp (pi_items (he W ok) hbase hline) fun σ H R ⟨sd, S, ρ, hs, hr, h⟩ => ⟨sd, S, ρ, hs, hr, Aft.bind h fun ρ1 H1 x d S1 le1 r1 rd h1 => by
    unfold itDi at h1
    split at h1
    · rename_i n
      split at h1
      · rename_i lk l el
        split at h1
        · rename_i hk
          obtain ⟨a, o, kvs, rfl, e2, hd⟩ := dct_k r1 el hk rd
          exact ⟨a, o, kvs, rfl, hd, h1.ok r1 (it_di e2 hd)⟩
        · exact h1.elim
      · exact h1.elim
    · exact h1.elim⟩
theorem pi_valuesm {tg e : Expr} {m : ME} {apos cpos : Pos} (he : PEm G X e m) (hbase : attributeBase e "values" X.env (eval e X.env) = eval e X.env := by rfl) (hline : (apos.endLine == cpos.line) = true := by rfl) :
    PIm G X tg (.Call (.Attribute e "values" apos) [] [] cpos) (mItM itDv m) := fun W ok =>
  PI_imp (pi_values (he W ok) hbase hline) fun σ H R ⟨sd, S, ρ, hs, hr, h⟩ => ⟨sd, S, ρ, hs, hr, Aft.bind h fun ρ1 H1 x d S1 le1 r1 rd h1 => by
    unfold itDv at h1
    split at h1
    · rename_i n
      split at h1
      · rename_i lk l el
        split at h1
        · rename_i hk
          obtain ⟨a, o, kvs, rfl, e2, hd⟩ := dct_k r1 el hk rd
          exact ⟨a, o, kvs, rfl, hd, h1.ok r1 (it_dv e2 hd)⟩
        · exact h1.elim
      · exact h1.elim
    · exact h1.elim⟩

/-! ### a dict that is walked is locked -/
def unlkS (n : Nat) : SRes → SRes
  | .nx sd S => match S.get n with
    | some (.dct 1 l) => .nx sd (S.set n (.dct 0 l))
    | _ => .stuck
  | .rt d S => match S.get n with
    | some (.dct 1 l) => .rt d (S.set n (.dct 0 l))
    | _ => .stuck
  | .bk sd S => match S.get n with
    | some (.dct 1 l) => .bk sd (S.set n (.dct 0 l))
    | _ => .stuck
  | .ct sd S => match S.get n with
    | some (.dct 1 l) => .ct sd (S.set n (.dct 0 l))
    | _ => .stuck
  | .ex x sd S => .ex x sd S
  | .stuck => .stuck
  | .pick t f => .pick t fun r => unlkS n (f r)
def unlkE (n : Nat) : Res D → Res D
  | .ok d S => match S.get n with
    | some (.dct 1 l) => .ok d (S.set n (.dct 0 l))
    | _ => .stuck
  | .exc x S => .exc x S
  | .stuck => .stuck
  | .pick t f => .pick t fun r => unlkE n (f r)
/-- md: which dict it is -/
def sLock (md : ME) (m : MS) : MS := fun sd S => match md sd S with
  | .ok (.loc n) _ => (match S.get n with
    | some (.dct 0 l) => unlkS n (m sd (S.set n (.dct 1 l)))
    | _ => m sd S)
  | .ok _ _ => m sd S
  | _ => .stuck
def mLock (md : ME) (m : ME) : ME := fun sd S => match md sd S with
  | .ok (.loc n) _ => (match S.get n with
    | some (.dct 0 l) => unlkE n (m sd (S.set n (.dct 1 l)))
    | _ => m sd S)
  | .ok _ _ => m sd S
  | _ => .stuck
theorem unl {ρ' : Rho} {H' : Hp} {S' : Sto} {n : Nat} {l' : List (D × D)} {a : Addr} {od : Obj} {u : HO} (e : ρ n = some a) (hH : H a = some u) (w : Wr (some u)) (u1 : ∀ xs, u ≠ .tup xs) (u2 : ∀ xs, u ≠ .lst xs) (le : Le G ρ (L2.upd H a (.frz od u)) ρ' H') (rp : Rep G ρ' S' H') (el : S'.get n = some (.dct 1 l')) :
    H' a = some (.frz od u) ∧ Le G ρ H ρ' (L2.upd H' a u) ∧ Rep G ρ' (S'.set n (.dct 0 l')) (L2.upd H' a u) ∧ Lw G ρ' H' ρ' (L2.upd H' a u) := by
  have hd := le.fz a od u upd_same
  refine ⟨hd, le_unlock hH w le, rp.unlock el (le.rho _ _ e) hd u1 u2, ⟨fun _ _ h => h, fun b xs h => ?_, fun b l h => ?_⟩⟩
  · rw [upd_ne (fun z => by rw [z, hd] at h; cases h)]
    exact h
  · rcases h with ⟨ob, h⟩ | h
    · exact .inl ⟨ob, by rw [upd_ne (fun z => by rw [z, hd] at h; cases h; exact u2 _ rfl)]; exact h⟩
    · exact .inr h
theorem RelSt.monoW {ρ' : Rho} {H' : Hp} {sd : SD} {σ : L2.St} (h : RelSt G ρ H sd σ) (le : Lw G ρ H ρ' H') : RelSt G ρ' H' sd σ := ⟨h.1, RelSl.monoW le h.2⟩
/-- which dict: what md reads stands at the same place whatever is locked -/
theorem ps_lockm {st : Stmt} {md : ME} {m : MS} (h : PSm G X st m) : PSm G X st (sLock md m) := fun W ok => by
  refine ⟨fun pins s σ H E I ⟨sd, S, ρ, hs, hr, q⟩ => ?_⟩
  unfold sLock at q
  split at q
  · rename_i n S0 e0
    split at q
    · rename_i l el
      obtain ⟨b, eb, _⟩ := hr.cell n _ el
      obtain ⟨a, u, ea, e, hH, mu, w, u1, u2, hl⟩ := hr.lock (ρ := ρ) el (RelD.loc' eb)
      refine (ps_lock (h W ok)).run pins s σ H E I ⟨a, u, hH, mu, fun od => ⟨sd, _, ρ, hs.mono (Le.upd (by rw [hH]; exact w)), hl od, ?_⟩⟩
      have lk : Le G ρ H ρ (upd H a (.frz od u)) := Le.upd (by rw [hH]; exact w)
      generalize m sd (S.set n (.dct 1 l)) = r at q
      induction r with
      | nx sd1 S1 =>
        simp only [unlkS] at q
        split at q
        · rename_i l' el'
          intro ρ' H' σ' le rp rs
          obtain ⟨h1, h2, h3, h4⟩ := unl e hH w u1 u2 le rp el'
          exact ⟨h1, q ρ' _ σ' h2 h3 (rs.monoW h4)⟩
        · exact q.elim
      | rt d S1 =>
        simp only [unlkS] at q
        split at q
        · rename_i l' el'
          intro ρ' H' v le rp rs
          obtain ⟨h1, h2, h3, h4⟩ := unl e hH w u1 u2 le rp el'
          exact ⟨h1, q ρ' _ v h2 h3 (RelD.monoW h4 rs)⟩
        · exact q.elim
      | bk sd1 S1 =>
        simp only [unlkS] at q
        split at q
        · rename_i l' el'
          intro ρ' H' σ' le rp rs
          obtain ⟨h1, h2, h3, h4⟩ := unl e hH w u1 u2 le rp el'
          exact ⟨h1, q ρ' _ σ' h2 h3 (rs.monoW h4)⟩
        · exact q.elim
      | ct sd1 S1 =>
        simp only [unlkS] at q
        split at q
        · rename_i l' el'
          intro ρ' H' σ' le rp rs
          obtain ⟨h1, h2, h3, h4⟩ := unl e hH w u1 u2 le rp el'
          exact ⟨h1, q ρ' _ σ' h2 h3 (rs.monoW h4)⟩
        · exact q.elim
      | ex x sd1 S1 => exact fun ρ' H' σ' c d le rp rs rx => q ρ' H' σ' c d (lk.trans le) rp rs rx
      | stuck => exact q.elim
      | pick t f ih => exact fun r hr => ih r (q r hr)
    · exact (h W ok).run pins s σ H E I ⟨sd, S, ρ, hs, hr, q⟩
  · exact (h W ok).run pins s σ H E I ⟨sd, S, ρ, hs, hr, q⟩
  · exact q.elim
theorem pm_lock {ex : Expr} {md : ME} {m : ME} (h : PEm G X ex m) : PEm G X ex (mLock md m) := fun W ok => by
  refine ⟨fun pins s σ H Q I ⟨sd, S, ρ, hs, hr, q⟩ => ?_⟩
  unfold mLock at q
  split at q
  · rename_i n S0 e0
    split at q
    · rename_i l el
      obtain ⟨b, eb, _⟩ := hr.cell n _ el
      obtain ⟨a, u, ea, e, hH, mu, w, u1, u2, hl⟩ := hr.lock (ρ := ρ) el (RelD.loc' eb)
      refine (pe_lock (h W ok)).run pins s σ H Q I ⟨a, u, hH, mu, fun od => ⟨sd, _, ρ, hs.mono (Le.upd (by rw [hH]; exact w)), hl od, ?_⟩⟩
      have lk : Le G ρ H ρ (upd H a (.frz od u)) := Le.upd (by rw [hH]; exact w)
      generalize m sd (S.set n (.dct 1 l)) = r at q
      induction r with
      | ok d S1 =>
        simp only [unlkE] at q
        split at q
        · rename_i l' el'
          intro ρ' H' v le rp rs
          obtain ⟨h1, h2, h3, h4⟩ := unl e hH w u1 u2 le rp el'
          exact ⟨h1, q ρ' _ v h2 h3 (RelD.monoW h4 rs)⟩
        · exact q.elim
      | exc x S1 => exact fun ρ' H' c d le rp rx => q ρ' H' c d (lk.trans le) rp rx
      | stuck => exact q.elim
      | pick t f ih => exact fun r hr => ih r (q r hr)
    · exact (h W ok).run pins s σ H Q I ⟨sd, S, ρ, hs, hr, q⟩
  · exact (h W ok).run pins s σ H Q I ⟨sd, S, ρ, hs, hr, q⟩
  · exact q.elim
end
end Y

/-! Y5: list comprehensions. -/
namespace Y
open PySem PySem.Spec PyProof.Rows L2
def wipeD (sd : SD) : List Nat → SD
  | [] => sd
  | v :: vs => (wipeD sd vs).set v none
section
variable {G : Glo} {X : Cx} {ρ : Rho} {H : Hp}
theorem RelSt.none {sd : SD} {σ : L2.St} (h : RelSt G ρ H sd σ) (i : Nat) : RelSt G ρ H (sd.set i Option.none) (σ.set i Option.none) := by
  refine ⟨by simp only [List.length_set]; exact h.1, fun j e hj => ?_⟩
  by_cases hij : i = j
  · subst hij
    rw [List.getElem?_set] at hj
    simp at hj
  · rw [List.getElem?_set_ne hij] at hj ⊢
    exact h.2 j e hj
theorem RelSt.wipe {sd : SD} {σ : L2.St} (h : RelSt G ρ H sd σ) : ∀ vs : List Nat, RelSt G ρ H (wipeD sd vs) (L2.wipe σ vs)
  | [] => h
  | v :: vs => (RelSt.wipe h vs).none v
theorem wipe_get {σ : L2.St} : ∀ {vs : List Nat} {j : Nat}, j < σ.length → (L2.wipe σ vs)[j]? = if j ∈ vs then some Option.none else σ[j]?
  | [], j, _ => by simp [L2.wipe]
  | v :: vs, j, hj => by
    unfold L2.wipe
    rw [List.getElem?_set]
    have hl : j < (L2.wipe σ vs).length := by rw [wipe_length]; exact hj
    by_cases e : v = j
    · subst e
      simp [hl]
    · rw [if_neg e, wipe_get hj]
      simp [Ne.symm e]
/-- two lots of slots that agree but for vs are one when vs is wiped -/
theorem wipe_eq {σ σ' : L2.St} {vs l : List Nat} (k : Kept l σ σ') (hl : ∀ j ∈ l, j ∈ vs) : L2.wipe σ' vs = L2.wipe σ vs := by
  refine List.ext_getElem? fun j => ?_
  by_cases hj : j < σ.length
  · rw [wipe_get hj, wipe_get (by rw [k.1]; exact hj)]
    split
    · rfl
    · rename_i hn
      exact k.2 j fun z => hn (hl j z)
  · rw [List.getElem?_eq_none (by rw [wipe_length, k.1]; omega), List.getElem?_eq_none (by rw [wipe_length]; omega)]
theorem wipe_twice {σ : L2.St} {vs : List Nat} : L2.wipe (L2.wipe σ vs) vs = L2.wipe σ vs := by
  refine List.ext_getElem? fun j => ?_
  by_cases hj : j < σ.length
  · rw [wipe_get (by rw [wipe_length]; exact hj), wipe_get hj]
    split <;> rfl
  · rw [List.getElem?_eq_none (by rw [wipe_length, wipe_length]; omega), List.getElem?_eq_none (by rw [wipe_length]; omega)]

def tYesM : MT := fun _ S => .ok true S
def PTsm (G : Glo) (X : Cx) (es : List Expr) (m : MT) : Prop := ∀ W, XOk G X W → PTs X es (tt G m W)
theorem pts_nilm : PTsm G X [] tYesM := fun W ok => ⟨fun pins s σ H Q I ⟨sd, S, ρ, hs, hr, h⟩ => pts_nil.run pins s σ H Q I (h.ok hr rfl)⟩
theorem pts_onem {c : Expr} {m : MT} (h : PTm G X c m) : PTsm G X [c] m := fun W ok => pts_one (h W ok)
def lcLoop (it : ItD) (t : Tg) (q : MT) (e : ME) (sd : SD) (dl : Nat) : Nat → Nat → Sto → Res D
  | 0, _, _ => .stuck
  | n + 1, i, S => match itNext it i S with
    | none => .stuck
    | some none => .ok (.loc dl) S
    | some (some d) => match asg t d sd with
      | none => .stuck
      | some sd1 => (q sd1 S).bindX fun k S1 => if k then (e sd1 S1).bindX fun y S2 => (match S2.get dl with
          | some (.lst acc) => if acc.length < 16777216 then lcLoop it t q e sd dl n (i + 1) (S2.set dl (.lst (acc ++ [y]))) else .stuck
          | _ => .stuck) else lcLoop it t q e sd dl n (i + 1) S1
def mLc (mi : MI) (t : Tg) (q : MT) (e : ME) (vs : List Nat) : ME := fun sd S => (mi sd S).bind fun it S1 => lcLoop it t q e (wipeD sd vs) S1.n (itLen it S1 + 1) 0 (S1.new (.lst []))
abbrev Wno : WX := fun _ _ _ _ => False
theorem blk_ok {s : Shared} {H : Hp} {scope : Scope} {cenv : Env} {fp : List Addr} (kk : G.K = X.K) : XOk G (X.blk s H scope cenv fp) Wno := ⟨takes0, PassesOwn.never, kk⟩
theorem lc_read {mi : MI} {t : Tg} {q : MT} {m : ME} {W : WX} {vs : List Nat} (kk : G.K = X.K) (hv : ∀ j ∈ t.slots, j ∈ vs) {σ : L2.St} {H : Hp} {Q : VK} (h : te G (mLc mi t q m vs) W σ H Q) : tLc (ti G mi W) (gOf X.K t) (tt G q Wno) (te G m Wno) vs σ H Q := by
  obtain ⟨sd, S, ρ, hs, hr, h⟩ := h
  refine ⟨sd, S, ρ, hs, hr, Aft.bind h fun ρ1 H1 J it S1 le1 r1 ij h1 => fun Dd hD => ?_⟩
  have leD : Le G ρ1 H1 (ext ρ1 S1.n Dd) (upd H1 Dd (.lst [])) := (Le.ext (r1.top _ (Nat.le_refl _))).trans (Le.same (same_new hD))
  have hs1 := hs.mono (le1.trans leD)
  refine ⟨fun i m2 H => ∃ S ρ, Le G (ext ρ1 S1.n Dd) (upd H1 Dd (.lst [])) ρ H ∧ Rep G ρ S H ∧ Aft G (RelD G) ρ H (lcLoop it t q m (wipeD sd vs) S1.n m2 i S) Q (fun c d H' => W c d σ H'),
    ⟨_, _, _, Le.refl, r1.new (c := .lst []) hD ⟨[], upd_same, .nil⟩, h1.le leD⟩, fun i m2 H2 ⟨S2, ρ2, le2, r2, h2⟩ => ?_⟩
  have hsw : RelSt G ρ2 H2 (wipeD sd vs) (L2.wipe σ vs) := (hs1.mono le2).wipe vs
  have hρD : ρ2 S1.n = some Dd := le2.rho _ _ ext_same
  cases m2 with
  | zero => exact h2.elim
  | succ m2 =>
    have ij2 := ij i ρ2 H2 S2 (leD.trans le2) r2
    simp only [lcLoop] at h2
    split at h2
    · exact h2.elim
    · rename_i en
      rw [en] at ij2
      exact .inl ⟨ij2, h2.ok r2 (RelD.loc' hρD)⟩
    · rename_i d en
      rw [en] at ij2
      obtain ⟨hgo, hy⟩ := ij2
      refine .inr ⟨hgo, _, fun H' hn => ⟨m2, Nat.lt_succ_self m2, hn⟩, fun x H3 hx => ?_⟩
      obtain ⟨l3, r3, rd⟩ := hy x H3 hx
      split at h2
      · exact h2.elim
      · rename_i sd1 ea
        refine gOf_ok kk rd (hsw.mono l3) ea fun σ2 s2 k2 => ?_
        refine ⟨(wipe_eq k2 hv).trans wipe_twice, sd1, S2, ρ2, s2, r3, ?_⟩
        refine Aft.bindX (h2.le l3) fun ρ4 H4 b k S4 l4 r4 eb h4 => ?_
        have eb : k = b := eb
        subst eb
        cases k with
        | false => exact ⟨S4, ρ4, (le2.trans l3).trans l4, r4, h4⟩
        | true =>
          refine ⟨sd1, S4, ρ4, s2.mono l4, r4, Aft.bindX h4 fun ρ5 H5 v y S5 l5 r5 rv h5 => ?_⟩
          split at h5
          · rename_i acc eacc
            split at h5
            · rename_i hlen
              have hρ5 : ρ5 S1.n = some Dd := l5.rho _ _ (l4.rho _ _ hρD)
              obtain ⟨a, xs, ea2, _, hH, hrel⟩ := r5.list eacc (RelD.loc' hρ5)
              cases ea2
              have w : Wr1 (H5 Dd) := by rw [hH]; exact trivial
              have lw := Le.upd (G := G) (ρ := ρ5) (o := .lst (xs ++ [v])) w.wr
              exact ⟨xs, hH, by rw [← hrel.length, sizeLine_eq]; exact hlen, _, ρ5, (((le2.trans l3).trans l4).trans l5).trans lw, r5.set (c' := .lst (acc ++ [y])) eacc hρ5 w ⟨_, upd_same, (hrel.mono lw).append (.one (rv.mono lw))⟩, h5.le lw⟩
            · exact h5.elim
          · exact h5.elim
theorem pm_lc {elt tg iter : Expr} {ifs : List Expr} {scope : Scope} {own : List (Str × Nat)} {pos : Pos} {mi : MI} {t : Tg} {q : MT} {m : ME} (hc : X.calm = true) (hN : X.N.Nodup) (hi : PIm G X tg iter mi) (ok : BlkOk X.N X.env.scope scope own)
    (hg : ∀ (s : Shared) (H : Hp) (C : Addr) (cl : List (Str × Addr)) (fp : List Addr), PG (X.blk s H scope (compEnvC scope cl C X.env) fp) tg (gOf X.K t)) (ht : ∀ (s : Shared) (H : Hp) (C : Addr) (cl : List (Str × Addr)) (fp : List Addr), PTsm G (X.blk s H scope (compEnvC scope cl C X.env) fp) ifs q)
    (he : ∀ (s : Shared) (H : Hp) (C : Addr) (cl : List (Str × Addr)) (fp : List Addr), PEm G (X.blk s H scope (compEnvC scope cl C X.env) fp) elt m) (hv : ∀ j ∈ t.slots, j ∈ own.map (·.2) := by decide) (hs : ∀ x, foldedSetIterable iter X.env x = pure x := by intro _; rfl) :
    PEm G X (.ListComp elt [⟨tg, iter, ifs, 0⟩] scope pos) (mLc mi t q m (own.map (·.2))) := fun W xk =>
  PE_imp (pe_lc hc hN (hi W xk) ok hg (fun s H C cl fp => ht s H C cl fp Wno (blk_ok xk.kk)) (fun s H C cl fp => he s H C cl fp Wno (blk_ok xk.kk)) hs) fun σ H Q h => lc_read xk.kk hv h
/-- name = [..] on one row -/
theorem ps_setLcm {i : Nat} {y : Str} {py spos : Pos} {elt tg iter : Expr} {ifs : List Expr} {scope : Scope} {own : List (Str × Nat)} {pos : Pos} {mi : MI} {t : Tg} {q : MT} {m : ME} (hc : X.calm = true) (hN : X.N.Nodup) (hi : PIm G X tg iter mi) (ok : BlkOk X.N X.env.scope scope own)
    (hg : ∀ (s : Shared) (H : Hp) (C : Addr) (cl : List (Str × Addr)) (fp : List Addr), PG (X.blk s H scope (compEnvC scope cl C X.env) fp) tg (gOf X.K t)) (ht : ∀ (s : Shared) (H : Hp) (C : Addr) (cl : List (Str × Addr)) (fp : List Addr), PTsm G (X.blk s H scope (compEnvC scope cl C X.env) fp) ifs q)
    (he : ∀ (s : Shared) (H : Hp) (C : Addr) (cl : List (Str × Addr)) (fp : List Addr), PEm G (X.blk s H scope (compEnvC scope cl C X.env) fp) elt m) (hv : ∀ j ∈ t.slots, j ∈ own.map (·.2) := by decide) (hs : ∀ x, foldedSetIterable iter X.env x = pure x := by intro _; rfl)
    (hy : X.N[i]? = some y := by rfl) (hyl : X.env.scope.names.lookup y = some .local := by rfl) (hsw : swapsWith (.ListComp elt [⟨tg, iter, ifs, 0⟩] scope pos) (some (.Name y py)) spos.line X.env = pure true := by exact sw_true rfl rfl rfl (by decide +kernel)) :
    PSm G X (.Assign [.Name y py] (.ListComp elt [⟨tg, iter, ifs, 0⟩] scope pos) spos) (sSet i (mLc mi t q m (own.map (·.2)))) := fun W xk =>
  PS_imp (ps_setLc hc hN hy hyl hsw (hi W xk) ok hg (fun s H C cl fp => ht s H C cl fp Wno (blk_ok xk.kk)) (fun s H C cl fp => he s H C cl fp Wno (blk_ok xk.kk)) hs) fun E σ H ⟨sd, S, ρ, hs, hr, h⟩ =>
    lc_read xk.kk hv ⟨sd, S, ρ, hs, hr, AftS.bind h hs fun ρ1 H1 v d S1 le r1 rd h1 => h1 ρ1 H1 _ Le.refl r1 ((hs.mono le).set rd i)⟩
end
end Y

/-! Y6: operators, built-ins. -/
namespace Y
open PySem PySem.Spec PyProof.Rows L2
def mulOk (i j : Int) : Bool := decide (i.natAbs < 18446744073709551616) || decide (i.natAbs.log2 + j.natAbs.log2 < 1000000)
def bAdd : D → D → Sto → Res D
  | .int i, .int j, S => .ok (.int (i + j)) S
  | .str x, .str y, S => if x.length + y.length ≤ 16777216 then .ok (.str (x ++ y)) S else .stuck
  | .tup x, .tup y, S => if x.length + y.length ≤ 16777216 then .ok (.tup (x ++ y)) S else .stuck
  | .loc a, .loc b, S => (match S.get a, S.get b with
    | some (.lst x), some (.lst y) => if x.length + y.length ≤ 16777216 then .ok (.loc S.n) (S.new (.lst (x ++ y))) else .stuck
    | _, _ => .stuck)
  | _, _, _ => .stuck
def bSub : D → D → Sto → Res D
  | .int i, .int j, S => .ok (.int (i - j)) S
  | _, _, _ => .stuck
def bMul : D → D → Sto → Res D
  | .int i, .int j, S => if mulOk i j then .ok (.int (i * j)) S else .stuck
  | .loc a, .int k, S => (match S.get a with
    | some (.lst x) => if -(2 ^ 63) ≤ k ∧ k < 2 ^ 63 ∧ x.length * k.toNat ≤ 16777216 then .ok (.loc S.n) (S.new (.lst (List.replicate k.toNat x).flatten)) else .stuck
    | _ => .stuck)
  | _, _, _ => .stuck
def bDiv : D → D → Sto → Res D
  | .int i, .int j, S => if 0 < j ∧ j.natAbs.log2 < 9000 then .ok (.int (i / j)) S else .stuck
  | _, _, _ => .stuck
def bMod : D → D → Sto → Res D
  | .int i, .int j, S => if 0 < j then .ok (.int (i % j)) S else .stuck
  | _, _, _ => .stuck
def bPow : D → D → Sto → Res D
  | .int i, .int j, S => if 0 ≤ j ∧ j ≤ 1000000 ∧ i.natAbs < 18446744073709551616 then .ok (.int (i ^ j.toNat)) S else .stuck
  | _, _, _ => .stuck
def cLt : D → D → Sto → Res D
  | .int i, .int j, S => .ok (.bl (decide (i < j))) S
  | _, _, _ => .stuck
def cLe : D → D → Sto → Res D
  | .int i, .int j, S => .ok (.bl (decide (i ≤ j))) S
  | _, _, _ => .stuck
def cGt : D → D → Sto → Res D
  | .int i, .int j, S => .ok (.bl (decide (j < i))) S
  | _, _, _ => .stuck
def cGe : D → D → Sto → Res D
  | .int i, .int j, S => .ok (.bl (decide (j ≤ i))) S
  | _, _, _ => .stuck
def uNeg : D → Sto → Res D
  | .int i, S => .ok (.int (-i)) S
  | _, _ => .stuck
def isNon : D → Bool
  | .non => true
  | _ => false
def isCls : D → Bool
  | .cls _ => true
  | _ => false
def cIs (d e : D) (S : Sto) : Res D := if isNon e && !isCls d then .ok (.bl (isNon d)) S else .stuck
def cIsNot (d e : D) (S : Sto) : Res D := if isNon e && !isCls d then .ok (.bl (!isNon d)) S else .stuck
/-! data as a whole -/
def allP (f : D → Option PyData) : List D → Option (List PyData)
  | [] => some []
  | d :: r => match f d, allP f r with
    | some x, some xs => some (x :: xs)
    | _, _ => none
def toPy (S : Sto) : Nat → D → Option PyData
  | 0, _ => none
  | n + 1, d => match d with
    | .non => some .none
    | .bl b => some (.bool b)
    | .int i => some (.int i)
    | .str x => some (.str ⟨x.toArray⟩)
    | .tup l => (allP (toPy S n) l).map .tuple
    | .loc k => (match S.get k with
      | some (.lst l) => (allP (toPy S n) l).map .list
      | _ => none)
    | _ => none
def eqDat (S : Sto) (d e : D) : Option Bool := match toPy S 12 d, toPy S 12 e with
  | some a, some b => if SeqAt.shaped a && SeqAt.shaped b then some (PyData.eqv a b) else none
  | _, _ => none
def cEq (d e : D) (S : Sto) : Res D := match eqDat S d e with
  | some b => .ok (.bl b) S
  | none => .stuck
def cNe (d e : D) (S : Sto) : Res D := match eqDat S d e with
  | some b => .ok (.bl (!b)) S
  | none => .stuck
section
variable {G : Glo} {X : Cx} {ρ : Rho} {H : Hp}
theorem OpM.of {F : Value → Value → Sem Value} {f : D → D → Sto → Res D} {r : R2} (h : OpR X F r) (k : G.K = X.K → ∀ (ρ : Rho) (H : Hp) (S : Sto) (x y : V) (d e : D) (Q : VK) (W : XK), Rep G ρ S H → RelD G ρ H d x → RelD G ρ H e y → Aft G (RelD G) ρ H (f d e S) Q W → r x y H Q) : OpM G X F f :=
  fun W ok pins s σ H ρ S x y v u d e Q I rx ry rp rd re q => h pins s σ H x y v u Q I rx ry (k ok.kk ρ H S x y d e Q _ rp rd re q)
theorem rel_int {i : Int} : RelD G ρ H (.int i) (.int i) := by simp only [RelD]
theorem rel_bl {b : Bool} : RelD G ρ H (.bl b) (.bl b) := by simp only [RelD]
theorem rel_non : RelD G ρ H .non .non := by simp only [RelD]
theorem rel_str {x : List Nat} : RelD G ρ H (.str x) (.str ⟨x.toArray⟩) := by simp only [RelD]
theorem str_len (x : List Nat) : (⟨x.toArray⟩ : Str).length = x.length := by show x.toArray.size = x.length; simp
theorem str_app (x y : List Nat) : (⟨x.toArray⟩ : Str) ++ ⟨y.toArray⟩ = ⟨(x ++ y).toArray⟩ := by
  show (⟨x.toArray ++ y.toArray⟩ : Str) = _
  simp
theorem om_sub : OpM G X (binaryOp .Sub) bSub := .of op_sub fun kk ρ H S x y d e Q W rp rd re q => by
  unfold bSub at q
  split at q
  · rename_i i j
    simp only [RelD] at rd re
    exact ⟨i, j, rd, re, q.ok rp rel_int⟩
  · exact q.elim
theorem om_mod : OpM G X (binaryOp .Mod) bMod := .of op_mod fun kk ρ H S x y d e Q W rp rd re q => by
  unfold bMod at q
  split at q
  · rename_i i j
    simp only [RelD] at rd re
    split at q
    · rename_i h
      exact ⟨i, j, rd, re, h, q.ok rp rel_int⟩
    · exact q.elim
  · exact q.elim
theorem om_div : OpM G X (binaryOp .FloorDiv) bDiv := .of op_fdivW fun kk ρ H S x y d e Q W rp rd re q => by
  unfold bDiv at q
  split at q
  · rename_i i j
    simp only [RelD] at rd re
    split at q
    · rename_i h
      exact ⟨i, j, rd, re, h, q.ok rp rel_int⟩
    · exact q.elim
  · exact q.elim
theorem om_pow : OpM G X (binaryOp .Pow) bPow := .of op_pow fun kk ρ H S x y d e Q W rp rd re q => by
  unfold bPow at q
  split at q
  · rename_i i j
    simp only [RelD] at rd re
    split at q
    · rename_i h
      exact ⟨i, j, rd, re, h, q.ok rp rel_int⟩
    · exact q.elim
  · exact q.elim
theorem om_mul : OpM G X (binaryOp .Mult) bMul := fun W ok pins s σ H ρ S x y v u d e Q I rx ry rp rd re q => by
  unfold bMul at q
  split at q
  · rename_i i j
    simp only [RelD] at rd re
    split at q
    · rename_i h
      unfold mulOk at h
      rcases Bool.or_eq_true_iff.mp h with h | h
      · have h := of_decide_eq_true h
        exact op_mul pins s σ H x y v u Q I rx ry ⟨i, j, rd, re, .inl ⟨by omega, by omega⟩, q.ok rp rel_int⟩
      · exact op_mulW pins s σ H x y v u Q I rx ry ⟨i, j, rd, re, (show CMulW i j from of_decide_eq_true (p := i.natAbs.log2 + j.natAbs.log2 < 1000000) h), q.ok rp rel_int⟩
    · exact q.elim
  · rename_i a k
    simp only [RelD] at re
    split at q
    · rename_i l el
      obtain ⟨p, xs, rfl, e1, hH, ht⟩ := rp.list el rd
      split at q
      · rename_i h
        refine op_rep pins s σ H _ y v u Q I rx ry ⟨p, k, xs, rfl, re, hH, h.1, h.2.1, by rw [← ht.length, sizeLine_eq]; exact h.2.2, fun z hz => ?_⟩
        have le : Le G ρ H (ext ρ S.n z) (upd H z (.lst (List.replicate k.toNat xs).flatten)) := (Le.ext (rp.top _ (Nat.le_refl _))).trans (Le.same (same_new hz))
        refine q _ _ _ le (rp.new (c := .lst (List.replicate k.toNat l).flatten) hz ⟨_, upd_same, ?_⟩) (RelD.loc' ext_same)
        have rr : ∀ n : Nat, RelDs G (ext ρ S.n z) (upd H z (.lst (List.replicate k.toNat xs).flatten)) (List.replicate n l).flatten (List.replicate n xs).flatten := fun n => by
          induction n with
          | zero => exact .nil
          | succ n ih =>
            simp only [List.replicate_succ, List.flatten_cons]
            exact (ht.mono le).append ih
        exact rr _
      · exact q.elim
    · exact q.elim
  · exact q.elim
theorem om_add : OpM G X (binaryOp .Add) bAdd := fun W ok pins s σ H ρ S x y v u d e Q I rx ry rp rd re q => by
  unfold bAdd at q
  split at q
  · rename_i i j
    simp only [RelD] at rd re
    exact op_add pins s σ H x y v u Q I rx ry ⟨i, j, rd, re, q.ok rp rel_int⟩
  · rename_i a b
    simp only [RelD] at rd re
    split at q
    · rename_i h
      exact op_add_str pins s σ H x y v u Q I rx ry ⟨_, _, rd, re, by rw [str_len, str_len, sizeLine_eq]; exact h, by rw [str_app]; exact q.ok rp rel_str⟩
    · exact q.elim
  · rename_i l m
    simp only [RelD] at rd re
    obtain ⟨a, xs, rfl, hx, tx⟩ := rd
    obtain ⟨b, ys, rfl, hy, ty⟩ := re
    split at q
    · rename_i h
      refine op_catA pins s σ H _ _ v u Q I rx ry ⟨a, b, xs, ys, rfl, rfl, (.inl (.inl hx)), (.inl (.inl hy)), by rw [← tx.length, ← ty.length, sizeLine_eq]; exact h, fun e => ?_, fun _ e => ?_, fun _ _ p hp => ?_⟩
      · subst e
        have e2 := tx.length
        have e3 : l = [] := List.length_eq_zero_iff.mp e2
        subst e3
        exact q.ok rp (RelD.tup' hy ty)
      · subst e
        have e2 := ty.length
        have e3 : m = [] := List.length_eq_zero_iff.mp e2
        subst e3
        rw [List.append_nil] at q
        exact q.ok rp (RelD.tup' hx tx)
      · have sm := same_new (o := .tup (xs ++ ys)) hp
        exact q ρ _ _ (Le.same sm) (rp.same sm) (RelD.tup' upd_same ((tx.mono (Le.same sm)).append (ty.mono (Le.same sm))))
    · exact q.elim
  · rename_i a b
    split at q
    · rename_i l m el em
      obtain ⟨p, xs, rfl, e1, hH, ht⟩ := rp.list el rd
      obtain ⟨p2, ys, rfl, e2, hH2, ht2⟩ := rp.list em re
      split at q
      · rename_i h
        refine op_cat pins s σ H _ _ v u Q I rx ry ⟨p, p2, xs, ys, rfl, rfl, hH, hH2, by rw [← ht.length, ← ht2.length, sizeLine_eq]; exact h, fun z hz => ?_⟩
        have le : Le G ρ H (ext ρ S.n z) (upd H z (.lst (xs ++ ys))) := (Le.ext (rp.top _ (Nat.le_refl _))).trans (Le.same (same_new hz))
        exact q _ _ _ le (rp.new (c := .lst (l ++ m)) hz ⟨_, upd_same, (ht.mono le).append (ht2.mono le)⟩) (RelD.loc' ext_same)
      · exact q.elim
    · exact q.elim
  · exact q.elim
theorem om_lt : OpM G X (compareOp .Lt) cLt := .of op_lt fun kk ρ H S x y d e Q W rp rd re q => by
  unfold cLt at q
  split at q
  · simp only [RelD] at rd re
    exact ⟨_, _, rd, re, q.ok rp rel_bl⟩
  · exact q.elim
theorem om_le : OpM G X (compareOp .LtE) cLe := .of op_le fun kk ρ H S x y d e Q W rp rd re q => by
  unfold cLe at q
  split at q
  · simp only [RelD] at rd re
    exact ⟨_, _, rd, re, q.ok rp rel_bl⟩
  · exact q.elim
theorem om_gt : OpM G X (compareOp .Gt) cGt := .of op_gt fun kk ρ H S x y d e Q W rp rd re q => by
  unfold cGt at q
  split at q
  · simp only [RelD] at rd re
    exact ⟨_, _, rd, re, q.ok rp rel_bl⟩
  · exact q.elim
theorem om_ge : OpM G X (compareOp .GtE) cGe := .of op_ge fun kk ρ H S x y d e Q W rp rd re q => by
  unfold cGe at q
  split at q
  · simp only [RelD] at rd re
    exact ⟨_, _, rd, re, q.ok rp rel_bl⟩
  · exact q.elim
theorem um_neg : UnM G X (unaryOp .USub) uNeg := fun W ok pins s σ H ρ S x v d Q I rx rp rd q => by
  unfold uNeg at q
  split at q
  · simp only [RelD] at rd
    exact un_neg pins s σ H x v Q I rx ⟨_, rd, q.ok rp rel_int⟩
  · exact q.elim
theorem isNon_ok {d : D} {x : V} (h : RelD G ρ H d x) (nc : ∀ n, d ≠ .cls n) : isNon d = decide (x = .non) := by
  cases d with
  | non => simp only [RelD] at h; subst h; rfl
  | bl b => simp only [RelD] at h; subst h; rfl
  | int b => simp only [RelD] at h; subst h; rfl
  | str b => simp only [RelD] at h; subst h; rfl
  | tup l => simp only [RelD] at h; obtain ⟨a, xs, rfl, _⟩ := h; rfl
  | loc n => simp only [RelD] at h; obtain ⟨a, _, rfl⟩ := h; rfl
  | cls n => exact absurd rfl (nc n)
  | scr l => simp only [RelD] at h; obtain ⟨a, rfl, _⟩ := h; rfl
/-! data -/
theorem allP_dp {f : D → Option PyData} {K : PySem.W.Frag} : ∀ {l : List D} {xs : List V} {ps : List PyData}, (∀ d p v, f d = some p → RelD G ρ H d v → Dp K H v p) → allP f l = some ps → RelDs G ρ H l xs → DpAll K H xs ps
  | [], xs, ps, hf, e, h => by
    simp only [allP, Option.some.injEq] at e
    subst e
    simp only [RelDs] at h
    subst h
    exact .nil
  | d :: r, xs, ps, hf, e, h => by
    simp only [allP] at e
    split at e
    · rename_i p ps' e1 e2
      cases e
      simp only [RelDs] at h
      obtain ⟨v, ys, rfl, h1, h2⟩ := h
      exact .cons (hf d p v e1 h1) (allP_dp hf e2 h2)
    · cases e
theorem toPy_dp {S : Sto} {K : PySem.W.Frag} (kk : G.K = K) (rp : Rep G ρ S H) : ∀ (n : Nat) {d : D} {p : PyData} {v : V}, toPy S n d = some p → RelD G ρ H d v → Dp K H v p
  | 0, d, p, v, e, h => by simp only [toPy] at e; cases e
  | n + 1, d, p, v, e, h => by
    cases d with
    | non => simp only [toPy, Option.some.injEq] at e; subst e; simp only [RelD] at h; subst h; exact .non
    | bl b => simp only [toPy, Option.some.injEq] at e; subst e; simp only [RelD] at h; subst h; exact .bl b
    | int b => simp only [toPy, Option.some.injEq] at e; subst e; simp only [RelD] at h; subst h; exact .int b
    | str b => simp only [toPy, Option.some.injEq] at e; subst e; simp only [RelD] at h; subst h; exact .str _
    | tup l =>
      simp only [toPy, Option.map_eq_some_iff] at e
      obtain ⟨ps, e1, rfl⟩ := e
      simp only [RelD] at h
      obtain ⟨a, xs, rfl, hq, ht⟩ := h
      exact .tup (.inl (.inl hq)) (allP_dp (fun d p v e h => toPy_dp kk rp n e h) e1 ht)
    | loc k =>
      simp only [toPy] at e
      split at e
      · rename_i l el
        simp only [Option.map_eq_some_iff] at e
        obtain ⟨ps, e1, rfl⟩ := e
        obtain ⟨a, xs, rfl, _, hH, ht⟩ := rp.list el h
        exact .lst (.inl (.inl hH)) (allP_dp (fun d p v e h => toPy_dp kk rp n e h) e1 ht)
      · cases e
    | cls c => simp only [toPy] at e; cases e
    | scr l => simp only [toPy] at e; cases e
theorem eqDat_ok {S : Sto} {d e : D} {x y : V} {b : Bool} {K : PySem.W.Frag} (kk : G.K = K) (rp : Rep G ρ S H) (h : eqDat S d e = some b) (hd : RelD G ρ H d x) (he : RelD G ρ H e y) : ∃ p q, Dp K H x p ∧ Dp K H y q ∧ SeqAt.shaped p = true ∧ SeqAt.shaped q = true ∧ PyData.eqv p q = b := by
  unfold eqDat at h
  split at h
  · rename_i p q e1 e2
    split at h
    · rename_i hs
      cases h
      simp only [Bool.and_eq_true] at hs
      exact ⟨p, q, toPy_dp kk rp 12 e1 hd, toPy_dp kk rp 12 e2 he, hs.1, hs.2, rfl⟩
    · cases h
  · cases h
theorem om_eq (hu : X.A.units + 64 < cLine) : OpM G X (compareOp .Eq) cEq := .of (op_eqD hu) fun kk ρ H S x y d e Q W rp rd re q => by
  unfold cEq at q
  split at q
  · rename_i b eb
    obtain ⟨p, r, h1, h2, h3, h4, h5⟩ := eqDat_ok kk rp eb rd re
    exact ⟨p, r, h1, h2, h3, h4, by rw [h5]; exact q.ok rp rel_bl⟩
  · exact q.elim
theorem om_ne (hu : X.A.units + 64 < cLine) : OpM G X (compareOp .NotEq) cNe := .of (op_neD hu) fun kk ρ H S x y d e Q W rp rd re q => by
  unfold cNe at q
  split at q
  · rename_i b eb
    obtain ⟨p, r, h1, h2, h3, h4, h5⟩ := eqDat_ok kk rp eb rd re
    exact ⟨p, r, h1, h2, h3, h4, by rw [h5]; exact q.ok rp rel_bl⟩
  · exact q.elim
end
end Y

/-! Y7: subscripts, methods of lists, built-in functions, defs. -/
namespace Y
open PySem PySem.Spec PyProof.Rows L2
/-! ### mirrors -/
def ixD : D → D → Sto → Res D
  | .loc n, .int i, S => (match S.get n with
    | some (.lst l) => (match atI l i with
      | some d => .ok d S
      | none => .stuck)
    | _ => .stuck)
  | .tup l, .int i, S => (match atI l i with
    | some d => .ok d S
    | none => .stuck)
  | .str l, .int i, S => if l.length ≤ 16777216 then (match atI l i with
    | some c => .ok (.str [c]) S
    | none => .stuck) else .stuck
  | .scr l, .int i, S => (match atI l i with
    | some c => .ok (.int c) S
    | none => .stuck)
  | _, _, _ => .stuck
def stL (o i v : D) (S : Sto) : Option Sto := match o, i with
  | .loc n, .int k => (match S.get n with
    | some (.lst l) => (match ixN l.length k with
      | some j => some (S.set n (.lst (l.set j v)))
      | none => none)
    | _ => none)
  | _, _ => none
def sStL (o i v : ME) : MS := fun sd S => bindS (v sd S) sd fun d S1 => bindS (o sd S1) sd fun od S2 => bindS (i sd S2) sd fun id S3 => match stL od id d S3 with
  | some S4 => .nx sd S4
  | none => .stuck
def fAppend (o : D) (as : List D) (S : Sto) : Res D := match o, as with
  | .loc n, [d] => (match S.get n with
    | some (.lst l) => if l.length < 16777216 then .ok .non (S.set n (.lst (l ++ [d]))) else .stuck
    | _ => .stuck)
  | _, _ => .stuck
/-- a method of a built-in type: tyc tells the type, f the method -/
def isLst (d : D) (S : Sto) : Bool := match d with
  | .loc n => (match S.get n with
    | some (.lst _) => true
    | _ => false)
  | _ => false
def mMeth (tc : D → Sto → Bool) (f : D → List D → Sto → Res D) (o : ME) (a : MA) : ME := fun sd S => (o sd S).bind fun od S1 => if tc od S1 then (a sd S1).bind fun as S2 => f od as S2 else .stuck
def fLen : MF
  | [.tup l], S => .ok (.int l.length) S
  | [.str l], S => if l.length ≤ 16777216 then .ok (.int l.length) S else .stuck
  | [.scr l], S => .ok (.int l.length) S
  | [.loc n], S => (match S.get n with
    | some (.lst l) => .ok (.int l.length) S
    | _ => .stuck)
  | _, _ => .stuck
def fAbs : MF
  | [.int i], S => .ok (.int (if i < 0 then -i else i)) S
  | _, _ => .stuck
def fMax2 : MF
  | [.int i, .int j], S => .ok (.int (if j > i then j else i)) S
  | _, _ => .stuck
def fMin2 : MF
  | [.int i, .int j], S => .ok (.int (if j < i then j else i)) S
  | _, _ => .stuck
def fInt : MF
  | [.int i], S => .ok (.int i) S
  | [.bl b], S => .ok (.int (if b then 1 else 0)) S
  | _, _ => .stuck
def fTuple : MF
  | [.tup l], S => .ok (.tup l) S
  | [.loc n], S => (match S.get n with
    | some (.lst l) => .ok (.tup l) S
    | _ => .stuck)
  | _, _ => .stuck
def fList : MF
  | [.tup l], S => .ok (.loc S.n) (S.new (.lst l))
  | [.loc n], S => (match S.get n with
    | some (.lst l) => .ok (.loc S.n) (S.new (.lst l))
    | _ => .stuck)
  | _, _ => .stuck
def bools : List D → Option (List Bool)
  | [] => some []
  | .bl b :: r => (bools r).map (b :: ·)
  | _ => none
def intsD : List D → Option (List Int)
  | [] => some []
  | .int b :: r => (intsD r).map (b :: ·)
  | _ => none
def fAll : MF
  | [.loc n], S => (match S.get n with
    | some (.lst l) => (match bools l with
      | some bs => .ok (.bl (bs.all id)) S
      | none => .stuck)
    | _ => .stuck)
  | _, _ => .stuck
def fAny : MF
  | [.loc n], S => (match S.get n with
    | some (.lst l) => (match bools l with
      | some bs => .ok (.bl (bs.any id)) S
      | none => .stuck)
    | _ => .stuck)
  | _, _ => .stuck
def fSum : MF
  | [.loc n], S => (match S.get n with
    | some (.lst l) => (match intsD l with
      | some ns => .ok (.int ns.sum) S
      | none => .stuck)
    | _ => .stuck)
  | _, _ => .stuck
/-- numbers of built-in classes -/
def tyD (d : D) (S : Sto) : Option Nat := match d with
  | .non => some 6
  | .bl _ => some 1
  | .int _ => some 0
  | .str _ => some 2
  | .tup _ => some 3
  | .scr _ => some 4
  | .loc n => (match S.get n with
    | some (.lst _) => some 4
    | some (.dct 0 _) => some 5
    | some (.dct (_ + 1) l) => if isK l then some 5 else none
    | some (.ins c _) => some c
    | _ => none)
  | .cls _ => none
def fIsI (kit : Nat → Nat → Option Bool) : MF
  | [d, .cls c], S => (match tyD d S with
    | some t => (match kit t c with
      | some b => .ok (.bl b) S
      | none => .stuck)
    | none => .stuck)
  | _, _ => .stuck
def btn : Nat → Option String
  | 0 => some "int"
  | 1 => some "bool"
  | 2 => some "str"
  | 3 => some "tuple"
  | 4 => some "list"
  | 5 => some "dict"
  | 6 => some "NoneType"
  | _ => none
section
variable {G : Glo} {X : Cx} {ρ : Rho} {H : Hp}
theorem atI_rel {l : List D} {xs : List V} {i : Int} {d : D} (h : RelDs G ρ H l xs) (e : atI l i = some d) : ∃ v, atI xs i = some v ∧ RelD G ρ H d v := by
  unfold atI at e ⊢
  rw [← h.length]
  cases hx : ixN l.length i with
  | none => rw [hx] at e; simp at e
  | some j =>
    rw [hx] at e
    simp only [Option.bind_some] at e ⊢
    exact h.get e
theorem pm_ix {a b : Expr} {ma mb : ME} {pos : Pos} (ha : PEm G X a ma) (hb : PEm G X b mb) (hs : PlainIx b := by exact fun _ _ => rfl) : PEm G X (.Subscript a b pos) (mBin ixD ma mb) := fun W ok => PE_imp (pe_ix ix_seq (ha W ok) (hb W ok) hs) fun σ H Q h => te_bin (R := fun x y H2 => rIx X.K x y H2 Q) h fun ρ H2 S d e x y rp rd re q => by
  unfold ixD at q
  split at q
  · rename_i n i
    simp only [RelD] at re
    split at q
    · rename_i l el
      split at q
      · rename_i d' ed
        obtain ⟨p, xs, rfl, e1, hH, ht⟩ := rp.list el rd
        obtain ⟨v, ev, rv⟩ := atI_rel ht ed
        exact .inl ⟨p, xs, i, v, rfl, re, .inl (.inl hH), ev, q.ok rp rv⟩
      · exact q.elim
    · exact q.elim
  · rename_i l i
    simp only [RelD] at re rd
    obtain ⟨p, xs, rfl, hq, ht⟩ := rd
    split at q
    · rename_i d' ed
      obtain ⟨v, ev, rv⟩ := atI_rel ht ed
      exact .inr (.inl ⟨p, xs, i, v, rfl, re, (.inl (.inl hq)), ev, q.ok rp rv⟩)
    · exact q.elim
  · rename_i l i
    simp only [RelD] at re rd
    split at q
    · rename_i hl
      split at q
      · rename_i c ec
        refine .inr (.inr ⟨_, i, c, rd, re, by rw [str_len, sizeLine_eq]; exact hl, ?_, ?_⟩)
        · show atI l.toArray.toList i = some c
          rw [List.toList_toArray]
          exact ec
        · exact q.ok rp rel_str
      · exact q.elim
    · exact q.elim
  · rename_i l i
    simp only [RelD] at re rd
    obtain ⟨p, rfl, hq⟩ := rd
    split at q
    · rename_i c ec
      have hq2 := hq.seq
      rw [ok.kk] at hq2
      refine .inl ⟨p, _, i, .int c, rfl, re, hq2, ?_, q.ok rp rel_int⟩
      unfold atI at ec ⊢
      rw [List.length_map]
      cases hx : ixN l.length i with
      | none => rw [hx] at ec; simp at ec
      | some j =>
        rw [hx] at ec
        simp only [Option.bind_some] at ec ⊢
        rw [List.getElem?_map, ec]
        rfl
    · exact q.elim
  · exact q.elim
/-- o[i] = e on a list -/
theorem ps_stL {o i e : Expr} {mo mi me : ME} {pos spos : Pos} (ho : PEm G X o mo) (hi : PEm G X i mi) (he : PEm G X e me)
    (hs : swapsWithSole [.Subscript o i spos] e pos.line X.env = pure false := by rfl) (hw : swappedStores [.Subscript o i spos] e X.env = pure none := by rfl)
    (h1 : (assignEach [.Subscript o i spos] X.env).map (·.2) = [assign (.Subscript o i spos) X.env] := by rfl)
    (ha : ∀ v, assign (.Subscript o i spos) X.env v = (do
      let ov ← holding [v] (eval o X.env)
      let iv ← holding [v, ov] (eval i X.env)
      standAt spos
      holding [v, ov, iv] (setItem ov iv v)
      release [v, ov, iv] []) := by intro _; rfl) : PSm G X (.Assign [.Subscript o i spos] e pos) (sStL mo mi me) := fun W ok =>
  PS_imp (ps_asg (he W ok) (pg_sub (ho W ok) (hi W ok) set_list ha) hs hw h1) fun E σ H ⟨sd, S, ρ, hs, hr, h⟩ =>
  ⟨sd, S, ρ, hs, hr, AftS.bind h hs fun ρ1 H1 v d S1 le1 r1 rd h1 => ⟨sd, S1, ρ1, hs.mono le1, r1, AftS.bind h1 (hs.mono le1) fun ρ2 H2 ov od S2 le2 r2 rod h2 =>
    ⟨sd, S2, ρ2, (hs.mono le1).mono le2, r2, AftS.bind h2 ((hs.mono le1).mono le2) fun ρ3 H3 iv id S3 le3 r3 rid h3 => by
      split at h3
      · rename_i S4 e4
        unfold stL at e4
        split at e4
        · rename_i n k
          split at e4
          · rename_i l el
            split at e4
            · rename_i j ej
              cases e4
              obtain ⟨p, xs, rfl, e5, hH, ht⟩ := r3.list el (rod.mono le3)
              simp only [RelD] at rid
              have w : Wr1 (H3 p) := by rw [hH]; exact trivial
              have lw := Le.upd (G := G) (ρ := ρ3) (o := .lst (xs.set j v)) w.wr
              refine ⟨p, xs, k, j, rfl, rid, hH, by rw [← ht.length]; exact ej, h3 ρ3 _ σ lw (r3.set (c' := .lst (l.set j d)) el e5 w ⟨_, upd_same, ?_⟩) ((((hs.mono le1).mono le2).mono le3).mono lw)⟩
              exact (ht.mono lw).set ((((rd.mono le2).mono le3).mono lw)) j
            · cases e4
          · cases e4
        · cases e4
      · exact h3.elim⟩⟩⟩
theorem pm_append {o e : Expr} {mo me : ME} {apos cpos : Pos} (ho : PEm G X o mo) (he : PEm G X e me)
    (hbase : attributeBase o "append" X.env (eval o X.env) = eval o X.env := by rfl)
    (hfew : ((backTo cpos (starEach [e] X.env)).all (fun x => !x.1) && (backToKw cpos (keywordEach [] X.env)).all (fun x => x.1.isSome)
      && decide (([e] : List Expr).length + ([] : List Keyword).length + (if ([] : List Keyword).isEmpty then 0 else 1) < 30)) = true := by rfl)
    (hline : (apos.endLine == cpos.line) = true := by rfl) (hs : starEach [e] X.env = (false, eval e X.env) :: starEach [] X.env := by rfl) (hplain : (backTo cpos (starEach [] X.env)).any (·.1) = false := by rfl) :
    PEm G X (.Call (.Attribute o "append" apos) [e] [] cpos) (mMeth isLst fAppend mo (mCons me mNil)) := fun W ok =>
  PE_imp (pe_bm PySem.F.plainAttrs_list PySem.F.slot_list_append PySem.F.type_list_append mt_append (ho W ok) (pa_consm he pa_nilm hs W ok) hbase hfew hline hs hplain) fun σ H Q ⟨sd, S, ρ, hs, hr, h⟩ =>
  ⟨sd, S, ρ, hs, hr, Aft.bind h fun ρ1 H1 v d S1 le1 r1 rd h1 => by
    split at h1
    · rename_i ht
      unfold isLst at ht
      split at ht
      · rename_i n
        split at ht
        · rename_i l el
          obtain ⟨p, xs, rfl, e5, hH, htl⟩ := r1.list el rd
          refine ⟨.inl ⟨rfl, xs, .inl (.inl hH)⟩, sd, S1, ρ1, hs.mono le1, r1, Aft.bind h1 fun ρ2 H2 vs ds S2 le2 r2 rds h2 => ?_⟩
          unfold fAppend at h2
          split at h2
          · rename_i n' d' en
            cases en
            simp only [RelDs] at rds
            obtain ⟨v1, _, rfl, r4, rfl⟩ := rds
            split at h2
            · rename_i l2 el2
              obtain ⟨p2, xs2, ep, e6, hH2, ht2⟩ := r2.list el2 (rd.mono le2)
              cases ep
              split at h2
              · rename_i hlen
                have w : Wr1 (H2 p) := by rw [hH2]; exact trivial
                have lw := Le.upd (G := G) (ρ := ρ2) (o := .lst (xs2 ++ [v1])) w.wr
                exact ⟨p, xs2, v1, rfl, rfl, hH2, by rw [← ht2.length, sizeLine_eq]; exact hlen, h2 ρ2 _ .non lw (r2.set (c' := .lst (l2 ++ [d'])) el2 e6 w ⟨_, upd_same, (ht2.mono lw).append (.one (r4.mono lw))⟩) rel_non⟩
              · exact h2.elim
            · exact h2.elim
          · exact h2.elim
        · cases ht
      · cases ht
    · exact h1.elim⟩
/-! ### built-in functions -/
theorem CallM.of {F : Value} {f : MF} {r : List V → Hp → VK → Prop} (h : CallR X F r) (k : G.K = X.K → ∀ (ρ : Rho) (H : Hp) (S : Sto) (xs : List V) (ds : List D) (Q : VK) (W : XK), Rep G ρ S H → RelDs G ρ H ds xs → Aft G (RelD G) ρ H (f ds S) Q W → r xs H Q) : CallM G X F f :=
  fun W ok pins s σ H ρ S xs us ds Q I r rp rd q => h pins s σ H xs us Q I r (k ok.kk ρ H S xs ds Q _ rp rd q)
theorem cm_len : CallM G X (.builtin "len") fLen := .of call_len fun kk ρ H S xs ds Q W rp rd q => by
  unfold fLen at q
  split at q
  · rename_i l
    simp only [RelDs, RelD] at rd
    obtain ⟨v, _, rfl, ⟨a, ys, rfl, hq, ht⟩, rfl⟩ := rd
    exact ⟨_, l.length, rfl, .inr ⟨ys, (.inl (.inl hq)), ht.length⟩, q.ok rp rel_int⟩
  · rename_i l
    simp only [RelDs, RelD] at rd
    obtain ⟨v, _, rfl, rfl, rfl⟩ := rd
    split at q
    · rename_i hl
      exact ⟨_, l.length, rfl, ⟨by rw [str_len, sizeLine_eq]; exact hl, (str_len l).symm⟩, q.ok rp rel_int⟩
    · exact q.elim
  · rename_i l
    simp only [RelDs, RelD] at rd
    obtain ⟨v, _, rfl, ⟨a, rfl, hq⟩, rfl⟩ := rd
    have hq2 := hq.seq
    rw [kk] at hq2
    exact ⟨_, l.length, rfl, .inl ⟨_, hq2, by simp⟩, q.ok rp rel_int⟩
  · rename_i n
    simp only [RelDs] at rd
    obtain ⟨v, _, rfl, rd, rfl⟩ := rd
    split at q
    · rename_i l el
      obtain ⟨p, ys, rfl, e5, hH, ht⟩ := rp.list el rd
      exact ⟨_, l.length, rfl, .inl ⟨ys, .inl (.inl hH), ht.length⟩, q.ok rp rel_int⟩
    · exact q.elim
  · exact q.elim
theorem cm_abs : CallM G X (.builtin "abs") fAbs := .of call_abs fun kk ρ H S xs ds Q W rp rd q => by
  unfold fAbs at q
  split at q
  · simp only [RelDs, RelD] at rd
    obtain ⟨_, _, rfl, rfl, rfl⟩ := rd
    exact ⟨_, rfl, q.ok rp rel_int⟩
  · exact q.elim
theorem cm_max2 (hc : X.calm = true) : CallM G X (.builtin "max") fMax2 := .of (call_max2 hc) fun kk ρ H S xs ds Q W rp rd q => by
  unfold fMax2 at q
  split at q
  · simp only [RelDs, RelD] at rd
    obtain ⟨_, _, rfl, rfl, _, _, rfl, rfl, rfl⟩ := rd
    exact ⟨_, _, rfl, q.ok rp rel_int⟩
  · exact q.elim
theorem cm_min2 (hc : X.calm = true) : CallM G X (.builtin "min") fMin2 := .of (call_min2 hc) fun kk ρ H S xs ds Q W rp rd q => by
  unfold fMin2 at q
  split at q
  · simp only [RelDs, RelD] at rd
    obtain ⟨_, _, rfl, rfl, _, _, rfl, rfl, rfl⟩ := rd
    exact ⟨_, _, rfl, q.ok rp rel_int⟩
  · exact q.elim
theorem cm_int : CallM G X (.type "int") fInt := .of call_int1 fun kk ρ H S xs ds Q W rp rd q => by
  unfold fInt at q
  split at q
  · simp only [RelDs, RelD] at rd
    obtain ⟨_, _, rfl, rfl, rfl⟩ := rd
    exact .inl ⟨_, rfl, q.ok rp rel_int⟩
  · simp only [RelDs, RelD] at rd
    obtain ⟨_, _, rfl, rfl, rfl⟩ := rd
    exact .inr ⟨_, rfl, q.ok rp rel_int⟩
  · exact q.elim
theorem cm_tuple : CallM G X (.type "tuple") fTuple := .of call_tuple_of fun kk ρ H S xs ds Q W rp rd q => by
  unfold fTuple at q
  split at q
  · rename_i l
    simp only [RelDs, RelD] at rd
    obtain ⟨_, _, rfl, ⟨a, ys, rfl, hq, ht⟩, rfl⟩ := rd
    exact ⟨a, ys, rfl, .inr ⟨(.inl (.inl hq)), q.ok rp (RelD.tup' hq ht)⟩⟩
  · rename_i n
    simp only [RelDs] at rd
    obtain ⟨v, _, rfl, rd, rfl⟩ := rd
    split at q
    · rename_i l el
      obtain ⟨p, ys, rfl, e5, hH, ht⟩ := rp.list el rd
      refine ⟨p, ys, rfl, .inl ⟨.inl (.inl hH), fun z hz => ?_⟩⟩
      have sm := same_new (o := .tup ys) hz
      exact q ρ _ _ (Le.same sm) (rp.same sm) (RelD.tup' upd_same (ht.mono (Le.same sm)))
    · exact q.elim
  · exact q.elim
theorem cm_list : CallM G X (.type "list") fList := .of call_list_of fun kk ρ H S xs ds Q W rp rd q => by
  have nw : ∀ {l : List D} {ys : List V} (z : Addr), H z = none → RelDs G ρ H l ys → Aft G (RelD G) ρ H (.ok (.loc S.n) (S.new (.lst l))) Q W → Q (.ref z) (upd H z (.lst ys)) := fun {l ys} z hz ht q => by
    have le : Le G ρ H (ext ρ S.n z) (upd H z (.lst ys)) := (Le.ext (rp.top _ (Nat.le_refl _))).trans (Le.same (same_new hz))
    exact q _ _ _ le (rp.new (c := .lst l) hz ⟨_, upd_same, ht.mono le⟩) (RelD.loc' ext_same)
  unfold fList at q
  split at q
  · rename_i l
    simp only [RelDs, RelD] at rd
    obtain ⟨_, _, rfl, ⟨a, ys, rfl, hq, ht⟩, rfl⟩ := rd
    exact ⟨a, ys, rfl, .inr ((.inl (.inl hq))), fun z hz => nw z hz ht q⟩
  · rename_i n
    simp only [RelDs] at rd
    obtain ⟨v, _, rfl, rd, rfl⟩ := rd
    split at q
    · rename_i l el
      obtain ⟨p, ys, rfl, e5, hH, ht⟩ := rp.list el rd
      exact ⟨p, ys, rfl, .inl (.inl (.inl hH)), fun z hz => nw z hz ht q⟩
    · exact q.elim
  · exact q.elim
theorem bools_rel : ∀ {l : List D} {bs : List Bool} {xs : List V}, bools l = some bs → RelDs G ρ H l xs → xs = bs.map V.bl
  | [], bs, xs, e, h => by
    simp only [bools, Option.some.injEq] at e
    subst e
    simp only [RelDs] at h
    exact h
  | d :: r, bs, xs, e, h => by
    cases d with
    | bl b =>
      simp only [bools, Option.map_eq_some_iff] at e
      obtain ⟨bs', e1, rfl⟩ := e
      simp only [RelDs, RelD] at h
      obtain ⟨v, ys, rfl, rfl, h2⟩ := h
      rw [bools_rel e1 h2]
      rfl
    | _ => simp only [bools] at e; cases e
theorem ints_rel : ∀ {l : List D} {bs : List Int} {xs : List V}, intsD l = some bs → RelDs G ρ H l xs → xs = bs.map V.int
  | [], bs, xs, e, h => by
    simp only [intsD, Option.some.injEq] at e
    subst e
    simp only [RelDs] at h
    exact h
  | d :: r, bs, xs, e, h => by
    cases d with
    | int b =>
      simp only [intsD, Option.map_eq_some_iff] at e
      obtain ⟨bs', e1, rfl⟩ := e
      simp only [RelDs, RelD] at h
      obtain ⟨v, ys, rfl, rfl, h2⟩ := h
      rw [ints_rel e1 h2]
      rfl
    | _ => simp only [intsD] at e; cases e
theorem cm_all (hc : X.calm = true) : CallM G X (.builtin "all") fAll := .of (cr_all hc) fun kk ρ H S xs ds Q W rp rd q => by
  unfold fAll at q
  split at q
  · rename_i n
    simp only [RelDs] at rd
    obtain ⟨v, _, rfl, rd, rfl⟩ := rd
    split at q
    · rename_i l el
      split at q
      · rename_i bs eb
        obtain ⟨p, ys, rfl, e5, hH, ht⟩ := rp.list el rd
        exact ⟨p, bs, rfl, .inl (.inl (by rw [hH, bools_rel eb ht])), q.ok rp rel_bl⟩
      · exact q.elim
    · exact q.elim
  · exact q.elim
theorem cm_any (hc : X.calm = true) : CallM G X (.builtin "any") fAny := .of (cr_any hc) fun kk ρ H S xs ds Q W rp rd q => by
  unfold fAny at q
  split at q
  · rename_i n
    simp only [RelDs] at rd
    obtain ⟨v, _, rfl, rd, rfl⟩ := rd
    split at q
    · rename_i l el
      split at q
      · rename_i bs eb
        obtain ⟨p, ys, rfl, e5, hH, ht⟩ := rp.list el rd
        exact ⟨p, bs, rfl, .inl (.inl (by rw [hH, bools_rel eb ht])), q.ok rp rel_bl⟩
      · exact q.elim
    · exact q.elim
  · exact q.elim
theorem cm_sum (hc : X.calm = true) : CallM G X (.builtin "sum") fSum := .of (cr_sum hc) fun kk ρ H S xs ds Q W rp rd q => by
  unfold fSum at q
  split at q
  · rename_i n
    simp only [RelDs] at rd
    obtain ⟨v, _, rfl, rd, rfl⟩ := rd
    split at q
    · rename_i l el
      split at q
      · rename_i bs eb
        obtain ⟨p, ys, rfl, e5, hH, ht⟩ := rp.list el rd
        exact ⟨p, bs, rfl, .inl (.inl (by rw [hH, ints_rel eb ht])), q.ok rp rel_int⟩
      · exact q.elim
    · exact q.elim
  · exact q.elim

/-! ### defs -/
def spM (G : Glo) (m : MF) : Sp := fun vs H Q E => ∃ ds S ρ, RelDs G ρ H ds vs ∧ Rep G ρ S H ∧ Aft G (RelD G) ρ H (m ds S) Q E
abbrev FnM (G : Glo) (P : Program) (w : World) (mg : Str → Option Value) (base : Heap) (k : Nat) (f : Addr) (m : MF) : Prop := FnR P w G.K mg base (L2.CX P w) k f (spM G m)
theorem cm_fn {g : Addr} {m : MF} {k : Nat} (F : FnM G X.prog X.w X.mg X.base k g m) (hr : Room k X.A) : CallM G X (.ref g) m := fun W ok pins s σ H ρ S xs us ds Q I r rp rd q => by
  have F' : FnR X.prog X.w X.K X.mg X.base (L2.CX X.prog X.w) k g (spM G m) := by rw [← ok.kk]; exact F
  refine wpAny_call (codeAny_mono (F' X.A X.stack s H us xs Q (fun c a H' => W c a σ H') hr I.env0 r ⟨ds, S, ρ, rd, rp, q⟩) fun r s' hq => ?_)
  cases r with
  | error e => exact ok.tk e s' (XE.of_call I (fun cls d H' h => h) hq)
  | ok fl =>
    cases fl with
    | ret u => exact I.after hq
    | next => exact False.elim hq
    | brk => exact False.elim hq
    | cont => exact False.elim hq
def stD (n : Nat) (ds : List D) : SD := ds.map some ++ List.replicate (n - ds.length) none
def SRes.res (r : SRes) : Res D := match r with
  | .rt d S1 => .ok d S1
  | .nx _ S1 => .ok .non S1
  | .ex x _ S1 => .exc x S1
  | .pick t f => .pick t fun r => (f r).res
  | _ => .stuck
def mkF (n np : Nat) (b : MS) : MF := fun ds S => if ds.length = np then (b (stD n ds) S).res else .stuck
theorem stD_rel {N : List Str} {ds : List D} {vs : List V} (h : RelDs G ρ H ds vs) : RelSt G ρ H (stD N.length ds) (L2.start N vs) := by
  refine ⟨by simp [stD, L2.start, h.length], fun i d e => ?_⟩
  unfold stD at e
  unfold L2.start
  by_cases hi : i < ds.length
  · rw [List.getElem?_append_left (by simpa using hi), List.getElem?_map] at e
    obtain ⟨d', e1, e2⟩ := Option.map_eq_some_iff.mp e
    cases e2
    obtain ⟨v, ev, rv⟩ := h.get e1
    refine ⟨v, ?_, rv⟩
    rw [List.getElem?_append_left (by simpa [← h.length] using hi), List.getElem?_map, ev]
    rfl
  · rw [List.getElem?_append_right (by simpa using Nat.le_of_not_lt hi), List.getElem?_replicate] at e
    split at e <;> cases e
/-- a def keeps to its mirror -/
theorem fn_ok {P : Program} {w : World} {mg : Str → Option Value} {base : Heap} {x qual : Str} {st : Stmt} {f : Addr} {fd : FuncData} {N ps : List Str} {k n np : Nat} {b : MS} (F : Fun G.K x qual st f fd) (Sc : FnScope N ps (defScope st)) (hn : N.length = n) (hp : ps.length = np) (hb : Binds G.K fd ps [])
    (body : ∀ (cdv : Value) (A : Around) (outer : List Env) (s : Shared) (H : Hp) (E : XK), Room k (A.deeper (envOfC qual (defScope st) s.heap.objs.size f cdv)) → PSsm G (cxOf (L2.CX P w) P w G.K mg base N qual (defScope st) f cdv A outer s H E) (defBody st) b) :
    FnM G P w mg base (k + 1) f (mkF n np b) := by
  have R := (F.okX (P := P) (w := w) (mg := mg) (base := base) (k := k) (sp := spM G (mkF n np b)) Sc (fun vs H Q E h => ?_) (fun cdv A outer s H vs Q E hr h => ?_)).raw hb Paired.nil
  · exact R.imp fun vs H Q E h => by rw [List.append_nil]; exact h
  · obtain ⟨ds, S, ρ, rd, rp, q⟩ := h
    unfold mkF at q
    split at q
    · rename_i hl
      rw [← rd.length, hl, hp]
    · exact q.elim
  · obtain ⟨ds, S, ρ, rd, rp, q⟩ := h
    refine ⟨_, body cdv A outer s H E hr (fun cls d _ H => E cls d H) ⟨takes_of rfl rfl rfl rfl, passes_of rfl, rfl⟩, stD n ds, S, ρ, by rw [← hn]; exact stD_rel rd, rp, ?_⟩
    unfold mkF at q
    split at q
    · generalize b (stD n ds) S = r at q
      induction r with
      | rt d S1 => exact q
      | nx sd1 S1 => exact fun ρ' H' σ' le r1 _ => q ρ' H' .non le r1 rel_non
      | ex x sd1 S1 => exact fun ρ' H' σ' c d le r1 _ rx => q ρ' H' c d le r1 rx
      | bk sd1 S1 => exact q.elim
      | ct sd1 S1 => exact q.elim
      | stuck => exact q.elim
      | pick t f ih => exact fun r hr => ih r (q r hr)
    · exact q.elim
end
end Y

/-! Y8: short rules for printed derivations; isinstance; is None; the dice. -/
namespace Y
open PySem PySem.Spec PyProof.Rows L2
section
variable {G : Glo} {X : Cx} {ρ : Rho} {H : Hp}
theorem pgn {i : Nat} {x : Str} {pos : Pos} (hN : X.N.Nodup) (hi : X.N[i]? = some x := by rfl) (hx : Loc X.env.scope x := by first | exact Or.inl rfl | exact Or.inr rfl)
    (hf : X.fn x = true ∨ X.env.scope.names.lookup x = some .local := by first | exact .inl rfl | exact .inr rfl) : PG X (.Name x pos) (gOf X.K (.nm i)) := pg_name hN hi hx hf
theorem pgt {es : List Expr} {k : Nat} {l : List Tg} {pos : Pos} (hc : X.calm = true) (h : PGs X es (gsOf X.K l)) (hn : (assignEach es X.env).length = l.length := by rfl) (hst : (assignEach es X.env).findIdx? (·.1) = none := by rfl) : PG X (.Tuple es k pos) (gOf X.K (.tp l)) := pg_tup hc h hn hst
theorem pgs0 : PGs X [] (gsOf X.K []) := pgs_nil
theorem pgs1 {e : Expr} {es : List Expr} {t : Tg} {l : List Tg} (h1 : PG X e (gOf X.K t)) (h2 : PGs X es (gsOf X.K l)) (he : (assignEach (e :: es) X.env).map (·.2) = assign e X.env :: (assignEach es X.env).map (·.2) := by rfl) : PGs X (e :: es) (gsOf X.K (t :: l)) := by
  first | exact pgs_cons h1 h2 he | exact pgs_cons h1 h2
/-- a constant of the module -/
theorem pm_globE {x : Str} {d : D} {pos : Pos} (hm : ∃ u v, X.mg x = some u ∧ RelV v u ∧ ∀ ρ H, RelD G ρ H d v) (hg : Gl X x := by rfl) (hd : (x == ("__debug__" : Str)) = false := by decide) : PEm G X (.Name x pos) (mC d) :=
  let ⟨_, _, h1, h2, h3⟩ := hm
  pm_glob hg h1 h2 h3 hd
/-- a built-in class as a value -/
theorem pm_bty {x : Str} {n : Nat} {T : String} {pos : Pos} (hb : G.ca n = .type T) (hm : X.mg x = none) (hv : bootBuiltins x = some (.type T)) (hg : Gl X x := by rfl) (hn : x ≠ "__name__" := by decide) (hd : (x == ("__debug__" : Str)) = false := by decide) : PEm G X (.Name x pos) (mC (.cls n)) :=
  pm_c (v := .ty T) (pe_bltn hg hm hv rfl hn hd) fun _ _ => by simp only [RelD, hb]; rfl
theorem isN_ok {d e : D} {x y : V} (h : (isNon e && !isCls d) = true) (hd : RelD G ρ H d x) (he : RelD G ρ H e y) : y = .non ∧ decide (x = .non) = isNon d := by
  simp only [Bool.and_eq_true, Bool.not_eq_true'] at h
  have nc : ∀ n, d ≠ .cls n := fun n z => by
    rw [z] at h
    exact Bool.noConfusion (show true = false from h.2)
  refine ⟨?_, (isNon_ok hd nc).symm⟩
  cases e with
  | non => simpa only [RelD] using he
  | _ => exact Bool.noConfusion (show false = true from h.1)
theorem om_is : OpM G X (compareOp .Is) cIs := .of op_isN fun kk ρ H S x y d e Q W rp rd re q => by
  unfold cIs at q
  split at q
  · rename_i h
    obtain ⟨h1, h2⟩ := isN_ok h rd re
    exact ⟨h1, by rw [h2]; exact q.ok rp rel_bl⟩
  · exact q.elim
theorem om_isnot : OpM G X (compareOp .IsNot) cIsNot := .of op_notN fun kk ρ H S x y d e Q W rp rd re q => by
  unfold cIsNot at q
  split at q
  · rename_i h
    obtain ⟨h1, h2⟩ := isN_ok h rd re
    exact ⟨h1, by rw [h2]; exact q.ok rp rel_bl⟩
  · exact q.elim
/-! ### isinstance -/
theorem tyD_ok {S : Sto} {d : D} {x : V} {t : Nat} (kk : G.K = X.K) (bt : ∀ n T, btn n = some T → G.ca n = .type T) (rp : Rep G ρ S H) (rd : RelD G ρ H d x) (h : tyD d S = some t) :
    TyX X.K H x (G.ca t) ∨ ∃ a C dx vs, x = .ref a ∧ G.ca t = .ref C ∧ SlX.Slt H a C dx vs := by
  unfold tyD at h
  split at h
  · cases h
    simp only [RelD] at rd
    subst rd
    rw [bt 6 _ rfl]
    exact .inl (.base .non)
  · cases h
    simp only [RelD] at rd
    subst rd
    rw [bt 1 _ rfl]
    exact .inl (.base (.bl _))
  · cases h
    simp only [RelD] at rd
    subst rd
    rw [bt 0 _ rfl]
    exact .inl (.base (.int _))
  · cases h
    simp only [RelD] at rd
    subst rd
    rw [bt 2 _ rfl]
    exact .inl (.base (.str _))
  · cases h
    simp only [RelD] at rd
    obtain ⟨a, xs, rfl, hq, _⟩ := rd
    rw [bt 3 _ rfl]
    exact .inl (.base (.tup hq))
  · cases h
    simp only [RelD] at rd
    obtain ⟨a, rfl, hq⟩ := rd
    rw [bt 4 _ rfl]
    have hq := hq.seq
    rw [kk] at hq
    rcases hq with (hq | ⟨o, hq⟩) | ⟨o, its, n, e, c, _⟩
    · exact .inl (.base (.lst hq))
    · exact .inl (.base (.frz hq))
    · exact .inl (.kList e c)
  · rename_i n
    split at h
    · rename_i l el
      cases h
      obtain ⟨a, xs, rfl, _, hH, _⟩ := rp.list el rd
      rw [bt 4 _ rfl]
      exact .inl (.base (.lst hH))
    · rename_i l el
      cases h
      simp only [RelD] at rd
      obtain ⟨a, e1, rfl⟩ := rd
      obtain ⟨b, e2, c⟩ := rp.cell n _ el
      rw [e1] at e2
      cases e2
      rw [bt 5 _ rfl]
      rcases c with ⟨kvs, hd, _⟩ | ⟨_, kvs, hd, _⟩
      · exact .inl (.base (.dK hd))
      · exact .inl (.base (.dT hd))
    · rename_i lk l el
      split at h
      · rename_i hk
        cases h
        obtain ⟨a, o, kvs, rfl, _, hd⟩ := dct_k rp el hk rd
        rw [bt 5 _ rfl]
        exact .inl (.fDict hd)
      · cases h
    · rename_i c l el
      cases h
      simp only [RelD] at rd
      obtain ⟨a, e1, rfl⟩ := rd
      obtain ⟨b, e2, C, dx, vs, hC, hs, _⟩ := rp.cell n _ el
      rw [e1] at e2
      cases e2
      exact .inr ⟨a, C, dx, vs, rfl, hC, hs⟩
    · cases h
  · cases h
/-- what isinstance asks of the classes: their numbers, the table of answers, the facts of own ones -/
structure KitOk (G : Glo) (kit : Nat → Nat → Option Bool) : Prop where
  bt : ∀ n T, btn n = some T → G.ca n = .type T
  ans : ∀ t c b, kit t c = some b → PySem.W.kitOne G.K (G.ca t) (G.ca c) = some b
  cl : ∀ c b t, kit t c = some b → ∃ v, RelV v (G.ca c) ∧ ClsV v (G.ca c)
  own : ∀ t c b C, kit t c = some b → G.ca t = .ref C → SlX.SCls G.K C ∧ SlX.SIsi G.K C
theorem cls_of {v : V} {u : Value} (h : RelV v u) {v' : V} (h' : RelV v' u) (k : ClsV v' u) : ClsV v u := by rw [h.inj h']; exact k
theorem cm_isi {kit : Nat → Nat → Option Bool} (ko : KitOk G kit) : CallM G X (.builtin "isinstance") (fIsI kit) := fun W ok pins s σ H ρ S xs us ds Q I r rp rd q => by
  unfold fIsI at q
  split at q
  · rename_i d c
    simp only [RelDs] at rd
    obtain ⟨x, _, rfl, rd, y, _, rfl, re, rfl⟩ := rd
    split at q
    · rename_i t et
      split at q
      · rename_i b eb
        simp only [RelD] at re
        obtain ⟨v', rv', kv'⟩ := ko.cl c b t eb
        have k1 := ko.ans t c b eb
        rw [ok.kk] at k1
        rcases tyD_ok (X := X) ok.kk ko.bt rp rd et with ty | ⟨a, C, dx, vs, rfl, hC, hs⟩
        · exact call_isi pins s σ H _ us Q I r ⟨x, y, _, _, b, rfl, cls_of re rv' kv', ty, k1, q.ok rp rel_bl⟩
        · obtain ⟨o1, o2⟩ := ko.own t c b C eb hC
          rw [ok.kk] at o1 o2
          rw [hC] at k1
          exact SlX.call_isiSl _ pins s σ H _ us Q I r ⟨a, C, dx, vs, y, b, rfl, re, fun w hw => (cls_of re rv' kv').eq hw, hs, o1, o2, k1, q.ok rp rel_bl⟩
      · exact q.elim
    · exact q.elim
  · exact q.elim
/-! ### the dice -/
/-- what is known of a cell may be exchanged -/
theorem Rep.turn {S : Sto} {i : Nat} {c c' : Cell} {a : Addr} (r : Rep G ρ S H) (hi : S.get i = some c) (ha : ρ i = some a) (q : CellOk G ρ H a c') : Rep G ρ (S.set i c') H := by
  refine ⟨fun j c2 e => ?_, r.inj, fun j hj => r.top j (by rw [Sto.set_n] at hj; exact hj), r.dom⟩
  by_cases h : j = i
  · rw [h, Sto.get_set_self hi] at e
    cases e
    exact ⟨a, by rw [h]; exact ha, q⟩
  · rw [Sto.get_set_ne h] at e
    exact r.cell j c2 e
theorem Sto.set_set {S : Sto} {i : Nat} {x y : Cell} : (S.set i x).set i y = S.set i y := by
  unfold Sto.set
  split
  · rename_i h
    simp only [h, if_true, List.set_set]
  · rfl
theorem Sto.set_get {S : Sto} {i : Nat} {x : Cell} (h : S.get i = some x) : S.set i x = S := by
  have hl := Sto.get_lt h
  unfold Sto.get at h
  rw [if_pos hl] at h
  unfold Sto.set
  rw [if_pos hl]
  obtain ⟨h1, h2⟩ := List.getElem?_eq_some_iff.mp h
  cases S with
  | mk n c =>
    simp only at h1 h2 ⊢
    congr 1
    rw [← h2]
    exact List.set_getElem_self h1
def dcell (x y z : Int) : Cell := .lst [.int x, .int y, .int z]
theorem Rep.undice {S : Sto} {i : Nat} (r : Rep G ρ S H) (hi : S.get i = some .dice) : ∃ x y z, Rep G ρ (S.set i (dcell x y z)) H := by
  obtain ⟨a, e, x, y, z, h⟩ := r.cell i _ hi
  exact ⟨x, y, z, r.turn hi e ⟨_, h, .cons rel_int (.cons rel_int (.one rel_int))⟩⟩
theorem Rep.dice {S : Sto} {i : Nat} {x y z : Int} (r : Rep G ρ S H) (hi : S.get i = some (dcell x y z)) : Rep G ρ (S.set i .dice) H := by
  obtain ⟨a, e, xs, h, t⟩ := r.cell i _ hi
  refine r.turn hi e ⟨x, y, z, ?_⟩
  simp only [RelDs, RelD] at t
  obtain ⟨_, _, rfl, rfl, _, _, rfl, rfl, _, _, rfl, rfl, rfl⟩ := t
  exact h
def mRoll : MF
  | [.loc d, .int t], S => (match S.get d with
    | some .dice => if 0 < t ∧ t.natAbs.log2 < 9000 then .pick t.toNat fun r => .ok (.int r) S else .stuck
    | _ => .stuck)
  | _, _ => .stuck
def mDice : MF
  | [.scr _, .int k], S => if 0 ≤ k ∧ k < 1000000 then .ok (.loc S.n) (S.new .dice) else .stuck
  | _, _ => .stuck
theorem fn_roll {P : Program} {w : World} {mg : Str → Option Value} {base : Heap} {k : Nat} {f : Addr} {m : MF} (F : FnM G P w mg base k f m)
    (run : ∀ (S : Sto) (d : Nat) (t x y z : Int), S.get d = some (dcell x y z) → 0 < t → t.natAbs.log2 < 9000 → ∃ r x' y' z', 0 ≤ r ∧ r < t ∧ m [.loc d, .int t] S = .ok (.int r) (S.set d (dcell x' y' z'))) : FnM G P w mg base k f mRoll := F.imp fun vs H Q E h => by
  obtain ⟨ds, S, ρ, rd, rp, q⟩ := h
  unfold mRoll at q
  split at q
  · rename_i d t
    split at q
    · rename_i ed
      split at q
      · rename_i ht
        obtain ⟨x, y, z, rp2⟩ := rp.undice ed
        have ed2 : (S.set d (dcell x y z)).get d = some (dcell x y z) := Sto.get_set_self ed
        obtain ⟨r, x', y', z', h0, h1, e⟩ := run (S.set d (dcell x y z)) d t x y z ed2 ht.1 ht.2
        refine ⟨_, _, ρ, rd, rp2, ?_⟩
        rw [e, Sto.set_set]
        intro ρ' H' v le r1 rv
        have r2 := r1.dice (Sto.get_set_self (y := dcell x' y' z') ed)
        rw [Sto.set_set, Sto.set_get ed] at r2
        refine q r.toNat (by omega) ρ' H' v le r2 ?_
        rw [Int.toNat_of_nonneg h0]
        exact rv
      · exact q.elim
    · exact q.elim
  · exact q.elim
theorem fn_dice {P : Program} {w : World} {mg : Str → Option Value} {base : Heap} {k : Nat} {f : Addr} {m : MF} (F : FnM G P w mg base k f m)
    (run : ∀ (S : Sto) (l : List Int) (i : Int), 0 ≤ i → i < 1000000 → ∃ x y z, m [.scr l, .int i] S = .ok (.loc S.n) (S.new (dcell x y z))) : FnM G P w mg base k f mDice := F.imp fun vs H Q E h => by
  obtain ⟨ds, S, ρ, rd, rp, q⟩ := h
  unfold mDice at q
  split at q
  · rename_i l i
    split at q
    · rename_i hi
      obtain ⟨x, y, z, e⟩ := run S l i hi.1 hi.2
      refine ⟨_, S, ρ, rd, rp, ?_⟩
      rw [e]
      intro ρ' H' v le r1 rv
      have r2 := r1.dice (i := S.n) (x := x) (y := y) (z := z) (by rw [Sto.get_new, if_pos rfl])
      have e2 : (S.new (dcell x y z)).set S.n .dice = S.new .dice := by
        unfold Sto.new Sto.set
        simp
      rw [e2] at r2
      exact q ρ' H' v le r2 rv
    · exact q.elim
  · exact q.elim
end
end Y

/-! Y9: defs that know that no repr runs around them; repr; the law's end. -/
namespace Y
open PySem PySem.Spec PyProof.Rows L2
/-- as FnM, where no repr runs around the call -/
def FnG (G : Glo) (P : Program) (w : World) (mg : Str → Option Value) (base : Heap) (k : Nat) (f : Addr) (m : MF) : Prop :=
  ∀ (A : Around) (outer : List Env) (s : Shared) (H : Hp) (us : List Value) (vs : List V) (Q : VK) (E : XK), Room k A → A.guards = some [] → Env0 P w G.K mg base A outer s H → Vals vs us → spM G m vs H Q E →
    codeAny (model P w) A (.call (.ref f) ⟨us, []⟩) (CR (L2.CX P w) outer P w H s Q E) s
section
variable {G : Glo} {X : Cx} {ρ : Rho} {H : Hp}
theorem FnM.g {P : Program} {w : World} {mg : Str → Option Value} {base : Heap} {k : Nat} {f : Addr} {m : MF} (F : FnM G P w mg base k f m) : FnG G P w mg base k f m := fun A outer s H us vs Q E hr _ => F A outer s H us vs Q E hr
theorem FnG.imp {P : Program} {w : World} {mg : Str → Option Value} {base : Heap} {k : Nat} {f : Addr} {m m' : MF} (F : FnG G P w mg base k f m) (h : ∀ vs H Q E, spM G m' vs H Q E → spM G m vs H Q E) : FnG G P w mg base k f m' := fun A outer s H us vs Q E hr hg e0 r hs => F A outer s H us vs Q E hr hg e0 r (h _ _ _ _ hs)
theorem cm_fnG {g : Addr} {m : MF} {k : Nat} (F : FnG G X.prog X.w X.mg X.base k g m) (hr : Room k X.A) (hg : X.A.guards = some []) : CallM G X (.ref g) m := fun W ok pins s σ H ρ S xs us ds Q I r rp rd q => by
  have e0 : Env0 X.prog X.w G.K X.mg X.base X.A X.stack s H := by rw [ok.kk]; exact I.env0
  refine wpAny_call (codeAny_mono (F X.A X.stack s H us xs Q (fun c a H' => W c a σ H') hr hg e0 r ⟨ds, S, ρ, rd, rp, q⟩) fun r s' hq => ?_)
  cases r with
  | error e => exact ok.tk e s' (XE.of_call I (fun cls d H' h => h) hq)
  | ok fl =>
    cases fl with
    | ret u => exact I.after hq
    | next => exact False.elim hq
    | brk => exact False.elim hq
    | cont => exact False.elim hq
theorem fn_okG {P : Program} {w : World} {mg : Str → Option Value} {base : Heap} {x qual : Str} {st : Stmt} {f : Addr} {fd : FuncData} {N ps : List Str} {k n np : Nat} {b : MS} (F : Fun G.K x qual st f fd) (Sc : FnScope N ps (defScope st)) (hn : N.length = n) (hp : ps.length = np) (hb : Binds G.K fd ps [])
    (body : ∀ (cdv : Value) (A : Around) (outer : List Env) (s : Shared) (H : Hp) (E : XK), Room k (A.deeper (envOfC qual (defScope st) s.heap.objs.size f cdv)) → (A.deeper (envOfC qual (defScope st) s.heap.objs.size f cdv)).guards = some [] →
      PSsm G (cxOf (L2.CX P w) P w G.K mg base N qual (defScope st) f cdv A outer s H E) (defBody st) b) :
    FnG G P w mg base (k + 1) f (mkF n np b) := by
  intro A outer s H us vs Q E hr hg e0 r h
  obtain ⟨oc, od, kV, doc, pm, an, cdv, ct, osl, rfl, lk, hcd⟩ := F.ex
  obtain ⟨ds, S, ρ, rd, rp, q⟩ := h
  unfold mkF at q
  split at q
  · rename_i hl
    have hlen : vs.length = ps.length := by rw [← rd.length, hl, hp]
    have hus : (us ++ []).length = ps.length := by rw [List.append_nil, ← r.length, hlen]
    have hbb := hb s us (e0.mod.kin.keeps fun b o e => (e0.bs b o e).1) hus
    rw [List.append_nil] at hbb
    refine LamX.run_ofS (N := N) lk hcd Sc hr e0 hbb r hlen fun hr2 => ?_
    refine ⟨_, body cdv A outer s H E hr2 hg (fun cls d _ H => E cls d H) ⟨takes_of rfl rfl rfl rfl, passes_of rfl, rfl⟩, stD n ds, S, ρ, by rw [← hn]; exact stD_rel rd, rp, ?_⟩
    generalize b (stD n ds) S = r at q
    induction r with
    | rt d S1 => exact q
    | nx sd1 S1 => exact fun ρ' H' σ' le r1 _ => q ρ' H' .non le r1 rel_non
    | ex x sd1 S1 => exact fun ρ' H' σ' c d le r1 _ rx => q ρ' H' c d le r1 rx
    | bk sd1 S1 => exact q.elim
    | ct sd1 S1 => exact q.elim
    | stuck => exact q.elim
    | pick t f ih => exact fun r hr => ih r (q r hr)
  · exact q.elim

/-! ### repr -/
def isDct0 (d : D) (S : Sto) : Bool := match d with
  | .loc k => (match S.get k with
    | some (.dct 0 []) => true
    | _ => false)
  | _ => false
def fRepr : MF
  | [d], S => if isDct0 d S then .ok (.str [123, 125]) S else (match toPy S 12 d with
    | some p => if p.showable && decide (p.shown.length ≤ 16777216) && decide (p.depth ≤ 60) && !p.hasDict then .ok (.str p.shown.cps.toList) S else .stuck
    | none => .stuck)
  | _, _ => .stuck
theorem str_eta (x : Str) : (⟨x.cps.toList.toArray⟩ : Str) = x := by
  cases x
  simp
theorem repr_any {pins : List (Addr × Obj)} {s : Shared} {σ : L2.St} {p : PyData} {u : Value} {as : List Addr} {Q : VK} (hg : X.A.guards = some []) (hu : X.A.units + 64 < cLine) (I : Inv X pins σ H s) (r : Reads s.heap u p as) (hs : p.showable = true) (hd : p.hasDict = true → sysModules ∉ as) (hz : p.shown.length ≤ sizeLine) (h6 : p.depth ≤ 60) (q : Q (.str p.shown) H) :
    wpAny (model X.prog X.w) X.A (call (.builtin "repr") [u]) (EP X pins σ Q) X.xe s := by
  cases r with
  | none => exact PySem.P.repr_of_none ⟨.str _, H, I.tok _, ⟨_, rfl⟩, q⟩
  | bool b => exact PySem.P.repr_of_bool ⟨.str _, H, I.tok _, ⟨_, rfl⟩, q⟩
  | int i t => exact PySem.P.repr_of_int (of_decide_eq_true hs) ⟨.str _, H, I.tok _, ⟨_, rfl⟩, q⟩
  | str x t => exact PySem.P.repr_of_str ⟨.str _, H, I.tok _, ⟨_, rfl⟩, q⟩ hz
  | list h1 h2 h3 h4 => exact repr_of_reads' (Reads.list h1 h2 h3 h4) hs hd hg (by omega) (fun _ _ e => e) (fun h' t tk k => ⟨.str _, H, I.kept (t' := tk) k, ⟨_, rfl⟩, q⟩) hz
  | tuple h1 h2 h3 h4 => exact repr_of_reads' (Reads.tuple h1 h2 h3 h4) hs hd hg (by omega) (fun _ _ e => e) (fun h' t tk k => ⟨.str _, H, I.kept (t' := tk) k, ⟨_, rfl⟩, q⟩) hz
  | dict h1 h2 h3 h4 h5 => exact repr_of_reads' (Reads.dict h1 h2 h3 h4 h5) hs hd hg (by omega) (fun _ _ e => e) (fun h' t tk k => ⟨.str _, H, I.kept (t' := tk) k, ⟨_, rfl⟩, q⟩) hz
theorem cm_repr (hg : X.A.guards = some []) (hu : X.A.units + 64 < cLine) : CallM G X (.builtin "repr") fRepr := fun W ok pins s σ H ρ S xs us ds Q I r rp rd q => by
  unfold fRepr at q
  split at q
  · rename_i d
    simp only [RelDs] at rd
    obtain ⟨v, _, rfl, rd, rfl⟩ := rd
    obtain ⟨u, rfl, rv⟩ := vals1 r
    split at q
    · rename_i h0
      unfold isDct0 at h0
      split at h0
      · rename_i k
        split at h0
        · rename_i el
          simp only [RelD] at rd
          obtain ⟨a, e1, rfl⟩ := rd
          cases rv
          obtain ⟨b, e2, c⟩ := rp.cell k _ el
          rw [e1] at e2
          cases e2
          rcases c with ⟨kvs, hd, pk⟩ | ⟨hne, _⟩
          · have hd : H a = some (.dK kvs) := hd
            have ek : kvs = [] := pk
            subst ek
            obtain ⟨_, hsys, vs, kv, o, es, ep, h1, hx, hdt, _, r2, _⟩ := I.hok a _ hd
            have ev : vs = [] := by cases kv; rfl
            subst ev
            have ees : es.toList = [] := by
              have := r2.length
              simp at this
              exact List.length_eq_zero_iff.mp (by simpa using this)
            have rr : Reads s.heap (.ref a) (.dict []) (a :: [] ++ []) := .dict (kvs := []) h1 hx.1 hdt (by rw [ees]; exact .nil) (by rw [ees]; exact .nil)
            refine repr_any hg hu I rr rfl (fun _ z => ?_) (by decide +kernel) (by decide +kernel) ?_
            · have e : sysModules = a := by simpa using z
              rw [← e] at hsys
              simp at hsys
            · have e : (PyData.shown (.dict []) : Str) = ⟨[123, 125].toArray⟩ := by decide +kernel
              rw [e]
              exact q.ok rp rel_str
          · exact absurd rfl hne
        · cases h0
      · cases h0
    · split at q
      · rename_i p ep
        split at q
        · rename_i hc
          simp only [Bool.and_eq_true, decide_eq_true_eq, Bool.not_eq_true'] at hc
          obtain ⟨as, ra⟩ := Dp.reads I p v u (toPy_dp ok.kk rp 12 ep rd) rv
          refine repr_any hg hu I ra hc.1.1.1 (fun z => by rw [hc.2] at z; cases z) (by rw [sizeLine_eq]; exact hc.1.1.2) hc.1.2 ?_
          have h := q.ok rp (rel_str (x := p.shown.cps.toList))
          rw [str_eta] at h
          exact h
        · exact q.elim
      · exact q.elim
  · exact q.elim
end
end Y

/-! Ya: the law's end. -/
namespace Y
open PySem PySem.Spec PyProof.Rows L2
/-- an abstract heap that holds the script alone, or nothing -/
structure Lone (K : PySem.W.Frag) (H : Hp) (a : Addr) (o : Obj) (ns : List Int) : Prop where
  only : ∀ b u, H b = some u → b = a ∧ u = .frz o (.lst (ns.map V.int))
  apart : ∀ u, H a = some u → K.lookup a = none
  scr : ScrAt K H a ns
theorem lone_ex {K : PySem.W.Frag} {h : Heap} {a : Addr} {o : Obj} {vs : List Value} {ns : List Int} (KX : K.In h) (eo : o = { cls := .type "list", data := .seq vs.toArray }) (ha : h.get? a = some o) (rv : Vals (ns.map V.int) vs) (hl : ns.length ≤ sizeLine) : ∃ H, Lone K H a o ns := by
  cases hk : K.lookup a with
  | none =>
    refine ⟨fun b => if b = a then some (.frz o (.lst (ns.map V.int))) else none, fun b u e => ?_, fun _ _ => hk, .inl ⟨o, if_pos rfl⟩⟩
    by_cases hb : b = a
    · have e2 := (if_pos hb).symm.trans e
      cases e2
      exact ⟨hb, rfl⟩
    · have e2 := (if_neg hb).symm.trans e
      cases e2
  | some o2 =>
    have e := KX a o2 hk
    rw [ha] at e
    cases e
    refine ⟨fun _ => none, fun b u e => (by cases e), fun u e => (by cases e), .inr fun H' => .inr ⟨o, vs.toArray, 0, hk, ?_⟩⟩
    subst eo
    refine ⟨rfl, rfl, rfl, ?_, by simpa using rv⟩
    have e1 := rv.length
    rw [List.length_map] at e1
    rw [List.size_toArray, ← e1]
    exact hl
/-- the law: its call at a script of at most n numbers -/
def FnT (G : Glo) (P : Program) (w : World) (mg : Str → Option Value) (base : Heap) (k n : Nat) (f : Addr) : Prop :=
  ∀ (A : Around) (outer : List Env) (s : Shared) (H : Hp) (us : List Value) (vs : List V) (ns : List Int) (ρ : Rho), Room k A → A.guards = some [] → Env0 P w G.K mg base A outer s H → Vals vs us → ns.length ≤ n → RelDs G ρ H [.scr ns] vs → Rep G ρ ⟨0, []⟩ H →
    codeAny (model P w) A (.call (.ref f) ⟨us, []⟩) (CR (L2.CX P w) outer P w H s (fun v _ => v = .bl true) (fun _ _ _ => False)) s
theorem law_end {P : Program} {w : World} {mg mb : Str → Option Value} {G : Glo} {k n : Nat} {fa a : Addr} {s1 : Shared} {vs : List Value} {ns : List Int} (KX : G.K.In s1.heap) (hns : s1.heap.Ns mainGlobals mg) (hb : s1.heap.Ns builtinsNs mb) (hbb : ∀ x : Str, x ≠ "__name__" → mb x = bootBuiltins x)
    (hlim : s1.heap.NoLimit) (hg : s1.gens = #[]) (ha : s1.heap.get? a = some { cls := .type "list", data := .seq vs.toArray }) (hi : IntsAre vs ns) (hl : ns.length ≤ sizeLine) (hn : ns.length ≤ n) (hr : Room k callerA)
    (F : ∀ base : Heap, G.K.In base → base.Ns mainGlobals mg → FnT G P w mg base k n fa) :
    codeAny (model P w) callerA (.call (.ref fa) ⟨[.ref a], []⟩) (fun r s' => r = .ok (.ret (.bool true)) ∧ OldK s1.heap s'.heap ∧ s'.os = s1.os ∧ AllBare s'.gens) s1 := by
  have rv := vals_ints hi
  obtain ⟨H, L⟩ := lone_ex KX rfl ha rv hl
  have nodict : ∀ {b : Addr} {ob : Obj} {es : Array DictEntry} {ep : Nat}, s1.heap.get? b = some ob → ob.data = .dict es ep → H b = none := fun {b ob es ep} e d => by
    cases q : H b with
    | none => rfl
    | some u =>
      obtain ⟨rfl, _⟩ := L.only b u q
      rw [ha] at e
      cases e
      exact absurd d (by intro z; cases z)
  have ns' : ∀ {b : Addr} {mp : Str → Option Value}, s1.heap.Ns b mp → (hidT s1.heap H).Ns b mp := fun {b mp} ⟨ob, es, ep, e, d, t⟩ => ⟨ob, es, ep, hidT_get e (nodict e d), d, t⟩
  have kb : G.K.In (hidT s1.heap H) := fun b ob e => hidT_get (KX b ob e) (by
    cases q : H b with
    | none => rfl
    | some u =>
      obtain ⟨rfl, _⟩ := L.only b u q
      rw [L.apart u q] at e
      cases e)
  have hok : HOk P w H s1.heap := fun b u e => by
    obtain ⟨rfl, rfl⟩ := L.only b u e
    exact ⟨ha, by rw [List.length_map]; exact hl, vs, 0, rv, ha⟩
  have lim' : (hidT s1.heap H).NoLimit := by
    obtain ⟨mc, h1, h2⟩ := hlim
    exact ⟨mc, ns' h1, h2⟩
  have e0 : Env0 P w G.K mg (hidT s1.heap H) callerA [] s1 H :=
    ⟨rfl, ⟨kb, ns' hns, ⟨mb, ns' hb, hbb⟩, lim'⟩, fun b ob e => of_hidT e, Nat.le_of_eq (hidT_size _ _), trivial, fun b z => absurd z (by simp [frs]), hok, .of_eq hg⟩
  have rep0 : Rep G (fun _ => none) ⟨0, []⟩ H := ⟨fun i c e => (by simp [Sto.get] at e), fun i j x e => (by cases e), fun _ _ => rfl, fun i x e => (by cases e)⟩
  have args : RelDs G (fun _ => none) H [.scr ns] [.ref a] := .one (by simp only [RelD]; exact ⟨a, rfl, L.scr⟩)
  refine codeAny_mono (F _ kb (ns' hns) callerA [] s1 H [.ref a] [.ref a] ns _ hr rfl e0 (.cons rfl .nil) hn args rep0) fun r s' h => ?_
  match r, h with
  | .error e, h =>
    obtain ⟨_, _, _, _, _, _, _, _, _, _, _, _, z⟩ := h
    exact z.elim
  | .ok .next, h => exact False.elim h
  | .ok .brk, h => exact False.elim h
  | .ok .cont, h => exact False.elim h
  | .ok (.ret u), h =>
    obtain ⟨v, H', os, bare, un, hok', r', q⟩ := h
    have q' : v = .bl true := q
    subst q'
    obtain rfl : u = Value.bool true := r'
    refine ⟨rfl, OldK.of_keep fun b ob e => ?_, os, bare⟩
    cases q : H b with
    | none => exact un.keep b ob e q (by simp [frs]) (by simp)
    | some x =>
      obtain ⟨rfl, rfl⟩ := L.only b x q
      obtain ⟨e2, _⟩ := hok' b _ (un.frzs b _ _ q)
      rw [ha] at e
      cases e
      exact e2
theorem walkG {l : PySem.W.OpenLaw} {n k : Nat} {q : Program} {loose : List Str} {XP : (Str → Option Value) → Heap → Prop} {YP : World → Heap → Prop} {d : DefRec} {K : Params → PySem.W.Frag} (hn : l.most = some n) (hn2 : n ≤ sizeLine) (hdf : d.params.defaults = []) (hr : Room k callerA)
    (hY : ∀ (w : World) (h : Heap), YP w h → (K w.params).In h)
    (F : ∀ (w : World) (mg : Str → Option Value) (fa : Addr) (h : Heap), (K w.params).In h → h.Ns mainGlobals mg → XP mg h → mg d.name = some (.ref fa) → ∃ G : Glo, G.K = K w.params ∧ ∀ base : Heap, (K w.params).In base → base.Ns mainGlobals mg → FnT G l.prog w mg base k n fa) :
    PySem.W.WalkO q loose XP YP l.row.toRowW d [] (fun f vs => PySem.call f vs) :=
  Att.attach_call hn hdf fun w s0 s1 mg mb fa o pm cd doc a vs ns Gr Y ho hd hcd hmg hobj hints hlen hg => by
    have KX := hY w _ Y
    obtain ⟨G, hK, hF⟩ := F w mg fa _ KX Gr.T.g Gr.X hmg
    have KX2 : G.K.In s1.heap := by rw [hK]; exact KX
    exact law_end KX2 Gr.T.g Gr.T.b Gr.T.builtins Gr.T.nolimit hg hobj hints (Nat.le_trans hlen hn2) hlen hr (fun base h1 h2 => hF base (by rw [← hK]; exact h1) h2)
end Y

/-! Yb: exceptions that keep a field: class C(B): def __init__(self, v): super().__init__('m'); self.f = v. -/
namespace Y
open PySem PySem.Spec PyProof.Rows L2
open PySem.W (Frag ksFn excInitIn excOver findIn isFn subIn clsIn mroIn nsIn codeIn keepIn typeIn takerIn hasDictIn ks_superIn alongIn excObj excTup kxs_mw Looks KxsFacts)

/-- what is known of the built-in base -/
structure KxT (B newId i : String) (bmB : List Value) : Prop where
  fb : ExcBaseFacts B newId i bmB
  kf : KxsFacts B i
  sf : StoreFacts B bmB "object.__setattr__" "object"
theorem kxt_Value : KxT "ValueError" "ValueError.__new__" "ValueError.__init__" [.type "ValueError", .type "Exception", .type "BaseException", .type "object"] := ⟨F.excBase_ValueError, PySem.W.kxs_ValueError, F.store_ValueError⟩
theorem kxt_Index : KxT "IndexError" "IndexError.__new__" "IndexError.__init__" [.type "IndexError", .type "LookupError", .type "Exception", .type "BaseException", .type "object"] := ⟨F.excBase_IndexError, PySem.W.kxs_IndexError, F.store_IndexError⟩
theorem kxt_Runtime : KxT "RuntimeError" "RuntimeError.__new__" "RuntimeError.__init__" [.type "RuntimeError", .type "Exception", .type "BaseException", .type "object"] := ⟨F.excBase_RuntimeError, PySem.W.kxs_RuntimeError, F.store_RuntimeError⟩
theorem kxt_Overflow : KxT "OverflowError" "OverflowError.__new__" "OverflowError.__init__" [.type "OverflowError", .type "ArithmeticError", .type "Exception", .type "BaseException", .type "object"] := ⟨F.excBase_OverflowError, PySem.W.kxs_OverflowError, F.store_OverflowError⟩
theorem kxt_Arithmetic : KxT "ArithmeticError" "ArithmeticError.__new__" "ArithmeticError.__init__" [.type "ArithmeticError", .type "Exception", .type "BaseException", .type "object"] := ⟨F.excBase_ArithmeticError, PySem.W.kxs_ArithmeticError, F.store_ArithmeticError⟩

/-- what the text says of the __init__ -/
structure KxS (st : Stmt) (sn vn f : Str) : Prop where
  sh : ∃ (m : Str) (j : Nat) (p0 p1 p2 p3 p4 p5 p6 p7 p8 p9 : Pos), defBody st = [.Expr (.Call (.Attribute (.Call (.Name "super" p0) [] [] p1) "__init__" p2) [.Constant (.str m) j p3] [] p4) p5, .Assign [.Attribute (.Name sn p6) f p7] (.Name vn p8) p9] ∧
    ∀ (qual : Str) (L fI : Addr) (cdv : Value) (cc : Addr), ∃ pl : Sem Bool, eval (.Call (.Attribute (.Call (.Name "super" p0) [] [] p1) "__init__" p2) [.Constant (.str m) j p3] [] p4) (PySem.W.ksEnv qual (defScope st) L fI cdv cc) = (do
      let ov ← attributeBase (.Call (.Name "super" p0) [] [] p1) "__init__" (PySem.W.ksEnv qual (defScope st) L fI cdv cc) (eval (.Call (.Name "super" p0) [] [] p1) (PySem.W.ksEnv qual (defScope st) L fI cdv cc))
      standAt p2.atName
      let (f, first) ← holding [ov] (getMethod ov "__init__" pl)
      callWith p4 f first (backTo p4 (starEach [.Constant (.str m) j p3] (PySem.W.ksEnv qual (defScope st) L fI cdv cc))) [])
  bd : ∀ (qual : Str) (kV doc pm : Value) (an : Option Addr) (cdv ct : Value) (cc : Addr) (u v : Value), bindArgs (ksFn "__init__" qual (defArgs st) (defBody st) (defScope st) .none kV doc pm an cdv ct cc) ⟨[u, v], []⟩ = pure [(sn, u), (vn, v)]
  hd : ∃ ar : Arg, ((defArgs st).posonlyargs ++ (defArgs st).args).head? = some ar ∧ ar.arg = sn
  ks : (defScope st).names.lookup ("super" : Str) = some .globalImplicit
  kc : (defScope st).names.lookup ("__class__" : Str) = some .free
  ksn : (defScope st).names.lookup sn = some .local
  kvn : (defScope st).names.lookup vn = some .local
  cell : ∀ x ∈ (defScope st).names, x.2 ≠ .cell
  kind : (defScope st).kind = .function
  co : (defScope st).isCoroutine = false
  gen : (defScope st).isGenerator = false
  ne : (sn == vn) = false
  sw : ∀ (env : Env) (p6 p7 p8 : Pos) (l : Nat), swapsWith (.Name vn p8) (some (.Attribute (.Name sn p6) f p7)) l env = pure false
  it : ∀ (qual : Str) (L fI : Addr) (cdv : Value) (cc : Addr), interactive (PySem.W.ksEnv qual (defScope st) L fI cdv cc) = false
  db1 : (sn == ("__debug__" : Str)) = false
  db2 : (vn == ("__debug__" : Str)) = false
/-- .. and what the written part says of the class -/
structure KxC (P : Program) (K : Frag) (C : Addr) (st : Stmt) (sn vn f : Str) : Prop where
  s : KxS st sn vn f
  ex : ∃ (B newId i : String) (bmB : List Value) (fI D cc cda : Addr) (qual : Str) (kV doc pm ct oc : Value) (an od : Option Addr) (osl : Array (Option Value)),
    KxT B newId i bmB ∧ excInitIn K C bmB newId = true ∧ excOver K C bmB = true ∧ subIn K (.ref C) (.type B) = some true ∧ findIn K (.ref C) "__init__" = some (some (.ref fI)) ∧ isFn K (.ref fI) = true ∧
    K.lookup fI = some ⟨oc, od, .func (ksFn "__init__" qual (defArgs st) (defBody st) (defScope st) .none kV doc pm an (.ref cda) ct cc), osl⟩ ∧ codeIn K (.ref cda) qual = true ∧
    (∃ (ccl : Value) (cdd : Option Addr) (vs : Array Value) (ccs : Array (Option Value)) (file : Str) (tf : Tok), K.lookup cda = some ⟨ccl, cdd, .fields vs, ccs⟩ ∧ vs[2]? = some (.str file tf) ∧ ((P.main.file : Str) == file) = true) ∧
    (∃ (cl : Value) (cld : Option Addr) (csl : Array (Option Value)), K.lookup cc = some ⟨cl, cld, .cell (some (.ref D)), csl⟩) ∧ (clsIn K D).isSome = true ∧ mroIn K C (.ref D) = some true ∧ ks_superIn K C D "__init__" = some (some (.builtin i))
  top : (P.main.scope.names.lookup ("super" : Str)).isSome = false
  third : nsIn K cStatics "thirdparty.any" = some none
  sa : findIn K (.ref C) "__setattr__" = some (some (.builtin "object.__setattr__"))
  tk : takerIn K C f = some none
  hd : hasDictIn K C = true
  xf : XfC K C
  nof : findIn K (.ref C) f = some none
  tyC : typeIn K (.ref C) = some (.type "type")
  kC : keepIn K (.ref C) = true

section
variable {P : Program} {w : World} {K : Frag} {A : Around} {h : Heap} {g : Array GenState} {d : Drawn} {t : Nat} {os : OsState} {C : Addr} {st : Stmt} {sn vn f : Str} {mg mb : Str → Option Value}
theorem ldn {M : Model} {A : Around} {E : Value → Shared → Prop} {s : Shared} {env : Env} {m : Str → Option Value} {x : Str} {pos : Pos} {v : Value} {Q : Value → Shared → Prop} (hn : s.heap.Ns env.locals m) (hv : m x = some v) (h : Q v s)
    (hk : env.scope.kind = .function) (hl : env.kindOf x = some .local) (hd : (x == ("__debug__" : Str)) = false) : wpAny M A (eval (.Name x pos) env) Q E s := wpAny_Name (wpAny_loadName_local hk hl hn hv h) hd
/-- self.f = v, the first one, on an exception without a dict -/
theorem set_first {B : String} {bmB : List Value} {E : Value → Shared → Prop} {Q : Unit → Shared → Prop} {e t0 : Addr} {u : Value} (SF : StoreFacts B bmB "object.__setattr__" "object") (X : K.In h) (he : h.get? e = some (excObj C t0 none .none)) (over : excOver K C bmB = true)
    (sa : findIn K (.ref C) "__setattr__" = some (some (.builtin "object.__setattr__"))) (tk : takerIn K C f = some none) (hd : hasDictIn K C = true)
    (hq : ∀ h' tk' dx, (∀ b o, b ≠ e → h.get? b = some o → h'.get? b = some o) → h.objs.size ≤ dx → dx ≠ e → h'.get? e = some (excObj C t0 (some dx) .none) → h'.Ns1 dx (fun y => if y = f then some u else none) → Q () ⟨h', g, d, tk', os⟩) :
    wpAny (model P w) A (setAttr (.ref e) f u) Q E ⟨h, g, d, t, os⟩ := by
  have I : PySem.W.InstAt h e (excObj C t0 none .none) C none := ⟨he, rfl, rfl, trivial⟩
  have hxs : e ≠ h.objs.size := Nat.ne_of_lt (Heap.lt_size he)
  refine PySem.W.set_plain X I sa (PySem.W.osa_openX SF X I over tk fun b => ?_)
  obtain ⟨cd, hc, hh⟩ := PySem.W.any_some hd
  have hcls : Looks (model P w) h (classData C) cd := PySem.W.looks_clsIn X hc
  show wpAny _ _ (Builtin.ObjectAttr.storeInOwnDict (.ref e) (.ref C) (.str f t) f u b) _ _ _
  obtain ⟨nm, bs, mro, ns, qn, hdd, snn, sb, ab, col, del⟩ := cd
  dsimp only at hh
  subst hh
  unfold Builtin.ObjectAttr.storeInOwnDict Builtin.ObjectAttr.ownDictForStores
  repeat (first | with_reducible refine HandSPX.store_in_new ?_ ?_ | with_reducible refine wpAny_loadPart_at he ?_ | with_reducible refine hcls.at ?_ | wp_step)
  · exact ⟨_, #[], _, (Heap.get?_update_ne _ _ _ _ hxs.symm).trans (Heap.get?_push_at rfl rfl), rfl, fun e he => absurd he (by simp), fun _ => rfl⟩
  · intro h' tk' hn' hs
    have hx₁ : (h.push { cls := .type "dict", data := .dict #[] }).get? e = some (excObj C t0 none .none) := Heap.get?_push_of_some _ he
    refine hq h' tk' h.objs.size (fun b o hb ho => ?_) (Nat.le_refl _) hxs.symm ?_ hn'
    · exact (hs.2 b (Nat.ne_of_lt (Heap.lt_size ho))).trans ((Heap.get?_update_ne _ _ _ _ hb).trans (Heap.get?_push_of_some _ ho))
    · exact (hs.2 e hxs).trans (Heap.get?_update_self _ hx₁ rfl)

/-- the __init__ walked -/
theorem init_run {R : Result → Shared → Prop} {B newId i : String} {bmB : List Value} {fI D cc cda e t0 : Addr} {qual : Str} {kV doc pm ct oc u : Value} {an od : Option Addr} {osl : Array (Option Value)} (T : KxC P K C st sn vn f)
    (kt : KxT B newId i bmB) (q : excInitIn K C bmB newId = true) (over : excOver K C bmB = true) (sub : subIn K (.ref C) (.type B) = some true)
    (lk : K.lookup fI = some ⟨oc, od, .func (ksFn "__init__" qual (defArgs st) (defBody st) (defScope st) .none kV doc pm an (.ref cda) ct cc), osl⟩) (hcd : codeIn K (.ref cda) qual = true)
    (hcode : ∃ (ccl : Value) (cdd : Option Addr) (vs : Array Value) (ccs : Array (Option Value)) (file : Str) (tf : Tok), K.lookup cda = some ⟨ccl, cdd, .fields vs, ccs⟩ ∧ vs[2]? = some (.str file tf) ∧ ((P.main.file : Str) == file) = true)
    (hcell : ∃ (cl : Value) (cld : Option Addr) (csl : Array (Option Value)), K.lookup cc = some ⟨cl, cld, .cell (some (.ref D)), csl⟩) (hD : (clsIn K D).isSome = true) (hm : mroIn K C (.ref D) = some true) (hsup : ks_superIn K C D "__init__" = some (some (.builtin i)))
    (X : K.In h) (hg : h.Ns mainGlobals mg) (hgs : mg "super" = none) (hb : h.Ns builtinsNs mb) (hbb : ∀ x : Str, x ≠ "__name__" → mb x = bootBuiltins x) (hlim : h.NoLimit) (hroom : A.depth < recursionLimit)
    (he : h.get? e = some (excObj C t0 none .none)) (hKe : K.lookup e = none)
    (hq : ∀ h' t' t1 dx, (∀ b o, b ≠ e → h.get? b = some o → h'.get? b = some o) → h.objs.size ≤ dx → h'.get? e = some (excObj C t1 (some dx) .none) → h'.Ns1 dx (fun y => if y = f then some u else none) → R (.ok (.ret .none)) ⟨h', g, d, t', os⟩) :
    codeAny (model P w) A (.call (.ref fI) ⟨[.ref e, u], []⟩) R ⟨h, g, d, t, os⟩ := by
  obtain ⟨m, j, p0, p1, p2, p3, p4, p5, p6, p7, p8, p9, hbody, hev⟩ := T.s.sh
  obtain ⟨ar, har, harn⟩ := T.s.hd
  obtain ⟨ccl, cdd, vs, ccs, file, tf, hcode, hvs, hfile⟩ := hcode
  obtain ⟨cl, cld, csl, hcell⟩ := hcell
  obtain ⟨cdD, hD⟩ := Option.isSome_iff_exists.mp hD
  have nn := T.s.ne
  refine ks_codeAny_call_defAt (fd := ksFn "__init__" qual (defArgs st) (defBody st) (defScope st) .none kV doc pm an (.ref cda) ct cc) (body := defBody st) (binds := [(sn, .ref e), (vn, u)]) hroom (X _ _ lk) rfl hlim (PySem.W.codeRec_of X hcd) rfl
    (BindsTo.of_eq (T.s.bd ..)) T.s.cell (fun x hx => ?_) (fun h1 hns k1 => ?_) T.s.co T.s.gen T.s.kind
  · rcases List.mem_cons.mp hx with rfl | hx
    · exact T.s.ksn
    rcases List.mem_cons.mp hx with rfl | hx
    · exact T.s.kvn
    · cases hx
  have ls : (List.reverse [(sn, Value.ref e), (vn, u)]).lookup sn = some (.ref e) := by
    show List.lookup sn [(vn, u), (sn, Value.ref e)] = _
    simp [List.lookup, nn]
  have lv : (List.reverse [(sn, Value.ref e), (vn, u)]).lookup vn = some u := by
    show List.lookup vn [(vn, u), (sn, Value.ref e)] = _
    simp [List.lookup]
  generalize hL : (⟨h, g, d, t, os⟩ : Shared).heap.objs.size = L at hns ⊢
  have hL' : h.objs.size = L := hL
  have X1 : K.In h1 := X.keeps k1
  have he1 := k1 _ _ he
  obtain ⟨oD, hD1, hD2⟩ : ∃ oD, h1.get? D = some oD ∧ oD.data = .cls cdD := by
    unfold clsIn at hD
    split at hD
    · rename_i c d cd' sl ho
      cases hD
      exact ⟨_, X1 _ _ ho, rfl⟩
    · cases hD
  rw [hbody]
  show PySem.wpAt _ _ _ (execs _ (PySem.W.ksEnv qual (defScope st) L fI (.ref cda) cc)) _ _ ⟨h1, g, d, t + 2, os⟩
  obtain ⟨pl, hev⟩ := hev qual L fI (.ref cda) cc
  refine ks_wpAt_execs_cons (ks_wpAt_Expr_any (ks_wpAt_MethodCall (pl := pl) ?_ hev) (T.s.it ..))
  refine ks_wpAt_super_base (s := ⟨h1, g, d, t + 2, os⟩) T.s.ks T.s.kc (by decide) rfl (X1 _ _ lk) rfl har rfl (X1 _ _ hcode) rfl hvs hfile T.top ?_
  refine PySem.W.ks_loadName_global T.s.kind T.s.ks (Calls.loadGlobal_builtin (env := PySem.W.ksEnv qual (defScope st) L fI (.ref cda) cc) (hg.keeps k1) hgs (hb.keeps k1) ((hbb _ (by decide +kernel)).trans PyProof.Rows.Boot.«super») ⟨rfl, ?_⟩)
  refine wpAny_loadName_free T.s.kind T.s.kc rfl ⟨_, X1 _ _ hcell, rfl⟩ ?_
  refine wpAny_loadName_local T.s.kind (by rw [harn]; exact T.s.ksn) hns (by rw [harn]; exact ls) ?_
  refine ks_wpAny_isType_cls hD1 hD2 ⟨rfl, ?_⟩
  refine ks_wpAny_call_super hD1 hD2 he1 rfl (fun c z => by cases z) (PySem.W.looks_mroIn X1 hm) (fun h2 hso k2 => ?_)
  have X2 : K.In h2 := X1.keeps k2
  have he2 := k2 _ _ he1
  have I2 : PySem.W.InstAt h2 e (excObj C t0 none .none) C none := ⟨he2, rfl, rfl, trivial⟩
  have hI : Looks (model P w) h2 (isInstance (.ref e) (.type B)) true := I2.type.andThen (PySem.W.looks_subIn X2 sub)
  cases hc : clsIn K C with
  | none => unfold ks_superIn at hsup; rw [hc] at hsup; cases hsup
  | some cd =>
  unfold ks_superIn at hsup
  rw [hc] at hsup
  refine PySem.W.kxs_getMethod kt.kf hso (PySem.W.looks_opaque X2 T.third) (l₀ := cd.mro) (fun A Q E s k q => wpAny_bind ((PySem.W.looks_clsIn X2 hc) A _ E s k (wpAny_pure q))) rfl X2 hsup hI (PySem.W.ks_ne X2 I2 hc) (by decide) ?_
  have he3 : (h2.push (kxs_mw i e)).get? e = some (excObj C t0 none .none) := Heap.get?_push_of_some _ he2
  have hu3 : (h2.push (kxs_mw i e)).get? h2.objs.size = some (kxs_mw i e) := Heap.get?_push_at rfl rfl
  refine PySem.W.kxs_callWith (i := i) (x := e) (by rfl) ?_
  show wpAny _ _ (evalArgs _ true ((false, eval (.Constant (.str m) j p3) _) :: backTo p4 (starEach [] _)) []) _ _ _
  refine Calls.evalArgs_plain (Calls.spliced_cons (Calls.Constant_str (Calls.spliced_nil ⟨hu3, ?_⟩)))
  obtain ⟨nm, N', qn, bs, bm, hdct, snn, subs, ab, col, dd, k0, k1', k2', k3', k5, hC, hT⟩ := PySem.W.excInit_of (X2.keeps fun b o z => Heap.get?_push_of_some (kxs_mw i e) z) q
  refine wpAny_call (codeAny_of_tree ?_)
  show wpAny _ _ (callAny (.ref h2.objs.size) ⟨_, []⟩) _ _ _
  simp only [callAny]
  refine wpAny_bind (wpAny_load hu3 ?_)
  simp only [kxs_mw, show (Value.type "method-wrapper" == Value.type "method" || Value.type "method-wrapper" == Value.type "builtin_function_or_method" || Value.type "method-wrapper" == Value.type "method-wrapper") = true by decide, if_true]
  refine PySem.W.KFB.if_so (by decide) ?_
  refine wpAny_bind (PySem.W.check_bound_init kt.fb.toExcCallFacts hC he3 rfl ?_)
  refine wpAny_bind (wpAny_pure (wpAny_pure ?_))
  refine ⟨plainId_quiet kt.fb.init.plain _, codeAny_builtin kt.fb.initEntry ?_⟩
  refine PySem.W.exc_init_tree (cls := .ref C) (t0 := t0) (dv := none) (c2 := .none) (c3 := .none) (b4 := .bool false) he3 (by simp [sizeLine_eq]) fun h4 k4 he4 _ => ?_
  show PySem.wpAt _ _ _ (execs _ _) _ _ _
  have X4 : K.In h4 := fun b o z => k4 b o (fun y => by rw [y, hKe] at z; cases z) (Heap.get?_push_of_some _ (X2 b o z))
  have eL : e < L := by rw [← hL']; exact Heap.lt_size he
  have ns4 : h4.Ns L fun x => List.lookup x [(sn, Value.ref e), (vn, u)].reverse := ((hns.keeps k2).keeps fun b o z => Heap.get?_push_of_some (kxs_mw i e) z).at fun o z => k4 L o (Nat.ne_of_gt eL) z
  refine ks_wpAt_execs_cons (ks_wpAt_Assign_Attr (PySem.wpAt_of_wpAny (ldn ns4 lv (ldn ns4 ls (set_first kt.sf X4 he4 over T.sa T.tk T.hd fun h5 t5 dx k5 s5 ne5 he5 n5 => ?_) T.s.kind T.s.ksn T.s.db1) T.s.kind T.s.kvn T.s.db2)) (T.s.sw ..))
  show PySem.wpAt _ _ _ (execs [] _) _ _ _
  refine PySem.wpAt_of_wpAny (wpAny_execs_nil ?_)
  have up : ∀ b o, b ≠ e → h.get? b = some o → h4.get? b = some o := fun b o hb z => k4 b o hb (Heap.get?_push_of_some _ (k2 b o (k1 b o z)))
  refine hq h5 _ _ dx (fun b o hb z => k5 b o hb (up b o hb z)) (Nat.le_trans ?_ s5) he5 n5
  obtain ⟨oL, _, _, zL, _⟩ := ns4
  rw [hL']
  exact Nat.le_of_lt (Heap.lt_size zL)

/-- C(v): a new exception that keeps v -/
theorem call_kept {E : Value → Shared → Prop} {Q : Value → Shared → Prop} {u : Value} {k : Nat} (T : KxC P K C st sn vn f) (X : K.In h) (hg : h.Ns mainGlobals mg) (hgs : mg "super" = none) (hb : h.Ns builtinsNs mb) (hbb : ∀ x : Str, x ≠ "__name__" → mb x = bootBuiltins x) (hlim : h.NoLimit)
    (hr : Room (k + 1) A)
    (hq : ∀ h' t' a t1 dx, (∀ b o, h.get? b = some o → h'.get? b = some o) → h.get? a = none → h.get? dx = none → h'.get? a = some (excObj C t1 (some dx) .none) → h'.Ns1 dx (fun y => if y = f then some u else none) → Q (.ref a) ⟨h', g, d, t', os⟩) :
    wpAny (model P w) A (call (.ref C) [u]) Q E ⟨h, g, d, t, os⟩ := by
  obtain ⟨B, newId, i, bmB, fI, D, cc, cda, qual, kV, doc, pm, ct, oc, an, od, osl, kt, q, over, sub, iC, tI, lk, hcd, hcode, hcell, hD, hm, hsup⟩ := T.ex
  obtain ⟨nm, N', qn, bs, bm, hdct, snn, subs, ab, col, dd, k0, k1', k2', k3', k5, hC, hT⟩ := PySem.W.excInit_of X q
  obtain ⟨oI, hoI, hcI⟩ : ∃ oI, h.get? fI = some oI ∧ oI.cls = .type "function" := by
    obtain ⟨o, ho, hc⟩ := Option.map_eq_some_iff.mp (show (K.lookup fI).map (·.cls) = some (.type "function") from beq_iff_eq.mp tI)
    exact ⟨o, X _ _ ho, hc⟩
  have kk : ∀ b o, h.get? b = some o → ((h.push (PySem.W.kdv_tup [u])).push (PySem.PX.excO C h.objs.size)).get? b = some o := fun b o e => Heap.get?_push_of_some _ (Heap.get?_push_of_some _ e)
  have hget : ((h.push (PySem.W.kdv_tup [u])).push (PySem.PX.excO C h.objs.size)).get? (h.objs.size + 1) = some (PySem.PX.excO C h.objs.size) := by heap_get
  have hnew : h.get? (h.objs.size + 1) = none := Heap.get?_none_of_le (Nat.le_succ _)
  have hKe : K.lookup (h.objs.size + 1) = none := by
    cases z : K.lookup (h.objs.size + 1) with
    | none => rfl
    | some o =>
      rw [X _ _ z] at hnew
      cases hnew
  refine wpAny_call (PySem.PX.call_own kt.fb hT hC (PySem.W.looks_findIn X iC) (fun self => PySem.W.exc_bind hoI hcI self) (by simp [sizeLine_eq]) ?_)
  refine init_run T kt q over sub lk hcd hcode hcell hD hm hsup (X.keeps kk) (hg.keeps kk) hgs (hb.keeps kk) hbb (hlim.keeps kk) ?_ hget hKe fun h' t' t1 dx k2 hs he n => ?_
  · have := (hr.make C [u] []).dp
    omega
  · refine ⟨rfl, ?_⟩
    refine hq h' t' _ t1 dx (fun b o z => k2 b o (Nat.ne_of_lt (Nat.lt_succ_of_lt (Heap.lt_size z))) (kk b o z)) hnew (Heap.get?_none_of_le ?_) he n
    rw [Heap.size_push, Heap.size_push] at hs
    omega
end
end Y

/-! Yc: exceptions as values, raise. -/
namespace Y
open PySem PySem.Spec PyProof.Rows L2
open PySem.W (Frag findIn subIn clsIn mroIn specialIn takesIn keepIn typeIn)
section
variable {G : Glo} {X : Cx} {ρ : Rho} {H : Hp}
/-- an own exception class without own __init__ -/
structure KpC (K : Frag) (C : Addr) : Prop where
  ex : ∃ (B newId initId : String) (bmB : List Value), ExcBaseFacts B newId initId bmB ∧ PySem.W.excIn K C bmB newId = true
  exC : subIn K (.ref C) (.type "BaseException") = some true
  tyC : typeIn K (.ref C) = some (.type "type")
  kC : keepIn K (.ref C) = true
/-- what isinstance wants of an exception class -/
structure KiC (K : Frag) (C : Addr) : Prop where
  cl : (clsIn K C).isSome = true
  ga : findIn K (.ref C) "__getattribute__" = some (some (.builtin "BaseException.__getattribute__"))
  gt : ∃ gt, findIn K (.ref C) "__getattr__" = some gt
  sub : subIn K (.ref C) (.type "BaseException") = some true
  ca : findIn K (.ref C) "__class__" = some (some (.builtin "object.__class__"))
  sp : specialIn K (.builtin "object.__class__") "__get__" = some (some (.builtin "getset_descriptor.__get__"))
  tk : takesIn K (.builtin "object.__class__") = some true
  mo : mroIn K C (.type "object") = some true
def fExc (c : Nat) : MF
  | [_], S => .ok (.loc S.n) (S.new (.exv c []))
  | _, _ => .stuck
def fExcK (c : Nat) (f : Str) : MF
  | [d], S => .ok (.loc S.n) (S.new (.exv c [(f, d)]))
  | _, _ => .stuck
theorem cm_exc {c : Nat} {C : Addr} (hC : G.ca c = .ref C) (T : KpC G.K C) : CallM G X (.ref C) (fExc c) := fun W ok pins s σ H ρ S xs us ds Q I r rp rd q => by
  unfold fExc at q
  split at q
  · rename_i d
    simp only [RelDs] at rd
    obtain ⟨v, _, rfl, rd, rfl⟩ := rd
    obtain ⟨u, rfl, rv⟩ := vals1 r
    obtain ⟨B, newId, initId, bmB, F, qq⟩ := T.ex
    rw [ok.kk] at qq
    obtain ⟨bm, N, nm, qn, bs, hdct, sn, sub, ab, col, dd, k0, k1, k2, k3, k5, mN, hc, hN, hni, T2⟩ := exc_obj I.kIn qq
    refine wpAny_call_exc_subT F T2 hc hN hni (fun h' a hm => ?_) (by show 1 ≤ sizeLine; rw [sizeLine_eq]; omega)
    have hn : H a = none := I.hok.gone hm.new
    obtain ⟨t, ht, _, _⟩ := hm.there
    refine ⟨.ref a, upd H a (exo a C none), I.laidN hm.keeps hm.new hn (exo_ok ht), rfl, ?_⟩
    exact q (ext ρ S.n a) _ _ ((Le.ext (rp.top _ (Nat.le_refl _))).trans (Le.same (same_new hn))) (rp.new hn ⟨C, none, hC, upd_same, .inl ⟨rfl, rfl⟩⟩) (RelD.loc' ext_same)
  · exact q.elim
/-- a new exception that keeps v: as an object of ours -/
theorem run_kept {st : Stmt} {sn vn f : Str} {C : Addr} {k : Nat} {pins : List (Addr × Obj)} {s : Shared} {σ : L2.St} {v : V} {u : Value} {Q : Value → Shared → Prop} {E : Value → Shared → Prop} (T : KxC X.prog X.K C st sn vn f) (hgs : X.mg "super" = none) (hr : Room (k + 1) X.A) (I : Inv X pins σ H s) (rv : RelV v u)
    (h : ∀ a dx s' G', H a = none → H dx = none → dx ≠ a → (∃ t1, s'.heap.get? a = some (PySem.W.excObj C t1 (some dx) .none)) → G'.heap.get? a = none → (∀ b o, G'.heap.get? b = some o → s'.heap.get? b = some o) → s'.os = G'.os → s'.gens = G'.gens → AllBare s'.gens →
      Inv X pins σ (upd H dx (.xd [(f, v)])) G' → Inv X pins σ (upd (upd H dx (.xd [(f, v)])) a (exo a C (some dx))) s' → Q (.ref a) s') :
    wpAny (model X.prog X.w) X.A (call (.ref C) [u]) Q E s := by
  obtain ⟨mb, b1, b2⟩ := I.mod.blt
  obtain ⟨hp, g, d, t, os⟩ := s
  refine call_kept T I.kIn (I.mod.glob.keeps I.bk) hgs (b1.keeps I.bk) b2 (I.mod.nolimit.keeps I.bk) hr fun h' t' a t1 dx kp na nd ha hn => ?_
  have Ha : H a = none := I.hok.gone na
  have Hd : H dx = none := I.hok.gone nd
  obtain ⟨od, eD, epD, hod, hdd, hr2⟩ := id hn
  have hda : dx ≠ a := fun z => by
    rw [z, ha] at hod
    have z2 := Option.some.inj hod
    subst z2
    cases hdd
  obtain ⟨G1, g1, g2⟩ := restrict h' fun b => decide (b ≠ a)
  have gk : ∀ b, b ≠ a → G1.get? b = h'.get? b := fun b hb => g1 b (decide_eq_true hb)
  have ge : G1.get? a = none := g2 a (by simp)
  have kG : ∀ b o, hp.get? b = some o → G1.get? b = some o := fun b o z => by
    rw [gk b (fun y => by rw [y, na] at z; cases z)]
    exact kp b o z
  have gs : ∀ b o, G1.get? b = some o → h'.get? b = some o := fun b o z => by
    by_cases hb : b = a
    · rw [hb, ge] at z
      cases z
    · rw [← gk b hb]
      exact z
  have J1 : Inv X pins σ (upd H dx (.xd [(f, v)])) ⟨G1, g, d, t', os⟩ := I.laidN (t' := t') kG nd Hd ⟨_, hn.at fun o y => (gk dx hda).trans y, fun g => by
    rw [lookup_put]
    by_cases e : g = f
    · rw [if_pos e, if_pos e]
      exact rv
    · rw [if_neg e, if_neg e]
      trivial⟩
  have Ha1 : upd H dx (.xd [(f, v)]) a = none := by rw [upd_ne (Ne.symm hda)]; exact Ha
  have J2 : Inv X pins σ (upd (upd H dx (.xd [(f, v)])) a (exo a C (some dx))) ⟨h', g, d, t', os⟩ := J1.laidN (t' := t') gs ge Ha1 (exo_ok ha)
  exact h a dx ⟨h', g, d, t', os⟩ ⟨G1, g, d, t', os⟩ Ha Hd hda ⟨t1, ha⟩ ge gs rfl rfl I.bare J1 J2
theorem cm_excK {c k : Nat} {C : Addr} {st : Stmt} {sn vn f : Str} (hC : G.ca c = .ref C) (T : KxC X.prog G.K C st sn vn f) (hgs : X.mg "super" = none) (hr : Room (k + 1) X.A) : CallM G X (.ref C) (fExcK c f) := fun W ok pins s σ H ρ S xs us ds Q I r rp rd q => by
  unfold fExcK at q
  split at q
  · rename_i d
    simp only [RelDs] at rd
    obtain ⟨v, _, rfl, rd, rfl⟩ := rd
    obtain ⟨u, rfl, rv⟩ := vals1 r
    rw [ok.kk] at T
    refine run_kept T hgs hr I rv fun a dx s' G' Ha Hd hda hget _ _ _ _ _ J1 J2 => ?_
    have Ha1 : upd H dx (.xd [(f, v)]) a = none := by rw [upd_ne (Ne.symm hda)]; exact Ha
    have rp1 : Rep G ρ S (upd H dx (.xd [(f, v)])) := rp.free Hd
    refine ⟨.ref a, _, J2, rfl, ?_⟩
    have le1 : Le G ρ H ρ (upd H dx (.xd [(f, v)])) := Le.same (same_new Hd)
    have le2 : Le G ρ (upd H dx (.xd [(f, v)])) (ext ρ S.n a) (upd (upd H dx (.xd [(f, v)])) a (exo a C (some dx))) := (Le.ext (rp.top _ (Nat.le_refl _))).trans (Le.same (same_new Ha1))
    refine q (ext ρ S.n a) _ _ (le1.trans le2) (rp1.new Ha1 ⟨C, some dx, hC, upd_same, .inr ⟨dx, _, rfl, by rw [upd_ne hda, upd_same], fun g e z => ?_⟩⟩) (RelD.loc' ext_same)
    by_cases hg : g = f
    · subst hg
      have z' : d = e := by simpa [List.lookup] using z
      subst z'
      exact ⟨v, by simp [List.lookup], rd.mono (le1.trans le2)⟩
    · have : (g == f) = false := by simpa using hg
      simp [List.lookup, this] at z
  · exact q.elim
/-! ### isinstance, fields -/
def fIsE (kit kix : Nat → Nat → Option Bool) : MF
  | [.loc n, .cls c], S => (match S.get n with
    | some (.exv t _) => (match kix t c with
      | some b => .ok (.bl b) S
      | none => .stuck)
    | _ => fIsI kit [.loc n, .cls c] S)
  | ds, S => fIsI kit ds S
structure KixOk (G : Glo) (kix : Nat → Nat → Option Bool) : Prop where
  ans : ∀ t c b, kix t c = some b → PySem.W.kitOne G.K (G.ca t) (G.ca c) = some b
  cl : ∀ c b t, kix t c = some b → ∃ v, RelV v (G.ca c) ∧ ClsV v (G.ca c)
  own : ∀ t c b C, kix t c = some b → G.ca t = .ref C → KiC G.K C
theorem exv_inst {pins : List (Addr × Obj)} {s : Shared} {σ : L2.St} {S : Sto} {n c : Nat} {fs : List (Str × D)} {x : V} (I : Inv X pins σ H s) (rp : Rep G ρ S H) (rd : RelD G ρ H (.loc n) x) (e : S.get n = some (.exv c fs)) :
    ∃ a C ox od, x = .ref a ∧ G.ca c = .ref C ∧ PySem.W.InstAt s.heap a ox C od ∧ ∀ f d, fs.lookup f = some d → ∃ v u, RelD G ρ H d v ∧ RelV v u ∧ od.isSome = true ∧ ∀ o, od = some o → PySem.W.lookIn f o = some (some u) := by
  simp only [RelD] at rd
  obtain ⟨a, e1, rfl⟩ := rd
  obtain ⟨b, e2, C, d, hC, ha, hf⟩ := rp.cell n _ e
  rw [e1] at e2
  cases e2
  obtain ⟨t1, ho⟩ := exo_at I.hok ha
  rcases hf with ⟨rfl, rfl⟩ | ⟨dx, gs, rfl, hd, hl⟩
  · exact ⟨a, C, _, none, rfl, hC, ⟨ho, rfl, rfl, trivial⟩, fun f d z => by cases z⟩
  · have hx : ObjOk X.prog X.w H s.heap dx (.xd gs) := I.hok dx _ hd
    obtain ⟨mA, hns, hr⟩ := hx
    obtain ⟨od, hod, hlk⟩ := lookIn_ns hns
    refine ⟨a, C, _, some od, rfl, hC, ⟨ho, rfl, rfl, hod⟩, fun f d z => ?_⟩
    obtain ⟨v, q1, q2⟩ := hl f d z
    obtain ⟨u, hu, ru⟩ := RelO.some_of (v := v) (o := mA f) (by rw [← q1]; exact hr f)
    exact ⟨v, u, q2, ru, rfl, fun o eo => by cases eo; rw [hlk, hu]⟩
theorem cm_ise {kit kix : Nat → Nat → Option Bool} (ko : KitOk G kit) (kx : KixOk G kix) : CallM G X (.builtin "isinstance") (fIsE kit kix) := fun W ok pins s σ H ρ S xs us ds Q I r rp rd q => by
  unfold fIsE at q
  split at q
  · rename_i n c
    split at q
    · rename_i t fs et
      split at q
      · rename_i b eb
        simp only [RelDs] at rd
        obtain ⟨x, _, rfl, rd, y, _, rfl, re, rfl⟩ := rd
        obtain ⟨u1, u2, rfl, r1, r2⟩ := vals2 r
        simp only [RelD] at re
        obtain ⟨v', rv', kv'⟩ := kx.cl c b t eb
        cases (cls_of re rv' kv').eq r2
        have k1 := kx.ans t c b eb
        obtain ⟨a, C, ox, od, rfl, hC, J, _⟩ := exv_inst I rp rd et
        have o1 := kx.own t c b C eb hC
        rw [hC] at k1
        rw [ok.kk] at o1 k1
        obtain ⟨gt, hgt⟩ := o1.gt
        cases (show u1 = Value.ref a from r1)
        exact PySem.W.kia_one (PySem.W.kitx_exc o1.cl o1.ga hgt o1.sub o1.ca o1.sp o1.tk o1.mo) I.kIn J k1 (fun z => nomatch z) fun tk => ⟨.bl b, H, I.tok _, rfl, q.ok rp rel_bl⟩
      · exact q.elim
    · exact cm_isi ko W ok pins s σ H ρ S xs us _ Q I r rp rd q
  · exact cm_isi ko W ok pins s σ H ρ S xs us _ Q I r rp rd q
/-- e.f, a field of an exception -/
def fldE (c : Nat) (f : Str) : D → Sto → Res D
  | .loc n, S1 => (match S1.get n with
    | some (.exv c' fs) => (match c' == c, fs.lookup f with
      | true, some e => .ok e S1
      | _, _ => .stuck)
    | _ => .stuck)
  | _, _ => .stuck
theorem te_un {m : ME} {f : D → Sto → Res D} {W : WX} {σ : L2.St} {H : Hp} {Q : VK} (h : te G (mUn f m) W σ H Q) : te G m W σ H fun v H1 => ∃ ρ1 d S1, Rep G ρ1 S1 H1 ∧ RelD G ρ1 H1 d v ∧ Aft G (RelD G) ρ1 H1 (f d S1) Q (fun c a H' => W c a σ H') := by
  obtain ⟨sd, S, ρ, hs, hr, h⟩ := h
  exact ⟨sd, S, ρ, hs, hr, Aft.bind h fun ρ1 H1 v d S1 le r1 rd h1 => ⟨ρ1, d, S1, r1, rd, h1⟩⟩
theorem pm_fldE {e : Expr} {f : Str} {m : ME} {pos : Pos} {c : Nat} {C : Addr} (hC : G.ca c = .ref C) (T : XfC G.K C) (hno : PySem.W.findIn G.K (.ref C) f = some none) (he : PEm G X e m) (hb : attributeBase e f X.env (eval e X.env) = eval e X.env := by rfl) :
    PEm G X (.Attribute e f pos) (mUn (fldE c f) m) := fun W ok => by
  refine ⟨fun pins s σ H Q I h => ?_⟩
  refine attr_of hb (thn ((he W ok).run pins s σ H _ I (te_un h)) fun u s1 hh => ?_)
  obtain ⟨v, H1, I1, rv, ρ1, d, S1, r1, rd, h1⟩ := hh
  unfold fldE at h1
  split at h1
  · rename_i n
    split at h1
    · rename_i c' fs en
      split at h1
      · rename_i d2 ec el
        obtain ⟨a, C', ox, od, rfl, hC', J, hl⟩ := exv_inst I1 r1 rd en
        have ec' : c' = c := by simpa using ec
        rw [ec', hC] at hC'
        cases hC'
        obtain ⟨v2, u2, rd2, ru2, hsome, hlk⟩ := hl f d2 el
        cases (show u = Value.ref a from rv)
        cases od with
        | none => cases hsome
        | some o =>
          rw [ok.kk] at T hno
          exact HandSPX.exc_get I1.kIn J T.ga T.gg T.exC (PySem.W.findObj_own T.hdC hno rfl (hlk o rfl)) (handed_of ru2) ⟨v2, H1, I1.tok _, ru2, h1.ok r1 rd2⟩
      · exact h1.elim
    · exact h1.elim
  · exact h1.elim
/-! ### raise -/
def sRaiseP (c : Nat) : MS := fun sd S => .ex ⟨c, []⟩ sd S
def sRaiseK (c : Nat) (f : Str) (m : ME) : MS := fun sd S => bindS (m sd S) sd fun d S1 => .ex ⟨c, [(f, d)]⟩ sd S1
/-- raise X('m') -/
theorem ps_raiseP {x m : Str} {j c : Nat} {C : Addr} {p p2 pos pos' : Pos} (hc : X.calm = true) (hC : G.ca c = .ref C) (T : KpC G.K C) (hg : Gl X x) (gC : X.mg x = some (.ref C)) (hdb : (x == ("__debug__" : Str)) = false := by decide) :
    PSm G X (.Raise (some (.Call (.Name x p) [.Constant (.str m) j p2] [] pos)) none pos') (sRaiseP c) := fun W ok => by
  obtain ⟨B, newId, initId, bmB, F, qq⟩ := T.ex
  have e1 := T.exC
  have e2 := T.tyC
  have e3 := T.kC
  rw [ok.kk] at qq e1 e2 e3
  refine PS_imp (ps_raise hc ok.tk (pmk_own F qq gC e3 (raises_own e1 e2) hg hdb)) fun E σ H ⟨sd, S, ρ, hs, hr, h⟩ => ?_
  exact h ρ H σ _ _ Le.refl hr hs ⟨hC.symm, trivial⟩
/-- raise X(e), kept -/
theorem ps_raiseK {x : Str} {c k : Nat} {C : Addr} {st : Stmt} {sn vn f : Str} {e : Expr} {m : ME} {p pos pos' : Pos} (hc : X.calm = true) (hC : G.ca c = .ref C) (T : KxC X.prog G.K C st sn vn f) (hgs : X.mg "super" = none) (hr : Room (k + 1) X.A) (hg : Gl X x) (gC : X.mg x = some (.ref C)) (he : PEm G X e m)
    (hdb : (x == ("__debug__" : Str)) = false := by decide) (hst : starEach [e] X.env = (false, eval e X.env) :: starEach [] X.env := by rfl) :
    PSm G X (.Raise (some (.Call (.Name x p) [e] [] pos)) none pos') (sRaiseK c f m) := fun W ok => by
  rw [ok.kk] at T
  have mk : PMk X (.Call (.Name x p) [e] [] pos) (fun σ H Q => te G m W σ H fun v H1 => ∀ dx, H1 dx = none → Q (.ref C) (some dx) (upd H1 dx (.xd [(f, v)]))) := by
    intro pins s σ H Q I h
    refine wpAny_Call_Name_kw (ld_glob I hg gC ?_ hdb)
    refine PySem.W.callWith_K (h₀ := X.base) I.ok.mod.kin T.kC ?_ hst (by rfl)
    rw [hst]
    show wpAny _ _ (spliced ((false, eval e X.env) :: backTo pos (starEach [] X.env))) _ _ s
    refine Calls.spliced_cons (thn ((he W ok).run pins s σ H _ I h) fun u s1 ⟨v, H1, I1, r1, q1⟩ => ?_)
    refine Calls.spliced_nil ⟨I1.kIn, ?_⟩
    show wpAny _ _ (call (.ref C) [u]) _ _ _
    refine run_kept T hgs hr I1 r1 fun a dx s' G' Ha Hd hda hget ga gs ho hg2 hb J1 J2 => ?_
    obtain ⟨t1, hget⟩ := hget
    exact ⟨a, _, _, G', _, .ref C, some dx, rfl, J1, gs, ga, hget, ⟨rfl, rfl⟩, rfl, rfl, by rw [upd_ne (Ne.symm hda)]; exact Ha, ho, hb, raises_own T.xf.exC T.tyC, q1 dx Hd⟩
  refine PS_imp (ps_raise hc ok.tk mk) fun E σ H ⟨sd, S, ρ, hs, hr, h⟩ => ?_
  refine ⟨sd, S, ρ, hs, hr, AftS.bind h hs fun ρ1 H1 v d S1 le r1 rd h1 dx hd => ?_⟩
  have le1 : Le G ρ1 H1 ρ1 (upd H1 dx (.xd [(f, v)])) := Le.same (same_new hd)
  refine h1 ρ1 _ σ _ _ le1 (r1.free hd) (hs.mono (le.trans le1)) ⟨hC.symm, ?_⟩
  refine ⟨_, upd_same, fun g e z => ?_⟩
  by_cases hg : g = f
  · subst hg
    have z' : d = e := by simpa [List.lookup] using z
    subst z'
    exact ⟨v, by simp [List.lookup], rd.mono le1⟩
  · have : (g == f) = false := by simpa using hg
    simp [List.lookup, this] at z
end
end Y

/-! Yd: {}, classes as values, what is never reached, repr of a list of empty dicts. -/
namespace Y
open PySem PySem.Spec PyProof.Rows L2
section
variable {G : Glo} {X : Cx} {ρ : Rho} {H : Hp}
def mDct0 : ME := fun _ S => .ok (.loc S.n) (S.new (.dct 0 []))
theorem pm_dct0 {pos : Pos} : PEm G X (.Dict [] [] pos) mDct0 := fun W ok => PE_imp pe_dnewK fun σ H Q ⟨sd, S, ρ, hs, hr, h⟩ p hp => by
  exact h (ext ρ S.n p) _ _ ((Le.ext (hr.top _ (Nat.le_refl _))).trans (Le.same (same_new hp))) (hr.new hp (.inl ⟨[], upd_same, rfl⟩)) (RelD.loc' ext_same)
theorem pm_cls {x : Str} {n : Nat} {v : V} {pos : Pos} (hg : Gl X x) (hm : X.mg x = some (G.ca n)) (r : RelV v (G.ca n)) (hd : (x == ("__debug__" : Str)) = false := by decide) : PEm G X (.Name x pos) (mC (.cls n)) :=
  pm_glob hg hm r (fun _ _ => by simp only [RelD]; exact r) hd
theorem pm_bcl {x : Str} {n : Nat} {T : String} {pos : Pos} (hg : Gl X x) (hm : X.mg x = none) (hb : bootBuiltins x = some (.type T)) (hc : G.ca n = .type T) (hn : x ≠ "__name__" := by decide) (hd : (x == ("__debug__" : Str)) = false := by decide) : PEm G X (.Name x pos) (mC (.cls n)) :=
  pm_c (pe_bltn hg hm hb (v := .ty T) rfl hn hd) fun _ _ => by simp only [RelD, hc]; rfl
/-- never reached -/
def mNo : ME := fun _ _ => .stuck
def sNo : MS := fun _ _ => .stuck
theorem pm_no {e : Expr} : PEm G X e mNo := fun W ok => ⟨fun pins s σ H Q I ⟨sd, S, ρ, hs, hr, h⟩ => h.elim⟩
theorem ps_no {st : Stmt} : PSm G X st sNo := fun W ok => ⟨fun pins s σ H D I ⟨sd, S, ρ, hs, hr, h⟩ => h.elim⟩
theorem pss_no {st : List Stmt} : PSsm G X st sNo := fun W ok => ⟨fun pins s σ H D I ⟨sd, S, ρ, hs, hr, h⟩ => h.elim⟩

/-! ### repr of a list of empty dicts -/
def allD0 (S : Sto) : List D → Bool
  | [] => true
  | d :: r => isDct0 d S && allD0 S r
def isDs0 (d : D) (S : Sto) : Option Nat := match d with
  | .loc k => (match S.get k with
    | some (.lst (x :: l)) => if allD0 S (x :: l) then some (l.length + 1) else none
    | _ => none)
  | _ => none
def fReprD : MF
  | [d], S => (match isDs0 d S with
    | some n => if (PyData.shown (.list (List.replicate n (.dict [])))).length ≤ 16777216 then .ok (.str (PyData.shown (.list (List.replicate n (.dict [])))).cps.toList) S else .stuck
    | none => fRepr [d] S)
  | _, _ => .stuck
theorem dct0_reads {pins : List (Addr × Obj)} {s : Shared} {σ : L2.St} {S : Sto} {d : D} {v : V} {u : Value} (I : Inv X pins σ H s) (rp : Rep G ρ S H) (rd : RelD G ρ H d v) (rv : RelV v u) (h0 : isDct0 d S = true) : ∃ a, (a == sysModules) = false ∧ Reads s.heap u (.dict []) [a] := by
  unfold isDct0 at h0
  split at h0
  · rename_i k
    split at h0
    · rename_i el
      simp only [RelD] at rd
      obtain ⟨a, e1, rfl⟩ := rd
      cases rv
      obtain ⟨b, e2, c⟩ := rp.cell k _ el
      rw [e1] at e2
      cases e2
      rcases c with ⟨kvs, hd, pk⟩ | ⟨hne, _⟩
      · have hd : H a = some (.dK kvs) := hd
        have ek : kvs = [] := pk
        subst ek
        obtain ⟨_, hsys, vs, kv, o, es, ep, h1, hx, hdt, _, r2, _⟩ := I.hok a _ hd
        have ev : vs = [] := by cases kv; rfl
        subst ev
        have ees : es.toList = [] := by
          have := r2.length
          simp at this
          exact List.length_eq_zero_iff.mp (by simpa using this)
        exact ⟨a, hsys, .dict (kvs := []) (as := []) (bs := []) h1 hx.1 hdt (by rw [ees]; exact .nil) (by rw [ees]; exact .nil)⟩
      · exact absurd rfl hne
    · cases h0
  · cases h0
theorem dcts_reads {pins : List (Addr × Obj)} {s : Shared} {σ : L2.St} {S : Sto} (I : Inv X pins σ H s) (rp : Rep G ρ S H) : ∀ {l : List D} {xs : List V} {us : List Value}, RelDs G ρ H l xs → Vals xs us → allD0 S l = true → ∃ bs, sysModules ∉ bs ∧ ReadsAll s.heap us (List.replicate l.length (.dict [])) bs
  | [], xs, us, h, r, _ => by
    simp only [RelDs] at h
    subst h
    cases r
    exact ⟨[], by simp, .nil⟩
  | d :: l, xs, us, h, r, q => by
    simp only [RelDs] at h
    obtain ⟨v, ys, rfl, h1, h2⟩ := h
    unfold allD0 at q
    rw [Bool.and_eq_true] at q
    cases r with
    | cons rv rr =>
      obtain ⟨a, ha, ra⟩ := dct0_reads I rp h1 rv q.1
      obtain ⟨bs, hb, rb⟩ := dcts_reads I rp h2 rr q.2
      refine ⟨[a] ++ bs, fun z => ?_, .cons ra rb⟩
      rcases List.mem_append.mp z with z | z
      · have e : sysModules = a := by simpa using z
        rw [← e] at ha
        simp at ha
      · exact hb z
theorem showable_rep (n : Nat) : PyData.showableAll (List.replicate n (.dict [])) = true := by
  induction n with
  | zero => rfl
  | succ n ih => rw [List.replicate_succ]; simp [PyData.showableAll, PyData.showable, PyData.showableKv, ih]
theorem depth_rep (n : Nat) : PyData.depthAll (List.replicate n (.dict [])) ≤ 5 := by
  induction n with
  | zero => decide
  | succ n ih => rw [List.replicate_succ]; simp [PyData.depthAll, PyData.depth, PyData.depthKv]; omega
theorem cm_reprD (hg : X.A.guards = some []) (hu : X.A.units + 64 < cLine) : CallM G X (.builtin "repr") fReprD := fun W ok pins s σ H ρ S xs us ds Q I r rp rd q => by
  unfold fReprD at q
  split at q
  · rename_i d
    split at q
    · rename_i n en
      split at q
      · rename_i hz
        unfold isDs0 at en
        split at en
        · rename_i k
          split at en
          · rename_i x l el
            split at en
            · rename_i hall
              cases en
              simp only [RelDs] at rd
              obtain ⟨v, _, rfl, rd, rfl⟩ := rd
              obtain ⟨u, rfl, rv⟩ := vals1 r
              obtain ⟨a, ys, rfl, e5, hH, ht⟩ := rp.list el rd
              cases rv
              obtain ⟨h1, vs, n, hv, h2⟩ := I.hok a _ hH
              obtain ⟨bs, hbs, rb⟩ := dcts_reads I rp ht hv hall
              have rr : Reads s.heap (.ref a) (.list (List.replicate (l.length + 1) (.dict []))) (a :: bs) := .list h2 rfl rfl (by simpa using rb)
              have hz' : (listText (PyData.shownAll (List.replicate (l.length + 1) (.dict [])))).length ≤ sizeLine := by
                rw [sizeLine_eq]
                simpa only [PyData.shown] using hz
              obtain ⟨bs2, hb, hk⟩ := ReprAllK.of_readsAll (prog := X.prog) (w := X.w) (by simpa using rb) (showable_rep (l.length + 1)) (fun _ => hbs) (fun t ht => Nat.le_trans (listText_mem_le ht) hz')
              have hna : a ∉ bs2 := not_mem_of_deeper rr (by simp only [PyData.depth]; omega) hb
              have hdp := depth_rep (l.length + 1)
              cases hv with
              | nil =>
                simp only [RelDs] at ht
                obtain ⟨_, _, z, _⟩ := ht
                cases z
              | @cons _ x0 _ vs0 rv0 hv0 =>
                refine call_repr_slot (T := "list") (by omega) ⟨_, h2, rfl⟩ F.slot_list_repr.toG ?_
                refine call_list_reprK (d := PyData.depthAll (List.replicate (l.length + 1) (.dict []))) (ts := PyData.shownAll (List.replicate (l.length + 1) (.dict []))) h2 rfl rfl hna (by simpa using hk.length_eq) (fun i y e => hk.item i y (by simpa using e)) hg (fun b _ => Clear.nil b) (by show X.A.units + 1 + _ < cLine; omega) (fun _ _ e => e) (fun h' u tk k => ⟨_, _, rfl, ?_⟩) hz'
                refine ⟨.str _, H, I.kept (t' := tk) k, ⟨_, rfl⟩, ?_⟩
                have h := q.ok rp (rel_str (x := (PyData.shown (.list (List.replicate (l.length + 1) (.dict [])))).cps.toList))
                rw [str_eta] at h
                simpa only [PyData.shown] using h
            · cases en
          · cases en
        · cases en
      · exact q.elim
    · exact cm_repr hg hu W ok pins s σ H ρ S xs us _ Q I r rp rd q
  · exact q.elim
end
end Y

/-! Ye: what the written part says, asked by one look each. -/
namespace Y
open PySem PySem.Spec PyProof.Rows L2
open PySem.W (Frag findIn subIn clsIn mroIn specialIn takesIn keepIn typeIn kitOne excIn)
def caOf (l : List (Nat × Value)) (n : Nat) : Value := (l.lookup n).getD .none
abbrev ca0 : List (Nat × Value) := [(0, .type "int"), (1, .type "bool"), (2, .type "str"), (3, .type "tuple"), (4, .type "list"), (5, .type "dict"), (6, .type "NoneType"), (100, .type "ValueError"), (101, .type "IndexError"), (102, .type "KeyError"), (103, .type "RuntimeError"), (104, .type "OverflowError"), (105, .type "ArithmeticError")]
def caL (l : List (Nat × Value)) : Nat → Value := caOf (List.append ca0 l)
theorem bt_caL {l : List (Nat × Value)} : ∀ n T, btn n = some T → caL l n = .type T := fun n T h => by
  unfold btn at h
  split at h <;> first | (cases h; rfl) | cases h
theorem bt_ca0 {l : List (Nat × Value)} : ∀ n T, btn n = some T → caOf (ca0 ++ l) n = .type T := fun n T h => by
  unfold btn at h
  split at h <;> first | (cases h; rfl) | cases h
def kitOf (ts cs : List Nat) (f : Nat → Nat → Bool) : Nat → Nat → Option Bool := fun t c => if ts.contains t && cs.contains c then some (f t c) else none
def kitB (K : Frag) (ca : Nat → Value) (ts cs : List Nat) (f : Nat → Nat → Bool) : Bool := ts.all fun t => cs.all fun c => kitOne K (ca t) (ca c) == some (f t c)
def clB (ca : Nat → Value) (cs : List Nat) : Bool := cs.all fun c => match ca c with
  | .type _ => true
  | .ref _ => true
  | _ => false
theorem kit_has {ts cs : List Nat} {f : Nat → Nat → Bool} {t c : Nat} {b : Bool} (h : kitOf ts cs f t c = some b) : t ∈ ts ∧ c ∈ cs ∧ f t c = b := by
  unfold kitOf at h
  split at h
  · rename_i z
    rw [Bool.and_eq_true, List.contains_iff_mem, List.contains_iff_mem] at z
    cases h
    exact ⟨z.1, z.2, rfl⟩
  · cases h
theorem kitB_at {K : Frag} {ca : Nat → Value} {ts cs : List Nat} {f : Nat → Nat → Bool} (h : kitB K ca ts cs f = true) {t c : Nat} {b : Bool} (e : kitOf ts cs f t c = some b) : kitOne K (ca t) (ca c) = some b := by
  obtain ⟨h1, h2, h3⟩ := kit_has e
  have := List.all_eq_true.mp (List.all_eq_true.mp h t h1) c h2
  rw [← h3]
  exact beq_iff_eq.mp this
theorem clB_at {ca : Nat → Value} {cs : List Nat} (h : clB ca cs = true) {c : Nat} (hc : c ∈ cs) : ∃ v, RelV v (ca c) ∧ ClsV v (ca c) := by
  have := List.all_eq_true.mp h c hc
  split at this
  · rename_i n e
    rw [e]
    exact ⟨.ty n, rfl, .ty n⟩
  · rename_i C e
    rw [e]
    exact ⟨.ref C, rfl, .own C⟩
  · cases this
def slB (ca : Nat → Value) (K : Frag) (p : Addr → Bool) (ts : List Nat) : Bool := ts.all fun t => match ca t with
  | .ref C => p C
  | _ => true
theorem slB_at {ca : Nat → Value} {K : Frag} {p : Addr → Bool} {ts : List Nat} (h : slB ca K p ts = true) {t : Nat} (ht : t ∈ ts) {C : Addr} (e : ca t = .ref C) : p C = true := by
  have := List.all_eq_true.mp h t ht
  rw [e] at this
  exact this
theorem kitOk_of {G : Glo} {ts cs : List Nat} {f : Nat → Nat → Bool} {p : Addr → Bool} (bt : ∀ n T, btn n = some T → G.ca n = .type T) (h : kitB G.K G.ca ts cs f = true) (hc : clB G.ca cs = true) (hs : slB G.ca G.K p ts = true) (hp : ∀ C, p C = true → SlX.SCls G.K C ∧ SlX.SIsi G.K C) : KitOk G (kitOf ts cs f) :=
  ⟨bt, fun t c b e => kitB_at h e, fun c b t e => clB_at hc (kit_has e).2.1, fun t c b C e eC => hp C (slB_at hs (kit_has e).1 eC)⟩
/-- what isinstance wants of an exception class -/
def kiB (K : Frag) (C : Addr) : Bool :=
  (clsIn K C).isSome && findIn K (.ref C) "__getattribute__" == some (some (.builtin "BaseException.__getattribute__")) && (findIn K (.ref C) "__getattr__").isSome && subIn K (.ref C) (.type "BaseException") == some true &&
    findIn K (.ref C) "__class__" == some (some (.builtin "object.__class__")) && specialIn K (.builtin "object.__class__") "__get__" == some (some (.builtin "getset_descriptor.__get__")) && takesIn K (.builtin "object.__class__") == some true && mroIn K C (.type "object") == some true
theorem kiB_ok {K : Frag} {C : Addr} (h : kiB K C = true) : KiC K C := by
  unfold kiB at h
  simp only [Bool.and_eq_true, beq_iff_eq] at h
  obtain ⟨⟨⟨⟨⟨⟨⟨h1, h2⟩, h3⟩, h4⟩, h5⟩, h6⟩, h7⟩, h8⟩ := h
  exact ⟨h1, h2, Option.isSome_iff_exists.mp h3, h4, h5, h6, h7, h8⟩
theorem kixOk_of {G : Glo} {ts cs : List Nat} {f : Nat → Nat → Bool} (h : kitB G.K G.ca ts cs f = true) (hc : clB G.ca cs = true) (hs : slB G.ca G.K (kiB G.K) ts = true) : KixOk G (kitOf ts cs f) :=
  ⟨fun t c b e => kitB_at h e, fun c b t e => clB_at hc (kit_has e).2.1, fun t c b C e eC => kiB_ok (slB_at hs (kit_has e).1 eC)⟩
/-- an own exception class over ValueError without own __init__ -/
def kpB (K : Frag) (C : Addr) : Bool :=
  excIn K C [.type "ValueError", .type "Exception", .type "BaseException", .type "object"] "ValueError.__new__" && subIn K (.ref C) (.type "BaseException") == some true && typeIn K (.ref C) == some (.type "type") && keepIn K (.ref C)
theorem kpB_ok {K : Frag} {C : Addr} (h : kpB K C = true) : KpC K C := by
  unfold kpB at h
  simp only [Bool.and_eq_true, beq_iff_eq] at h
  obtain ⟨⟨⟨h1, h2⟩, h3⟩, h4⟩ := h
  exact ⟨⟨_, _, _, _, F.excBase_ValueError, h1⟩, h2, h3, h4⟩
/-- an own exception class that keeps a field -/
def kxB (K : Frag) (C D fI : Addr) (f : Str) (B newId i : String) (bmB : List Value) : Bool :=
  PySem.W.excInitIn K C bmB newId && PySem.W.excOver K C bmB && subIn K (.ref C) (.type B) == some true && findIn K (.ref C) "__init__" == some (some (.ref fI)) && PySem.W.isFn K (.ref fI) && (clsIn K D).isSome && mroIn K C (.ref D) == some true &&
    PySem.W.ks_superIn K C D "__init__" == some (some (.builtin i)) && PySem.W.nsIn K cStatics "thirdparty.any" == some none && findIn K (.ref C) "__setattr__" == some (some (.builtin "object.__setattr__")) && PySem.W.takerIn K C f == some none &&
    PySem.W.hasDictIn K C && xfB K C && findIn K (.ref C) f == some none && typeIn K (.ref C) == some (.type "type") && keepIn K (.ref C)
theorem kxC_of {P : Program} {K : Frag} {C D fI cc cda : Addr} {st : Stmt} {sn vn f : Str} {B newId i : String} {bmB : List Value} {qual : Str} {kV doc pm ct oc ccl cl : Value} {an od cdd cld : Option Addr} {osl ccs csl : Array (Option Value)} {vs : Array Value} {file : Str} {tf : Tok} (s : KxS st sn vn f) (kt : KxT B newId i bmB)
    (l : K.lookup fI = some ⟨oc, od, .func (PySem.W.ksFn "__init__" qual (defArgs st) (defBody st) (defScope st) .none kV doc pm an (.ref cda) ct cc), osl⟩) (c : PySem.W.codeIn K (.ref cda) qual = true) (l2 : K.lookup cda = some ⟨ccl, cdd, .fields vs, ccs⟩) (hv : vs[2]? = some (.str file tf)) (hf : ((P.main.file : Str) == file) = true)
    (l3 : K.lookup cc = some ⟨cl, cld, .cell (some (.ref D)), csl⟩) (top : (P.main.scope.names.lookup ("super" : Str)).isSome = false) (h : kxB K C D fI f B newId i bmB = true) : KxC P K C st sn vn f := by
  unfold kxB at h
  simp only [Bool.and_eq_true, beq_iff_eq] at h
  obtain ⟨⟨⟨⟨⟨⟨⟨⟨⟨⟨⟨⟨⟨⟨⟨h1, h2⟩, h3⟩, h4⟩, h5⟩, h6⟩, h7⟩, h8⟩, h9⟩, h10⟩, h11⟩, h12⟩, h13⟩, h14⟩, h15⟩, h16⟩ := h
  exact ⟨s, ⟨B, newId, i, bmB, fI, D, cc, cda, qual, kV, doc, pm, ct, oc, an, od, osl, kt, h1, h2, h3, h4, h5, l, c, ⟨ccl, cdd, vs, ccs, file, tf, l2, hv, hf⟩, ⟨cl, cld, csl, l3⟩, h6, h7, h8⟩, top, h9, h10, h11, h12, xfB_ok h13, h14, h15, h16⟩
def inCls (s : Stmt) (k : Nat) : Stmt := match s with
  | .ClassDef _ _ _ b _ _ _ _ _ _ _ => b.getD k (.Pass ⟨0, 0, 0, 0⟩)
  | _ => .Pass ⟨0, 0, 0, 0⟩
section
variable {G : Glo} {X : Cx}
theorem pm_clsO {x : Str} {n : Nat} {C : Addr} {pos : Pos} (hg : Gl X x) (hm : X.mg x = some (.ref C)) (hC : G.ca n = .ref C) (hd : (x == ("__debug__" : Str)) = false := by decide) : PEm G X (.Name x pos) (mC (.cls n)) :=
  pm_cls (v := .ref C) hg (by rw [hC]; exact hm) (by rw [hC]; rfl) hd
end
/-- a name that the top leaves as it is told -/
theorem loose_int {lv : List (Str × PySem.W.WData)} {mg : Str → Option Value} {h : Heap} {G : Glo} {x : Str} {i : Int} (L : PySem.W.LooseAre lv mg h) (hm : (x, PySem.W.WData.int i) ∈ lv) : ∃ u v, mg x = some u ∧ RelV v u ∧ ∀ ρ H, RelD G ρ H (.int i) v := by
  obtain ⟨v, a, b⟩ := L.val _ hm
  cases b
  exact ⟨_, .int i, a, ⟨_, rfl⟩, fun _ _ => rel_int⟩
theorem glob_int {K : Frag} {h : Heap} {mg : Str → Option Value} {G : Glo} {x : Str} {i : Int} {t : Tok} (X : K.In h) (Gn : h.Ns mainGlobals mg) (e : PySem.W.nsIn K mainGlobals x = some (some (.int i t))) : ∃ u v, mg x = some u ∧ RelV v u ∧ ∀ ρ H, RelD G ρ H (.int i) v :=
  ⟨_, .int i, PySem.W.mg_of X Gn e, ⟨t, rfl⟩, fun _ _ => rel_int⟩
end Y

/-! Yf: the dice, by their mirrors (the same in every law). -/
namespace Y
open PySem PySem.Spec PyProof.Rows L2
def b_Lroll : MS := (sSeq (sIf (mTst cGt (mBin ixD (mVar 0) (mC (.int 0))) (mC (.int 0))) (sSeq (sSet 2 (mBin bMod (mCall fInt (mCons (mBin ixD (mVar 0) (mC (.int 0))) mNil)) (mVar 1)))
  (sSeq (sStL (mVar 0) (mC (.int 0)) (mBin bDiv (mBin ixD (mVar 0) (mC (.int 0))) (mVar 1)))
  (sRet (mVar 2)))) sSkip)
  (sSeq (sStL (mVar 0) (mC (.int 2)) (mBin bAdd (mBin ixD (mVar 0) (mC (.int 2))) (mC (.int 1))))
  (sSeq (sSet 3 (mBin bMod (mCall fInt (mCons (mBin bAdd (mBin ixD (mVar 0) (mC (.int 1))) (mBin bMul (mC (.int 49979719)) (mBin ixD (mVar 0) (mC (.int 2))))) mNil)) (mC (.int 2305843009213693613))))
  (sSeq (sSet 4 (mBin bAdd (mBin bMul (mBin bMod (mCall fInt (mCons (mBin bAdd (mBin bMul (mVar 3) (mVar 3)) (mBin bMul (mC (.int 97)) (mBin ixD (mVar 0) (mC (.int 2))))) mNil)) (mC (.int 2305843009213693907))) (mC (.int 7368797))) (mVar 3)))
  (sRet (mBin bMod (mCall fInt (mCons (mBin bDiv (mVar 4) (mC (.int 65536))) mNil)) (mVar 1)))))))
def m_Lroll : MF := mkF 5 2 b_Lroll
def b_Ldice : MS := (sSeq (sSet 2 (mIf (mTst cLt (mVar 1) (mCall fLen (mCons (mVar 0) mNil))) (mCall fInt (mCons (mBin ixD (mVar 0) (mVar 1)) mNil)) (mBin bAdd (mBin bMul (mC (.int 67)) (mVar 1)) (mC (.int 19)))))
  (sSeq (sSet 3 (mBin bMod (mCall fMax2 (mCons (mC (.int 0)) (mCons (mBin bSub (mCall fAbs (mCons (mVar 2) mNil)) (mBin bPow (mC (.int 10)) (mC (.int 16)))) mNil))) (mBin bMul (mBin bPow (mC (.int 10)) (mC (.int 60))) (mBin bPow (mC (.int 10)) (mC (.int 60))))))
  (sRet (mLst (mCons (mVar 3) (mCons (mBin bAdd (mBin bAdd (mBin bAdd (mBin bMul (mBin bMod (mCall fAbs (mCons (mVar 2) mNil)) (mC (.int 1152921504606846817))) (mC (.int 47))) (mBin bMul (mC (.int 821)) (mVar 1))) (mBin bMul (mC (.int 31)) (mCall fInt (mCons (mBin cLt (mVar 2) (mC (.int 0))) mNil)))) (mC (.int 3))) (mCons (mC (.int 0)) mNil)))))))
def m_Ldice : MF := mkF 4 2 b_Ldice
theorem mulOk_small {i j : Int} (h : i.natAbs < 18446744073709551616) : mulOk i j = true := by
  unfold mulOk
  rw [decide_eq_true h]
  rfl
theorem run_roll : ∀ (S : Sto) (d : Nat) (t x y z : Int), S.get d = some (dcell x y z) → 0 < t → t.natAbs.log2 < 9000 → ∃ r x' y' z', 0 ≤ r ∧ r < t ∧ m_Lroll [.loc d, .int t] S = .ok (.int r) (S.set d (dcell x' y' z')) := by
  intro S d t x y z h ht hl
  unfold dcell at h
  have hi : ∀ (c : Cell), (S.set d c).get d = some c := fun c => Sto.get_set_self h
  by_cases hx : 0 < x
  · refine ⟨x % t, x / t, y, z, Int.emod_nonneg _ (by omega), Int.emod_lt_of_pos _ ht, ?_⟩
    simp [m_Lroll, mkF, stD, b_Lroll, sSeq, SRes.andThen, sIf, bindS, mTst, mBin, mVar, mC, Res.bind, ixD, cGt, atI, ixN, h, hx, sSet, mCall, mCons, mNil, fInt, bMod, ht, sStL, stL, bDiv, hl, sRet, SRes.res, dcell]
  · obtain ⟨one, e1⟩ : ∃ one : Int, one = (y + 49979719 * (z + 1)) % 2305843009213693613 := ⟨_, rfl⟩
    obtain ⟨tw, e2⟩ : ∃ tw : Int, tw = (one * one + 97 * (z + 1)) % 2305843009213693907 := ⟨_, rfl⟩
    have b1 : mulOk one one = true := mulOk_small (by omega)
    have b2 : mulOk tw 7368797 = true := mulOk_small (by omega)
    have b3 : ∀ j, mulOk 49979719 j = true := fun j => mulOk_small (by decide)
    have b4 : ∀ j, mulOk 97 j = true := fun j => mulOk_small (by decide)
    have b5 : Nat.log2 65536 < 9000 := by decide +kernel
    refine ⟨(tw * 7368797 + one) / 65536 % t, x, y, z + 1, Int.emod_nonneg _ (by omega), Int.emod_lt_of_pos _ ht, ?_⟩
    simp [m_Lroll, mkF, stD, b_Lroll, sSeq, SRes.andThen, sIf, bindS, mTst, mBin, mVar, mC, Res.bind, ixD, cGt, atI, ixN, h, hi, hx, sSet, sSkip, mCall, mCons, mNil, fInt, bMod, bAdd, bMul, ht, sStL, stL, bDiv, hl, sRet, SRes.res, dcell, b1, b2, b3, b4, b5, ← e1, ← e2]
theorem run_dice : ∀ (S : Sto) (l : List Int) (i : Int), 0 ≤ i → i < 1000000 → ∃ x y z, m_Ldice [.scr l, .int i] S = .ok (.loc S.n) (S.new (dcell x y z)) := by
  intro S l i h0 h1
  have b1 : ∀ j, mulOk 67 j = true := fun j => mulOk_small (by decide)
  have b2 : ∀ j, mulOk 821 j = true := fun j => mulOk_small (by decide)
  have b3 : ∀ j, mulOk 31 j = true := fun j => mulOk_small (by decide)
  have b4 : mulOk (10 ^ 60) (10 ^ 60) = true := by decide +kernel
  have b5 : ∀ j : Int, mulOk (j % 1152921504606846817) 47 = true := fun j => mulOk_small (by omega)
  have b6 : (0 : Int) < 10 ^ 60 * 10 ^ 60 := by decide
  obtain ⟨c, hc⟩ : ∃ c : Int, (mIf (mTst cLt (mVar 1) (mCall fLen (mCons (mVar 0) mNil))) (mCall fInt (mCons (mBin ixD (mVar 0) (mVar 1)) mNil)) (mBin bAdd (mBin bMul (mC (.int 67)) (mVar 1)) (mC (.int 19)))) [some (.scr l), some (.int i), none, none] S = .ok (.int c) S := by
    by_cases hl : i < (l.length : Int)
    · have hj : i.toNat < l.length := by omega
      have ha : atI l i = some l[i.toNat] := by
        unfold atI ixN
        rw [if_pos h0, if_pos hl, Option.bind_some, List.getElem?_eq_getElem hj]
      exact ⟨l[i.toNat], by simp [mIf, mTst, mBin, mVar, mC, mCall, mCons, mNil, Res.bind, cLt, fLen, hl, ixD, ha, fInt]⟩
    · exact ⟨67 * i + 19, by simp [mIf, mTst, mBin, mVar, mC, mCall, mCons, mNil, Res.bind, cLt, fLen, hl, bMul, b1, bAdd]⟩
  have e1 : m_Ldice [.scr l, .int i] S = mkF 4 2 b_Ldice [.scr l, .int i] S := rfl
  have c1 : (0 : Int) ≤ 16 ∧ (16 : Int) ≤ 1000000 ∧ (10 : Int).natAbs < 18446744073709551616 := by decide
  have c2 : (0 : Int) ≤ 60 ∧ (60 : Int) ≤ 1000000 ∧ (10 : Int).natAbs < 18446744073709551616 := by decide
  have c3 : (0 : Int) < 1152921504606846817 := by decide
  have t16 : (16 : Int).toNat = 16 := rfl
  have t60 : (60 : Int).toNat = 60 := rfl
  generalize hab : (if c < 0 then -c else c) = ab
  refine ⟨(if ab - 10 ^ 16 > 0 then ab - 10 ^ 16 else 0) % (10 ^ 60 * 10 ^ 60), ab % 1152921504606846817 * 47 + 821 * i + 31 * (if decide (c < 0) = true then 1 else 0) + 3, 0, ?_⟩
  rw [e1]
  have st : stD 4 [.scr l, .int i] = [some (.scr l), some (.int i), none, none] := rfl
  simp only [mkF, st, b_Ldice, sSeq, sSet, hc, bindS, SRes.andThen, mBin, mVar, mC, mCall, mCons, mNil, Res.bind, fMax2, fAbs, bSub, bPow, bMod, bMul, b2, b3, b4, b5, b6, c1, c2, c3, t16, t60, bAdd, cLt, fInt, mLst, sRet, SRes.res, dcell, hab, List.set_cons_zero, List.set_cons_succ, List.getElem?_cons_zero, List.getElem?_cons_succ, List.length_cons, List.length_nil, if_true, and_self]
  rfl
end Y

/-! Yg: the law's own def: states that may be forgotten in part, loops over ranges. -/
namespace Y
open PySem PySem.Spec PyProof.Rows L2
mutual
def D.ren (r : Nat → Nat) : D → D
  | .tup l => .tup (rens r l)
  | .loc n => .loc (r n)
  | .non => .non
  | .bl b => .bl b
  | .int i => .int i
  | .str x => .str x
  | .cls n => .cls n
  | .scr l => .scr l
def rens (r : Nat → Nat) : List D → List D
  | [] => []
  | d :: l => d.ren r :: rens r l
end
mutual
def D.bd (n : Nat) : D → Bool
  | .tup l => bds n l
  | .loc k => decide (k < n)
  | _ => true
def bds (n : Nat) : List D → Bool
  | [] => true
  | d :: l => d.bd n && bds n l
end
def Cell.ren (r : Nat → Nat) : Cell → Cell
  | .lst l => .lst (rens r l)
  | .dct lk l => .dct lk (l.map fun p => (p.1.ren r, p.2.ren r))
  | .ins c l => .ins c (l.map fun o => o.map (D.ren r))
  | .dice => .dice
  | .exv c fs => .exv c (fs.map fun p => (p.1, p.2.ren r))
def Cell.bd (n : Nat) : Cell → Bool
  | .lst l => bds n l
  | .dct _ l => l.all fun p => p.1.bd n && p.2.bd n
  | .ins _ l => l.all fun o => match o with
    | some d => d.bd n
    | none => true
  | .dice => true
  | .exv _ fs => fs.all fun p => p.2.bd n
section
variable {G : Glo} {ρ ρ' : Rho} {H : Hp} {r : Nat → Nat} {n : Nat}
mutual
theorem RelD.unren (hr : ∀ j, j < n → ρ' j = ρ (r j)) : ∀ {d : D} {v : V}, d.bd n = true → RelD G ρ H (d.ren r) v → RelD G ρ' H d v
  | .non, v, _, h => by simpa only [D.ren, RelD] using h
  | .bl _, v, _, h => by simpa only [D.ren, RelD] using h
  | .int _, v, _, h => by simpa only [D.ren, RelD] using h
  | .str _, v, _, h => by simpa only [D.ren, RelD] using h
  | .cls _, v, _, h => by simpa only [D.ren, RelD] using h
  | .scr _, v, _, h => by simpa only [D.ren, RelD] using h
  | .loc k, v, b, h => by
    simp only [D.ren, RelD] at h ⊢
    simp only [D.bd, decide_eq_true_eq] at b
    rw [hr k b]
    exact h
  | .tup l, v, b, h => by
    simp only [D.ren, RelD] at h ⊢
    simp only [D.bd] at b
    obtain ⟨a, xs, e, hs, ht⟩ := h
    exact ⟨a, xs, e, hs, RelDs.unren hr b ht⟩
theorem RelDs.unren (hr : ∀ j, j < n → ρ' j = ρ (r j)) : ∀ {l : List D} {xs : List V}, bds n l = true → RelDs G ρ H (rens r l) xs → RelDs G ρ' H l xs
  | [], xs, _, h => by simpa only [rens, RelDs] using h
  | d :: l, xs, b, h => by
    simp only [rens, RelDs] at h ⊢
    simp only [bds, Bool.and_eq_true] at b
    obtain ⟨v, ys, e, h1, h2⟩ := h
    exact ⟨v, ys, e, RelD.unren hr b.1 h1, RelDs.unren hr b.2 h2⟩
end
theorem keyD_ren (d : D) : keyD (d.ren r) = keyD d := by cases d <;> simp only [D.ren, keyD]
theorem keysD_ren : ∀ l : List D, keysD (rens r l) = keysD l
  | [] => by simp only [rens]
  | d :: l => by simp only [rens, keysD, keyD_ren, keysD_ren l]
theorem keyT_ren (d : D) : keyT (d.ren r) = keyT d := by cases d <;> simp only [D.ren, keyT, keysD_ren]
theorem PairK.unren {κ : Type} {kf : D → Option κ} (hk : ∀ d : D, kf (d.ren r) = kf d) (hr : ∀ j, j < n → ρ' j = ρ (r j)) : ∀ {l : List (D × D)} {ys : List (κ × V)}, (l.all fun p => p.1.bd n && p.2.bd n) = true → PairK kf G ρ H (l.map fun p => (p.1.ren r, p.2.ren r)) ys → PairK kf G ρ' H l ys
  | [], ys, _, h => h
  | p :: l, ys, b, h => by
    rw [List.all_cons, Bool.and_eq_true, Bool.and_eq_true] at b
    obtain ⟨k, v, zs, e, h1, h2, h3⟩ := h
    exact ⟨k, v, zs, e, by rw [← hk]; exact h1, RelD.unren hr b.1.2 h2, PairK.unren hk hr b.2 h3⟩
theorem RelSl.unren (hr : ∀ j, j < n → ρ' j = ρ (r j)) {l : List (Option D)} {vs : List (Option V)} (b : ∀ (i : Nat) (d : D), l[i]? = some (some d) → d.bd n = true) (h : RelSl G ρ H (l.map fun o => o.map (D.ren r)) vs) : RelSl G ρ' H l vs := fun i d e => by
  obtain ⟨v, e1, q⟩ := h i (d.ren r) (by rw [List.getElem?_map, e]; rfl)
  exact ⟨v, e1, RelD.unren hr (b i d e) q⟩
theorem lookup_ren : ∀ {fs : List (Str × D)} {f : Str} {e : D}, fs.lookup f = some e → (fs.map fun p => (p.1, p.2.ren r)).lookup f = some (e.ren r) ∧ ∃ k, (k, e) ∈ fs
  | [], f, e, h => by cases h
  | p :: fs, f, e, h => by
    obtain ⟨a, b⟩ := p
    by_cases hf : f = a
    · subst hf
      have e2 : b = e := by simpa [List.lookup] using h
      subst e2
      exact ⟨by simp [List.lookup], f, List.mem_cons_self ..⟩
    · have hf' : (f == a) = false := by simpa using hf
      have h' : fs.lookup f = some e := by simpa [List.lookup, hf'] using h
      obtain ⟨q1, k, q2⟩ := lookup_ren h'
      exact ⟨by simpa [List.lookup, hf'] using q1, k, List.mem_cons_of_mem _ q2⟩
theorem CellOk.unren (hr : ∀ j, j < n → ρ' j = ρ (r j)) {a : Addr} {c : Cell} (b : c.bd n = true) (h : CellOk G ρ H a (c.ren r)) : CellOk G ρ' H a c := by
  cases c with
  | lst l =>
    obtain ⟨xs, h1, h2⟩ := h
    exact ⟨xs, h1, RelDs.unren hr b h2⟩
  | dct lk l =>
    rcases h with ⟨kvs, h1, h2⟩ | ⟨hne, kvs, h1, h2⟩
    · exact .inl ⟨kvs, h1, PairK.unren keyD_ren hr b h2⟩
    · exact .inr ⟨fun z => hne (by rw [z]; rfl), kvs, h1, PairK.unren keyT_ren hr b h2⟩
  | ins k l =>
    obtain ⟨C, dx, vs, e, h1, h2⟩ := h
    refine ⟨C, dx, vs, e, h1, RelSl.unren hr (fun i d e => ?_) h2⟩
    exact List.all_eq_true.mp b (some d) (List.mem_of_getElem? e)
  | dice => exact h
  | exv k fs =>
    obtain ⟨C, d, e, h1, h2⟩ := h
    refine ⟨C, d, e, h1, ?_⟩
    rcases h2 with ⟨z1, z2⟩ | ⟨dx, gs, e1, h3, h4⟩
    · refine .inl ⟨z1, ?_⟩
      cases fs with
      | nil => rfl
      | cons p q => cases z2
    · refine .inr ⟨dx, gs, e1, h3, fun f x q => ?_⟩
      obtain ⟨q1, k, q2⟩ := lookup_ren (r := r) q
      obtain ⟨v, q3, q4⟩ := h4 f _ q1
      exact ⟨v, q3, RelD.unren hr (List.all_eq_true.mp b _ q2) q4⟩
end
/-- from (sd, S) less is known: (sd', S') -/
def Weak (sd : SD) (S : Sto) (sd' : SD) (S' : Sto) : Prop := ∀ (G : Glo) (ρ : Rho) (H : Hp) (σ : L2.St), RelSt G ρ H sd σ → Rep G ρ S H → ∃ ρ', RelSt G ρ' H sd' σ ∧ Rep G ρ' S' H
theorem Weak.refl {sd : SD} {S : Sto} : Weak sd S sd S := fun G ρ H σ a b => ⟨ρ, a, b⟩
theorem Weak.trans {sd sd1 sd2 : SD} {S S1 S2 : Sto} (a : Weak sd S sd1 S1) (b : Weak sd1 S1 sd2 S2) : Weak sd S sd2 S2 := fun G ρ H σ h1 h2 =>
  let ⟨ρ1, h3, h4⟩ := a G ρ H σ h1 h2
  b G ρ1 H σ h3 h4
theorem Weak.of {sd sd' : SD} {S S' : Sto} (r : Nat → Nat) (hl : sd'.length = sd.length) (hs : ∀ (i : Nat) (d : D), sd'[i]? = some (some d) → d.bd S'.n = true ∧ sd[i]? = some (some (d.ren r))) (hc : ∀ j c, S'.get j = some c → c.bd S'.n = true ∧ S.get (r j) = some (c.ren r))
    (hi : ∀ i j, i < S'.n → j < S'.n → r i = r j → i = j) : Weak sd S sd' S' := fun G ρ H σ hσ hr => by
  have e : ∀ j, j < S'.n → (fun j => if j < S'.n then ρ (r j) else none : Rho) j = ρ (r j) := fun j hj => if_pos hj
  refine ⟨fun j => if j < S'.n then ρ (r j) else none, ⟨by rw [hl]; exact hσ.1, fun i d q => ?_⟩, ⟨fun j c q => ?_, fun i j a q1 q2 => ?_, fun i h => if_neg (Nat.not_lt.mpr h), fun i a q => ?_⟩⟩
  · obtain ⟨b, q1⟩ := hs i d q
    obtain ⟨v, q2, q3⟩ := hσ.2 i _ q1
    exact ⟨v, q2, RelD.unren e b q3⟩
  · have hj := Sto.get_lt q
    obtain ⟨q2, q3⟩ := hc j c q
    obtain ⟨a, q4, q5⟩ := hr.cell _ _ q3
    exact ⟨a, (e j hj).trans q4, CellOk.unren e q2 q5⟩
  · have h1 : i < S'.n := by
      by_cases z : i < S'.n
      · exact z
      · simp only [if_neg z] at q1
        cases q1
    have h2 : j < S'.n := by
      by_cases z : j < S'.n
      · exact z
      · simp only [if_neg z] at q2
        cases q2
    simp only [if_pos h1] at q1
    simp only [if_pos h2] at q2
    exact hi i j h1 h2 (hr.inj _ _ a q1 q2)
  · have h1 : i < S'.n := by
      by_cases z : i < S'.n
      · exact z
      · simp only [if_neg z] at q
        cases q
    simp only [if_pos h1] at q
    exact hr.dom _ _ q
mutual
theorem D.ren_id : ∀ d : D, d.ren id = d
  | .non => rfl
  | .bl _ => rfl
  | .int _ => rfl
  | .str _ => rfl
  | .cls _ => rfl
  | .scr _ => rfl
  | .loc _ => rfl
  | .tup l => by simp only [D.ren, rens_id l]
theorem rens_id : ∀ l : List D, rens id l = l
  | [] => rfl
  | d :: l => by simp only [rens, D.ren_id d, rens_id l]
end
theorem Cell.ren_id (c : Cell) : c.ren id = c := by
  cases c with
  | lst l => simp only [Cell.ren, rens_id]
  | dct lk l => simp [Cell.ren, D.ren_id]
  | ins c l =>
    simp only [Cell.ren]
    congr 1
    refine (List.map_congr_left (g := id) fun o _ => ?_).trans (List.map_id l)
    cases o <;> simp [D.ren_id]
  | dice => rfl
  | exv c fs => simp [Cell.ren, D.ren_id]
/-- names and younger cells forgotten -/
theorem Weak.cut {sd sd' : SD} {S S' : Sto} (hl : sd'.length = sd.length) (hs : ∀ (i : Nat) (d : D), sd'[i]? = some (some d) → d.bd S'.n = true ∧ sd[i]? = some (some d)) (hc : ∀ j c, S'.get j = some c → c.bd S'.n = true ∧ S.get j = some c) : Weak sd S sd' S' :=
  .of id hl (fun i d q => ⟨(hs i d q).1, by rw [D.ren_id]; exact (hs i d q).2⟩) (fun j c q => ⟨(hc j c q).1, by rw [Cell.ren_id]; exact (hc j c q).2⟩) (fun i j _ _ e => e)
/-- the same, seen by one look at the names -/
def sdIn : SD → SD → Nat → Prop
  | [], [], _ => True
  | some d :: r, o :: r', n => d.bd n = true ∧ o = some d ∧ sdIn r r' n
  | none :: r, _ :: r', n => sdIn r r' n
  | _, _, _ => False
theorem sdIn_ok : ∀ {sd' sd : SD} {n : Nat}, sdIn sd' sd n → sd'.length = sd.length ∧ ∀ (i : Nat) (d : D), sd'[i]? = some (some d) → d.bd n = true ∧ sd[i]? = some (some d)
  | [], [], n, _ => ⟨rfl, fun i d e => by simp at e⟩
  | some d :: r, o :: r', n, h => by
    obtain ⟨h1, h2, h3⟩ := h
    obtain ⟨k1, k2⟩ := sdIn_ok h3
    refine ⟨by simp [k1], fun i e q => ?_⟩
    cases i with
    | zero =>
      simp only [List.getElem?_cons_zero, Option.some.injEq] at q ⊢
      subst q
      exact ⟨h1, h2⟩
    | succ i =>
      simp only [List.getElem?_cons_succ] at q ⊢
      exact k2 i e q
  | none :: r, o :: r', n, h => by
    obtain ⟨k1, k2⟩ := sdIn_ok (sd' := r) (sd := r') h
    refine ⟨by simp [k1], fun i e q => ?_⟩
    cases i with
    | zero =>
      simp only [List.getElem?_cons_zero, Option.some.injEq] at q
      cases q
    | succ i =>
      simp only [List.getElem?_cons_succ] at q ⊢
      exact k2 i e q
  | [], _ :: _, n, h => h.elim
  | some _ :: _, [], n, h => h.elim
  | none :: _, [], n, h => h.elim
theorem Weak.look {sd sd' : SD} {S S' : Sto} (h : sdIn sd' sd S'.n) (hc : ∀ j c, S'.get j = some c → c.bd S'.n = true ∧ S.get j = some c) : Weak sd S sd' S' := .cut (sdIn_ok h).1 (sdIn_ok h).2 hc
theorem Weak.look0 {sd sd' : SD} {S : Sto} (h : sdIn sd' sd 0) : Weak sd S sd' ⟨0, []⟩ := .look h fun j c q => by simp [Sto.get] at q
/-- one cell, the dice, is kept -/
theorem Weak.dice {sd sd' : SD} {S : Sto} (h : sdIn sd' sd 1) (hd : S.get 0 = some .dice) : Weak sd S sd' ⟨1, [.dice]⟩ := .look h fun j c q => by
  have hj := Sto.get_lt q
  have hj : j < 1 := hj
  have e : j = 0 := by omega
  subst e
  have e2 : c = .dice := by simpa [Sto.get] using q.symm
  subst e2
  exact ⟨rfl, hd⟩

/-! ### all ends -/
inductive AllR {α : Type} : Res α → (α → Sto → Prop) → Prop
  | ok {a : α} {S : Sto} {P : α → Sto → Prop} (h : P a S) : AllR (.ok a S) P
  | pick {t : Nat} {f : Nat → Res α} {P : α → Sto → Prop} (h : ∀ k, k < t → AllR (f k) P) : AllR (.pick t f) P
theorem AllR.mono {α : Type} {r : Res α} {P Q : α → Sto → Prop} (h : AllR r P) (f : ∀ a S, P a S → Q a S) : AllR r Q := by
  induction h with
  | ok h => exact .ok (f _ _ h)
  | pick h ih => exact .pick fun k hk => ih k hk f
theorem AllR.bind {α β : Type} {r : Res α} {k : α → Sto → Res β} {P : β → Sto → Prop} (h : AllR r fun a S => AllR (k a S) P) : AllR (r.bind k) P := by
  generalize hq : (fun a S => AllR (k a S) P) = q at h
  induction h with
  | ok h => subst hq; exact h
  | pick h ih => exact .pick fun j hj => ih j hj hq
theorem AllR.aft {G : Glo} {α β : Type} {RL : Rho → Hp → α → β → Prop} {ρ : Rho} {H : Hp} {r : Res α} {Q : β → Hp → Prop} {W : XK} {P : α → Sto → Prop} (h : AllR r P) (f : ∀ a S, P a S → ∀ ρ' H' v, Le G ρ H ρ' H' → Rep G ρ' S H' → RL ρ' H' a v → Q v H') : Aft G RL ρ H r Q W := by
  induction h with
  | ok h => exact f _ _ h
  | pick h ih => exact fun k hk => ih k hk f
/-- by one look at all ends -/
def endsR {α : Type} (p : α → Sto → Bool) : Res α → Bool
  | .ok a S => p a S
  | .pick t f => (List.range t).all fun k => endsR p (f k)
  | _ => false
theorem AllR.look {α : Type} {p : α → Sto → Bool} : ∀ {r : Res α}, endsR p r = true → AllR r fun a S => p a S = true
  | .ok a S, h => .ok h
  | .pick t f, h => .pick fun k hk => AllR.look (List.all_eq_true.mp h k (List.mem_range.mpr hk))
  | .exc _ _, h => by simp only [endsR] at h; cases h
  | .stuck, h => by simp only [endsR] at h; cases h
inductive AllS : SRes → (SD → Sto → Prop) → (D → Sto → Prop) → Prop
  | nx {sd : SD} {S : Sto} {N : SD → Sto → Prop} {T : D → Sto → Prop} (h : N sd S) : AllS (.nx sd S) N T
  | rt {d : D} {S : Sto} {N : SD → Sto → Prop} {T : D → Sto → Prop} (h : T d S) : AllS (.rt d S) N T
  | pick {t : Nat} {f : Nat → SRes} {N : SD → Sto → Prop} {T : D → Sto → Prop} (h : ∀ k, k < t → AllS (f k) N T) : AllS (.pick t f) N T
theorem AllS.aft {G : Glo} {ρ : Rho} {H : Hp} {r : SRes} {E : Ends} {W : WX} {N : SD → Sto → Prop} {T : D → Sto → Prop} (h : AllS r N T) (f : ∀ sd S, N sd S → ∀ ρ' H' σ', Rep G ρ' S H' → RelSt G ρ' H' sd σ' → E.nx σ' H') (g : ∀ d S, T d S → ∀ ρ' H' v, Rep G ρ' S H' → RelD G ρ' H' d v → E.rt v H') : AftS G ρ H r E W := by
  induction h with
  | nx h => exact fun ρ' H' σ' _ a b => f _ _ h ρ' H' σ' a b
  | rt h => exact fun ρ' H' v _ a b => g _ _ h ρ' H' v a b
  | pick h ih => exact fun k hk => ih k hk f g
theorem AllS.mono {r : SRes} {N N' : SD → Sto → Prop} {T T' : D → Sto → Prop} (h : AllS r N T) (f : ∀ sd S, N sd S → N' sd S) (g : ∀ d S, T d S → T' d S) : AllS r N' T' := by
  induction h with
  | nx h => exact .nx (f _ _ h)
  | rt h => exact .rt (g _ _ h)
  | pick h ih => exact .pick fun k hk => ih k hk f g
theorem AllS.bind {α : Type} {r : Res α} {sd : SD} {k : α → Sto → SRes} {N : SD → Sto → Prop} {T : D → Sto → Prop} (h : AllR r fun a S => AllS (k a S) N T) : AllS (bindS r sd k) N T := by
  generalize hq : (fun a S => AllS (k a S) N T) = q at h
  induction h with
  | ok h => subst hq; exact h
  | pick h ih => exact .pick fun j hj => ih j hj hq
theorem AllS.andThen {r : SRes} {f : MS} {N : SD → Sto → Prop} {T : D → Sto → Prop} (h : AllS r (fun sd S => AllS (f sd S) N T) T) : AllS (r.andThen f) N T := by
  generalize hq : (fun sd S => AllS (f sd S) N T) = q at h
  induction h with
  | nx h => subst hq; exact h
  | rt h => exact .rt h
  | pick h ih => exact .pick fun j hj => ih j hj hq
theorem AllS.turn {r : SRes} {f : MS} {N : SD → Sto → Prop} {T : D → Sto → Prop} (h : AllS r (fun sd S => AllS (f sd S) N T) T) : AllS (r.turn f) N T := by
  generalize hq : (fun sd S => AllS (f sd S) N T) = q at h
  induction h with
  | nx h => subst hq; exact h
  | rt h => exact .rt h
  | pick h ih => exact .pick fun j hj => ih j hj hq
theorem AllS.res {r : SRes} {P : D → Sto → Prop} (h : AllS r (fun _ S => P .non S) P) : AllR r.res P := by
  generalize hq : (fun (_ : SD) S => P .non S) = q at h
  induction h with
  | nx h => subst hq; exact .ok h
  | rt h => exact .ok h
  | pick h ih => exact .pick fun j hj => ih j hj hq
theorem AllR.mk {n np : Nat} {b : MS} {ds : List D} {S : Sto} {P : D → Sto → Prop} (hl : ds.length = np) (h : AllS (b (stD n ds) S) (fun _ S => P .non S) P) : AllR (mkF n np b ds S) P := by
  unfold mkF
  rw [if_pos hl]
  exact h.res

/-! ### the top's judgements -/
def tl (G : Glo) (sd : SD) (S : Sto) : L2.St → Hp → Prop := fun σ H => ∃ ρ, RelSt G ρ H sd σ ∧ Rep G ρ S H
theorem tl.weak {G : Glo} {sd sd' : SD} {S S' : Sto} {σ : L2.St} {H : Hp} (h : tl G sd S σ H) (w : Weak sd S sd' S') : tl G sd' S' σ H :=
  let ⟨ρ, a, b⟩ := h
  w G ρ H σ a b
theorem tl.set {G : Glo} {sd : SD} {S : Sto} {σ : L2.St} {H : Hp} {i : Nat} {k : Int} (h : tl G sd S σ H) : tl G (sd.set i (some (.int k))) S (σ.set i (some (.int k))) H :=
  let ⟨ρ, a, b⟩ := h
  ⟨ρ, a.set rel_int i, b⟩
section
variable {G : Glo} {X : Cx}
/-- a plain statement -/
theorem topS {st : Stmt} {m : MS} {W : WX} (h : PSm G X st m) (ok : XOk G X W) {sd sd' : SD} {S S' : Sto} (a : AllS (m sd S) (fun sd1 S1 => Weak sd1 S1 sd' S') fun _ _ => False) : PS X st (fun E σ H => tl G sd S σ H ∧ ∀ σ' H', tl G sd' S' σ' H' → E.nx σ' H') :=
  PS_imp (h W ok) fun E σ H ⟨⟨ρ, hs, hr⟩, k⟩ => ⟨sd, S, ρ, hs, hr, a.aft (fun sd1 S1 w ρ' H' σ' r1 r2 => k σ' H' (tl.weak ⟨ρ', r2, r1⟩ w)) fun d S1 z => z.elim⟩
theorem topSx {st : Stmt} {m : MS} {W : WX} (h : PSm G X st m) (ok : XOk G X W) {sd : Nat → SD} {sd' : SD} {S S' : Sto} {n : Nat} (a : ∀ i, i < n → AllS (m (sd i) S) (fun sd1 S1 => Weak sd1 S1 sd' S') fun _ _ => False) : PS X st (fun E σ H => (∃ i, i < n ∧ tl G (sd i) S σ H) ∧ ∀ σ' H', tl G sd' S' σ' H' → E.nx σ' H') :=
  PS_imp (h W ok) fun E σ H ⟨⟨i, hi, ρ, hs, hr⟩, k⟩ => ⟨sd i, S, ρ, hs, hr, (a i hi).aft (fun sd1 S1 w ρ' H' σ' r1 r2 => k σ' H' (tl.weak ⟨ρ', r2, r1⟩ w)) fun d S1 z => z.elim⟩
/-- the answer -/
theorem topR {e : Expr} {m : ME} {W : WX} {pos : Pos} (h : PEm G X e m) (ok : XOk G X W) {sd : SD} {S : Sto} (a : AllR (m sd S) fun d _ => d = .bl true) : PS X (.Return (some e) pos) (fun E σ H => tl G sd S σ H ∧ ∀ H', E.rt (.bl true) H') :=
  PS_imp (ps_ret (h W ok)) fun E σ H ⟨⟨ρ, hs, hr⟩, k⟩ => ⟨sd, S, ρ, hs, hr, a.aft fun d S1 e ρ' H' v _ _ rd => by
    subst e
    simp only [RelD] at rd
    subst rd
    exact k H'⟩
/-- a test that is never so -/
def Never (G : Glo) (X : Cx) (e : Expr) (sd : SD) (S : Sto) : Prop := ∃ T, PT X e T ∧ ∀ σ H Q, tl G sd S σ H → (∀ H1, tl G sd S σ H1 → Q false H1) → T σ H Q
def NeverW (G : Glo) (X : Cx) (e : Expr) (sd : SD) (S : Sto) : Prop := ∃ T, PW X e T ∧ ∀ σ H Q, tl G sd S σ H → (∀ H1, tl G sd S σ H1 → Q false H1) → T σ H Q
theorem never1 {e : Expr} {m : MT} {W : WX} (h : PTm G X e m) (ok : XOk G X W) {sd : SD} {S : Sto} (a : AllR (m sd S) fun b S1 => b = false ∧ Weak sd S1 sd S) : Never G X e sd S :=
  ⟨_, h W ok, fun σ H Q ⟨ρ, hs, hr⟩ k => ⟨sd, S, ρ, hs, hr, a.aft fun b S1 ⟨e, w⟩ ρ' H' v le r1 rb => by
    have e2 : b = v := rb
    subst e2
    subst e
    exact k H' (tl.weak ⟨ρ', hs.mono le, r1⟩ w)⟩⟩
theorem neverW1 {e : Expr} {pos : Pos} {sd : SD} {S : Sto} (h : Never G X e sd S) : NeverW G X (.BoolOp .Or [e] pos) sd S :=
  let ⟨T, h1, h2⟩ := h
  ⟨T, pw_or1 h1, h2⟩
theorem neverWc {e f : Expr} {es : List Expr} {pos : Pos} {sd : SD} {S : Sto} (h : Never G X e sd S) (h' : NeverW G X (.BoolOp .Or (f :: es) pos) sd S) : NeverW G X (.BoolOp .Or (e :: f :: es) pos) sd S :=
  let ⟨T, h1, h2⟩ := h
  let ⟨T', h3, h4⟩ := h'
  ⟨_, pw_or h1 h3, fun σ H Q ht k => h2 σ H _ ht fun H1 ht1 => h4 σ H1 Q ht1 k⟩
theorem neverW {e : Expr} {sd : SD} {S : Sto} (h : NeverW G X e sd S) : Never G X e sd S :=
  let ⟨T, h1, h2⟩ := h
  ⟨T, h1.pt, h2⟩
/-- if never: .. -/
theorem topI {c : Expr} {a : List Stmt} {pos : Pos} {sd : SD} {S : Sto} (h : Never G X c sd S) : PS X (.If c a [] pos) (fun E σ H => tl G sd S σ H ∧ ∀ σ' H', tl G sd S σ' H' → E.nx σ' H') := by
  obtain ⟨T, h1, h2⟩ := h
  have no : PSs X a (fun _ _ _ => False) := ⟨fun pins s σ H D I h => h.elim⟩
  exact PS_imp (ps_if h1 no pss_nil) fun E σ H ⟨ht, k⟩ => h2 σ H _ ht fun H1 ht1 => k σ H1 ht1
/-- a row of statements, the state between them told -/
theorem topC {st : Stmt} {rest : List Stmt} {sd sd' : SD} {S S' : Sto} {t : TS} (h : PS X st (fun E σ H => tl G sd S σ H ∧ ∀ σ' H', tl G sd' S' σ' H' → E.nx σ' H')) (h' : PSs X rest t) (k : ∀ E σ H, tl G sd' S' σ H → t E σ H → True) :
    PSs X (st :: rest) (fun E σ H => tl G sd S σ H ∧ ∀ σ' H', tl G sd' S' σ' H' → t E σ' H') := PSs_imp (pss_cons h h') fun E σ H ⟨a, b⟩ => ⟨a, b⟩
/-- for x in range(a): body -/
theorem topF {x : Str} {i : Nat} {a : Expr} {body : List Stmt} {ma : MA} {W : WX} {p p1 p2 pos : Pos} {tb : TS} {sd sd' : SD} {S S' : Sto} {j : Int} (ok : XOk G X W) (hc : X.calm = true) (hg : Gl X "range") (hm : X.mg "range" = none) (ha : PAm G X [a] ma) (hgt : PG X (.Name x p1) (gOf X.K (.nm i))) (hb : PSs X body tb)
    (e : ma sd S = .ok [.int j] S) (hj : -4611686018427387904 ≤ j ∧ j < 4611686018427387904) (w : Weak sd S sd' S') (hs : starEach [a] X.env = [(false, eval a X.env)] := by rfl) (hf : ∀ x, foldedSetIterable (.Call (.Name "range" p) [a] [] p2) X.env x = pure x := by intro _; rfl) :
    PS X (.For (.Name x p1) (.Call (.Name "range" p) [a] [] p2) body [] pos) (fun E σ H => tl G sd S σ H ∧ (∀ k : Nat, k < j.toNat → ∀ σ' H', tl G (sd'.set i (some (.int k))) S' σ' H' → tb { E with nx := tl G sd' S', ct := tl G sd' S', bk := E.nx } σ' H') ∧ ∀ σ' H', tl G sd' S' σ' H' → E.nx σ' H') := by
  refine PS_imp (ps_for ok.own hc (pi_range1 hg hm (ha W ok) hs) hgt hb hf) fun E σ H ⟨⟨ρ, hs, hr⟩, hbody, hend⟩ => ?_
  refine ⟨sd, S, ρ, hs, hr, ?_⟩
  rw [e]
  intro ρ1 H1 xs le r1 rd
  simp only [RelDs, RelD] at rd
  obtain ⟨_, _, rfl, rfl, rfl⟩ := rd
  refine ⟨j, rfl, hj.1, hj.2, ?_⟩
  have t1 : tl G sd' S' σ H1 := tl.weak ⟨ρ1, hs.mono le, r1⟩ w
  refine ⟨fun k m σ H => k + m = j.toNat ∧ tl G sd' S' σ H, ⟨j.toNat, by omega, t1⟩, fun k m σ H ⟨hk, ht⟩ => ?_⟩
  obtain ⟨ρ2, hs2, hr2⟩ := id ht
  have it := it_rng (G := G) (ρ := ρ2) (H := H) (lo := 0) (n := j.toNat) k ρ2 H S' Le.refl hr2
  simp only [itNext] at it
  by_cases hlt : k < j.toNat
  · rw [if_pos hlt] at it
    obtain ⟨go, yl⟩ := it
    refine .inr ⟨go, tl G sd' S', fun σ' H' q => ⟨m - 1, by omega, by omega, q⟩, fun v H2 hy => ?_⟩
    obtain ⟨l2, r2, rd⟩ := yl v H2 hy
    refine gOf_ok (ρ := ρ2) (sd := sd') (sd' := sd'.set i (some (.int (0 + k * 1)))) ok.kk rd (hs2.mono l2) rfl fun σ' s' _ => ?_
    refine hbody k hlt σ' H2 ⟨ρ2, ?_, r2⟩
    have e2 : (0 + (k : Int) * 1) = k := by omega
    rw [e2] at s'
    exact s'
  · rw [if_neg hlt] at it
    exact .inl ⟨it, hend σ H ht⟩
end
theorem fn_top {G : Glo} {P : Program} {w : World} {mg : Str → Option Value} {base : Heap} {x qual : Str} {st : Stmt} {f : Addr} {fd : FuncData} {N ps : List Str} {k nn : Nat} (F : Fun G.K x qual st f fd) (Sc : FnScope N ps (defScope st)) (hp : ps.length = 1) (hb : Binds G.K fd ps [])
    (body : ∀ (cdv : Value) (A : Around) (outer : List Env) (s : Shared) (H : Hp) (W : WX) (ns : List Int), ns.length ≤ nn → Room k (A.deeper (envOfC qual (defScope st) s.heap.objs.size f cdv)) → (A.deeper (envOfC qual (defScope st) s.heap.objs.size f cdv)).guards = some [] →
      XOk G (cxOf (L2.CX P w) P w G.K mg base N qual (defScope st) f cdv A outer s H (fun _ _ _ => False)) W →
      ∃ t : TS, PSs (cxOf (L2.CX P w) P w G.K mg base N qual (defScope st) f cdv A outer s H (fun _ _ _ => False)) (defBody st) t ∧ ∀ (E : Ends) σ H, tl G (some (.scr ns) :: List.replicate (N.length - 1) none) ⟨0, []⟩ σ H → (∀ H', E.rt (.bl true) H') → t E σ H) : FnT G P w mg base (k + 1) nn f := by
  intro A outer s H us vs ns ρ hr hg e0 r hn rd rp
  obtain ⟨oc, od, kV, doc, pm, an, cdv, ct, osl, rfl, lk, hcd⟩ := F.ex
  have hlen : vs.length = ps.length := by rw [← rd.length, hp]; rfl
  have hus : (us ++ []).length = ps.length := by rw [List.append_nil, ← r.length, hlen]
  have hbb := hb s us (e0.mod.kin.keeps fun b o e => (e0.bs b o e).1) hus
  rw [List.append_nil] at hbb
  refine LamX.run_ofS (N := N) lk hcd Sc hr e0 hbb r hlen fun hr2 => ?_
  obtain ⟨t, h1, h2⟩ := body cdv A outer s H (fun cls d _ H => False) ns hn hr2 hg ⟨takes_of rfl rfl rfl rfl, passes_of rfl, rfl⟩
  exact ⟨t, h1, h2 _ _ _ ⟨ρ, stD_rel (N := N) rd, rp⟩ fun _ => rfl⟩
end Y

/-! Yh: stores that grow, comprehensions whose parts change nothing. -/
namespace Y
open PySem PySem.Spec PyProof.Rows L2
def Ext (S S' : Sto) : Prop := ∀ j c, S.get j = some c → S'.get j = some c
theorem Ext.refl {S : Sto} : Ext S S := fun _ _ h => h
theorem Ext.trans {S S1 S2 : Sto} (a : Ext S S1) (b : Ext S1 S2) : Ext S S2 := fun j c h => b j c (a j c h)
theorem Ext.new {S : Sto} {c : Cell} : Ext S (S.new c) := fun j c' h => by
  rw [Sto.get_new]
  have := Sto.get_lt h
  rw [if_neg (by omega)]
  exact h
theorem Sto.get_new_self {S : Sto} {c : Cell} : (S.new c).get S.n = some c := by
  rw [Sto.get_new, if_pos rfl]
theorem Ext.newset {S : Sto} {c c' : Cell} : Ext S ((S.new c).set S.n c') := fun j x h => by
  have := Sto.get_lt h
  rw [Sto.get_set_ne (by omega)]
  exact Ext.new j x h
theorem lc_gen {l : List D} {q : MT} {e : ME} {sd : SD} {dl : Nat} {p : D → Bool} {f : D → D} (hq : ∀ d ∈ l, ∀ S, q (sd.set 1 (some d)) S = .ok (p d) S) (he : ∀ d ∈ l, ∀ S, e (sd.set 1 (some d)) S = .ok (f d) S) : ∀ (n i : Nat) (acc : List D) (S : Sto), S.get dl = some (.lst acc) → acc.length + l.length ≤ 16777216 + i → i ≤ l.length → l.length < n + i →
    lcLoop (.tup l) (.nm 1) q e sd dl n i S = .ok (.loc dl) (S.set dl (.lst (acc ++ ((l.drop i).filter p).map f)))
  | 0, i, acc, S, hd, hl, hi, hn => by omega
  | n + 1, i, acc, S, hd, hl, hi, hn => by
    unfold lcLoop
    by_cases h : i < l.length
    · have e1 : l[i]? = some l[i] := List.getElem?_eq_getElem h
      have hm : l[i] ∈ l := List.getElem_mem h
      have dr : l.drop i = l[i] :: l.drop (i + 1) := List.drop_eq_getElem_cons h
      simp only [itNext, e1, asg, hq _ hm S, Res.bindX]
      cases hp : p l[i] with
      | true =>
        have e2 := he _ hm S
        have g2 : (S.set dl (.lst (acc ++ [f l[i]]))).get dl = some (.lst (acc ++ [f l[i]])) := Sto.get_set_self hd
        have ih := lc_gen hq he n (i + 1) (acc ++ [f l[i]]) (S.set dl (.lst (acc ++ [f l[i]]))) g2 (by simp; omega) h (by omega)
        simp only [e2, Res.bindX, hd, if_true]
        rw [if_pos (by omega), ih, Sto.set_set, dr, List.filter_cons, hp]
        simp
      | false =>
        have ih := lc_gen hq he n (i + 1) acc S hd (by omega) h (by omega)
        simp only [Bool.false_eq_true, if_false]
        rw [ih, dr, List.filter_cons, hp]
        simp
    · have e1 : l[i]? = none := List.getElem?_eq_none (by omega)
      have dr : l.drop i = [] := List.drop_eq_nil_of_le (by omega)
      simp only [itNext, e1]
      rw [dr]
      simp only [List.filter_nil, List.map_nil, List.append_nil]
      rw [Sto.set_get hd]
theorem fRepr_ok {S : Sto} {d : D} {p : PyData} (h1 : isDs0 d S = none) (h2 : isDct0 d S = false) (h3 : toPy S 12 d = some p) (h4 : p.showable = true) (h5 : p.shown.length ≤ 16777216) (h6 : p.depth ≤ 60) (h7 : p.hasDict = false) : fReprD [d] S = .ok (.str p.shown.cps.toList) S := by
  simp only [fReprD, h1, fRepr, h2, h3, h4, h6, h7, Bool.true_and, Bool.false_eq_true, if_false, decide_true, Bool.and_true, Bool.not_false, decide_eq_true_eq, if_pos h5]
theorem eq_str {S : Sto} {x : List Nat} (h : PyData.strOk ⟨x.toArray⟩ = true) : eqDat S (.str x) (.str x) = some true := by
  have e : toPy S 12 (.str x) = some (.str ⟨x.toArray⟩) := rfl
  have sh : SeqAt.shaped (.str ⟨x.toArray⟩) = true := by
    unfold SeqAt.shaped
    rw [Bool.and_eq_true]
    exact ⟨h, by rw [decide_eq_true_eq]; simp [PyData.depth]⟩
  have ev : PyData.eqv (.str ⟨x.toArray⟩) (.str ⟨x.toArray⟩) = true := by
    show ((⟨x.toArray⟩ : Str) == ⟨x.toArray⟩) = true
    exact beq_self_eq_true _
  unfold eqDat
  rw [e]
  simp only [sh, ev, Bool.and_self, if_true]
theorem cNe_str {S : Sto} {x : List Nat} (h : PyData.strOk ⟨x.toArray⟩ = true) : cNe (.str x) (.str x) S = .ok (.bl false) S := by
  unfold cNe
  rw [eq_str h]
  rfl
theorem cEq_str {S : Sto} {x : List Nat} (h : PyData.strOk ⟨x.toArray⟩ = true) : cEq (.str x) (.str x) S = .ok (.bl true) S := by
  unfold cEq
  rw [eq_str h]
section
variable {f : MF} {g : D → D → Sto → Res D} {h : D → Sto → Res D} {m a b : ME} {r : MA} {t : MT} {s s' : MS} {sd sd1 : SD} {S S1 S2 : Sto} {x y : D} {xs : List D} {i : Nat}
theorem mCall_ok (e : r sd S = .ok xs S1) : mCall f r sd S = f xs S1 := by unfold mCall; rw [e]; rfl
theorem mCons_ok (e : m sd S = .ok x S1) (e2 : r sd S1 = .ok xs S2) : mCons m r sd S = .ok (x :: xs) S2 := by unfold mCons; rw [e]; show (r sd S1).bind _ = _; rw [e2]; rfl
theorem mNil_ok : mNil sd S = .ok [] S := rfl
theorem mCall1 (e : m sd S = .ok x S1) : mCall f (mCons m mNil) sd S = f [x] S1 := mCall_ok (mCons_ok e mNil_ok)
theorem mLst_ok (e : r sd S = .ok xs S1) (hl : xs.length ≤ 16777216) : mLst r sd S = .ok (.loc S1.n) (S1.new (.lst xs)) := by unfold mLst; rw [e]; show (if _ then _ else _) = _; rw [if_pos hl]
theorem mTup_ok (e : r sd S = .ok xs S1) (hl : xs.length ≤ 16777216) : mTup r sd S = .ok (.tup xs) S1 := by unfold mTup; rw [e]; show (if _ then _ else _) = _; rw [if_pos hl]
theorem mAndV_t (e : a sd S = .ok (.bl true) S1) : mAndV a b sd S = b sd S1 := by unfold mAndV; rw [e]; rfl
theorem mAndV_f (e : a sd S = .ok (.bl false) S1) : mAndV a b sd S = .ok (.bl false) S1 := by unfold mAndV; rw [e]; rfl
theorem mBin_ok (e : a sd S = .ok x S1) (e2 : b sd S1 = .ok y S2) : mBin g a b sd S = g x y S2 := by unfold mBin; rw [e]; show (b sd S1).bind _ = _; rw [e2]; rfl
theorem mUn_ok (e : m sd S = .ok x S1) : mUn h m sd S = h x S1 := by unfold mUn; rw [e]; rfl
theorem mTst_ok {k : Bool} (e : mBin g a b sd S = .ok (.bl k) S1) : mTst g a b sd S = .ok k S1 := by unfold mTst; rw [e]; rfl
theorem sRet_ok (e : m sd S = .ok x S1) : sRet m sd S = .rt x S1 := by unfold sRet; rw [e]; rfl
theorem sSet_ok (e : m sd S = .ok x S1) : sSet i m sd S = .nx (sd.set i (some x)) S1 := by unfold sSet; rw [e]; rfl
theorem sIf_t (e : t sd S = .ok true S1) : sIf t s s' sd S = s sd S1 := by unfold sIf; rw [e]; rfl
theorem sIf_f (e : t sd S = .ok false S1) : sIf t s s' sd S = s' sd S1 := by unfold sIf; rw [e]; rfl
theorem sSeq_nx (e : s sd S = .nx sd1 S1) : sSeq s s' sd S = s' sd1 S1 := by unfold sSeq; rw [e]; rfl
theorem sSeq_rt (e : s sd S = .rt x S1) : sSeq s s' sd S = .rt x S1 := by unfold sSeq; rw [e]; rfl
end
end Y

/-! Yi: texts: how long they are, that their signs are such. -/
namespace Y
open PySem PySem.Spec PyProof.Rows L2
structure Txt (t : Str) (n : Nat) : Prop where
  len : t.length ≤ n
  ok : PyData.strOk t = true
theorem strOk_app (a b : Str) : PyData.strOk (a ++ b) = (PyData.strOk a && PyData.strOk b) := by
  show (a.cps ++ b.cps).all (· < 0x110000) = _
  rw [Array.all_append]
  rfl
theorem strOk_of (s : String) : PyData.strOk (Str.ofString s) = true := by
  rw [Str.ofString_eq_toList]
  unfold PyData.strOk
  rw [← Array.all_toList, List.all_eq_true]
  intro c hc
  simp only [List.mem_map] at hc
  obtain ⟨ch, _, rfl⟩ := hc
  have h := ch.valid
  rw [decide_eq_true_eq]
  have h2 : ch.toNat = ch.val.toNat := rfl
  rw [h2]
  rcases h with h | h
  · have : ch.val.toNat < 0xd800 := h
    omega
  · have : ch.val.toNat < 0x110000 := h.2
    omega
theorem Txt.app {a b : Str} {n m : Nat} (h : Txt a n) (h2 : Txt b m) : Txt (a ++ b) (n + m) := ⟨by rw [strLen_append]; exact Nat.add_le_add h.len h2.len, by rw [strOk_app, h.ok, h2.ok]; rfl⟩
theorem Txt.mono {a : Str} {n m : Nat} (h : Txt a n) (l : n ≤ m) : Txt a m := ⟨Nat.le_trans h.len l, h.ok⟩
theorem Txt.lit (s : String) {n : Nat} (h : (Str.ofString s).length ≤ n) : Txt (Str.ofString s) n := ⟨h, strOk_of s⟩
theorem Txt.sep (k : Nat) : Txt ((if k > 0 then ", " else "" : String) : Str) 2 := by
  split
  · exact .lit _ (by decide +kernel)
  · exact .lit _ (by decide +kernel)
theorem Txt.from_ {m : Nat} : ∀ {ts : List Str} {k n : Nat} {acc : Str}, Txt acc n → (∀ t ∈ ts, Txt t m) → Txt (textFrom k acc ts) (n + ts.length * (m + 2))
  | [], k, n, acc, h, _ => by simpa [textFrom] using h
  | t :: ts, k, n, acc, h, h2 => by
    have ih := Txt.from_ (ts := ts) (k := k + 1) ((h.app (.sep k)).app (h2 t (List.mem_cons_self ..))) fun x hx => h2 x (List.mem_cons_of_mem _ hx)
    refine ih.mono ?_
    rw [List.length_cons, Nat.succ_mul]
    omega
theorem Txt.list {m : Nat} {ts : List Str} (h : ∀ t ∈ ts, Txt t m) : Txt (listText ts) (2 + ts.length * (m + 2)) :=
  ((Txt.from_ (k := 0) (Txt.lit "[" (n := 1) (by decide +kernel)) h).app (Txt.lit "]" (n := 1) (by decide +kernel))).mono (by omega)
theorem Txt.join {m : Nat} : ∀ {ts : List Str}, (∀ t ∈ ts, Txt t m) → Txt (Str.join ", " ts) (ts.length * (m + 2))
  | [], _ => ⟨Nat.zero_le _, by decide +kernel⟩
  | [x], h => (h x (List.mem_cons_self ..)).mono (by simp)
  | x :: y :: r, h => by
    have ih := Txt.join (ts := y :: r) fun t ht => h t (List.mem_cons_of_mem _ ht)
    have e := ((h x (List.mem_cons_self ..)).app (Txt.lit ", " (n := 2) (by decide +kernel))).app ih
    refine (show Txt (Str.join ", " (x :: y :: r)) _ from e).mono ?_
    have q : (x :: y :: r).length * (m + 2) = (y :: r).length * (m + 2) + (m + 2) := by rw [List.length_cons, Nat.succ_mul]
    omega
theorem Txt.tuple {m : Nat} {ts : List Str} (h : ∀ t ∈ ts, Txt t m) : Txt (tupleText ts) (3 + ts.length * (m + 2)) := by
  have e : Txt ((if ts.length == 1 then ",)" else ")" : String) : Str) 2 := by
    split
    · exact .lit _ (by decide +kernel)
    · exact .lit _ (by decide +kernel)
  exact (((Txt.lit "(" (n := 1) (by decide +kernel)).app (Txt.join h)).app e).mono (by omega)
theorem Txt.int {i : Int} (h : i.natAbs.log2 < 1920) : Txt (Str.ofString (toString i)) 1921 := .lit _ (PyProof.Rows.int_text_len_1921 h)
/-- data whose text is told without more ado -/
structure Tells (p : PyData) (n k : Nat) : Prop where
  sh : p.showable = true
  nd : p.hasDict = false
  dp : p.depth ≤ k
  tx : Txt p.shown n
structure TellsA (ps : List PyData) (n k : Nat) : Prop where
  sh : PyData.showableAll ps = true
  nd : PyData.hasDictAll ps = false
  dp : PyData.depthAll ps ≤ k
  tx : ∀ t ∈ PyData.shownAll ps, Txt t n
theorem TellsA.nil {n k : Nat} : TellsA [] n k := ⟨rfl, rfl, by simp [PyData.depthAll], fun t ht => by cases ht⟩
theorem TellsA.cons {p : PyData} {ps : List PyData} {n k : Nat} (h : Tells p n k) (h2 : TellsA ps n k) : TellsA (p :: ps) n k :=
  ⟨by simp [PyData.showableAll, h.sh, h2.sh], by simp [PyData.hasDictAll, h.nd, h2.nd], by
    have a := h.dp
    have b := h2.dp
    simp only [PyData.depthAll]
    omega, fun t ht => by
    rcases List.mem_cons.mp (show t ∈ p.shown :: PyData.shownAll ps from ht) with rfl | ht
    · exact h.tx
    · exact h2.tx t ht⟩
theorem shownAll_len : ∀ ps : List PyData, (PyData.shownAll ps).length = ps.length
  | [] => rfl
  | p :: ps => by simp [PyData.shownAll, shownAll_len ps]
theorem TellsA.list {ps : List PyData} {n k : Nat} (h : TellsA ps n k) : Tells (.list ps) (2 + ps.length * (n + 2)) (k + 1) :=
  ⟨h.sh, h.nd, by have := h.dp; simp only [PyData.depth]; omega, by
    have e := Txt.list h.tx
    rw [shownAll_len] at e
    exact e⟩
theorem TellsA.tuple {ps : List PyData} {n k : Nat} (h : TellsA ps n k) : Tells (.tuple ps) (3 + ps.length * (n + 2)) (k + 1) :=
  ⟨h.sh, h.nd, by have := h.dp; simp only [PyData.depth]; omega, by
    have e := Txt.tuple h.tx
    rw [shownAll_len] at e
    exact e⟩
theorem Tells.int {i : Int} (h : i.natAbs.log2 < 1920) : Tells (.int i) 1921 1 := ⟨by simp only [PyData.showable, decide_eq_true_eq]; exact h, rfl, by simp [PyData.depth], Txt.int h⟩
theorem Tells.mono {p : PyData} {n k m l : Nat} (h : Tells p n k) (hn : n ≤ m) (hk : k ≤ l) : Tells p m l := ⟨h.sh, h.nd, Nat.le_trans h.dp hk, h.tx.mono hn⟩
theorem repr_tells {S : Sto} {d : D} {p : PyData} {n : Nat} (h1 : isDs0 d S = none) (h2 : isDct0 d S = false) (h3 : toPy S 12 d = some p) (h : Tells p n 60) (hn : n ≤ 16777216) : fReprD [d] S = .ok (.str p.shown.cps.toList) S := fRepr_ok h1 h2 h3 h.sh (Nat.le_trans h.tx.len hn) h.dp h.nd
theorem strOk_shown {p : PyData} {n k : Nat} (h : Tells p n k) : PyData.strOk ⟨p.shown.cps.toList.toArray⟩ = true := by rw [str_eta]; exact h.tx.ok
end Y

/-! Z1: defs by any binding; keywords; instances made. -/
namespace Y
open PySem PySem.Spec PyProof.Rows L2
/-- a def, by any call that binds its parameters -/
def FnB (G : Glo) (P : Program) (w : World) (mg : Str → Option Value) (base : Heap) (k : Nat) (f : Addr) (fd : FuncData) (ps : List Str) (m : MF) : Prop :=
  ∀ (A : Around) (outer : List Env) (s : Shared) (H : Hp) (args : Args) (us : List Value) (vs : List V) (Q : VK) (E : XK), Room k A → A.guards = some [] → Env0 P w G.K mg base A outer s H → BindsTo s fd args (ps.zip us) → Vals vs us → spM G m vs H Q E →
    codeAny (model P w) A (.call (.ref f) args) (CR (L2.CX P w) outer P w H s Q E) s
/-- what a call with n values and the keywords ks binds -/
def BnD (G : Glo) (fd : FuncData) (ps : List Str) (n : Nat) (ks : List Str) (gd : List D → List D → List D) : Prop :=
  ∀ (s : Shared) (us ws : List Value) (vs zs : List V), G.K.In s.heap → vs.length = n → zs.length = ks.length → Vals vs us → Vals zs ws →
    ∃ bs ys, BindsTo s fd ⟨us, ks.zip ws⟩ (ps.zip bs) ∧ Vals ys bs ∧ ∀ ρ H ds es, RelDs G ρ H ds vs → RelDs G ρ H es zs → RelDs G ρ H (gd ds es) ys
abbrev MK := List D → List D → Sto → Res D
def mkK (n m : Nat) (gd : List D → List D → List D) (f : MF) : MK := fun ds es S => if ds.length = n ∧ es.length = m then f (gd ds es) S else .stuck
section
variable {G : Glo} {X : Cx} {P : Program} {w : World} {mg : Str → Option Value} {base : Heap}
theorem fn_okB {x qual : Str} {st : Stmt} {dvs : List V} {kws : List (Str × V)} {f : Addr} {fd : FuncData} {N ps : List Str} {k n np : Nat} {b : MS} (F : FunD G.K x qual (defArgs st) (defBody st) (defScope st) dvs kws f fd) (Sc : FnScope N ps (defScope st)) (hn : N.length = n) (hp : ps.length = np)
    (body : ∀ (cdv : Value) (A : Around) (outer : List Env) (s : Shared) (H : Hp) (E : XK), Room k (A.deeper (envOfC qual (defScope st) s.heap.objs.size f cdv)) → (A.deeper (envOfC qual (defScope st) s.heap.objs.size f cdv)).guards = some [] →
      PSsm G (cxOf (L2.CX P w) P w G.K mg base N qual (defScope st) f cdv A outer s H E) (defBody st) b) :
    FnB G P w mg base (k + 1) f fd ps (mkF n np b) := by
  intro A outer s H args us vs Q E hr hg e0 hb r h
  obtain ⟨oc, od, dV, kV, doc, pm, an, cdv, ct, osl, rfl, lk, hcd, _, _⟩ := F.ex
  obtain ⟨ds, S, ρ, rd, rp, q⟩ := h
  unfold mkF at q
  split at q
  · rename_i hl
    have hlen : vs.length = ps.length := by rw [← rd.length, hl, hp]
    refine LamX.run_ofS (N := N) lk hcd Sc hr e0 hb r hlen fun hr2 => ?_
    refine ⟨_, body cdv A outer s H E hr2 hg (fun cls d _ H => E cls d H) ⟨takes_of rfl rfl rfl rfl, passes_of rfl, rfl⟩, stD n ds, S, ρ, by rw [← hn]; exact stD_rel rd, rp, ?_⟩
    generalize b (stD n ds) S = r at q
    induction r with
    | rt d S1 => exact q
    | nx sd1 S1 => exact fun ρ' H' σ' le r1 _ => q ρ' H' .non le r1 rel_non
    | ex x sd1 S1 => exact fun ρ' H' σ' c d le r1 _ rx => q ρ' H' c d le r1 rx
    | bk sd1 S1 => exact q.elim
    | ct sd1 S1 => exact q.elim
    | stuck => exact q.elim
    | pick t f ih => exact fun r hr => ih r (q r hr)
  · exact q.elim
theorem FnB.g {k : Nat} {f : Addr} {fd : FuncData} {ps : List Str} {m : MF} (F : FnB G P w mg base k f fd ps m) (hb : Binds G.K fd ps []) (hl : ∀ ds S, m ds S ≠ .stuck → ds.length = ps.length) : FnG G P w mg base k f m := fun A outer s H us vs Q E hr hg e0 r h => by
  obtain ⟨ds, S, ρ, rd, rp, q⟩ := h
  have ne : m ds S ≠ .stuck := fun z => by rw [z] at q; exact q.elim
  have hus : (us ++ []).length = ps.length := by rw [List.append_nil, ← r.length, ← rd.length]; exact hl ds S ne
  have hbb := hb s us (e0.mod.kin.keeps fun b o e => (e0.bs b o e).1) hus
  rw [List.append_nil] at hbb
  exact F A outer s H ⟨us, []⟩ us vs Q E hr hg e0 hbb r ⟨ds, S, ρ, rd, rp, q⟩
theorem mkF_len {n np : Nat} {b : MS} (ds : List D) (S : Sto) (h : mkF n np b ds S ≠ .stuck) : ds.length = np := by
  unfold mkF at h
  split at h
  · assumption
  · exact absurd rfl h
theorem FnB.imp {k : Nat} {f : Addr} {fd : FuncData} {ps : List Str} {m m' : MF} (F : FnB G P w mg base k f fd ps m) (h : ∀ vs H Q E, spM G m' vs H Q E → spM G m vs H Q E) : FnB G P w mg base k f fd ps m' := fun A outer s H args us vs Q E hr hg e0 hb r hs => F A outer s H args us vs Q E hr hg e0 hb r (h _ _ _ _ hs)
/-! ### calls with keywords -/
def CallMK (G : Glo) (X : Cx) (F : Value) (ks : List Str) (f : MK) : Prop := ∀ W, XOk G X W →
  ∀ (pins : List (Addr × Obj)) (s : Shared) (σ : L2.St) (H : Hp) (ρ : Rho) (S : Sto) (xs zs : List V) (us ws : List Value) (ds es : List D) (Q : VK), Inv X pins σ H s → Vals xs us → Vals zs ws → Rep G ρ S H → RelDs G ρ H ds xs → RelDs G ρ H es zs →
    Aft G (RelD G) ρ H (f ds es S) Q (fun c a H' => W c a σ H') → wpAny (model X.prog X.w) X.A (call F us (ks.zip ws)) (EP X pins σ Q) X.xe s
theorem CallMK.pos {F : Value} {f : MK} (h : CallMK G X F [] f) : CallM G X F (fun ds S => f ds [] S) := fun W ok pins s σ H ρ S xs us ds Q I r rp rd q => h W ok pins s σ H ρ S xs [] us [] ds [] Q I r .nil rp rd .nil q
theorem cm_fnK {g : Addr} {fd : FuncData} {ps : List Str} {m : MF} {k n : Nat} {ks : List Str} {gd : List D → List D → List D} (F : FnB G X.prog X.w X.mg X.base k g fd ps m) (B : BnD G fd ps n ks gd) (hr : Room k X.A) (hg : X.A.guards = some []) : CallMK G X (.ref g) ks (mkK n ks.length gd m) := fun W ok pins s σ H ρ S xs zs us ws ds es Q I r rz rp rd re q => by
  unfold mkK at q
  split at q
  · rename_i hl
    have e0 : Env0 X.prog X.w G.K X.mg X.base X.A X.stack s H := by rw [ok.kk]; exact I.env0
    obtain ⟨bs, ys, hb, ry, rel⟩ := B s us ws xs zs (by rw [ok.kk]; exact I.kIn) (by rw [← rd.length]; exact hl.1) (by rw [← re.length]; exact hl.2) r rz
    refine wpAny_call (codeAny_mono (F X.A X.stack s H _ bs ys Q (fun c a H' => W c a σ H') hr hg e0 hb ry ⟨gd ds es, S, ρ, rel ρ H ds es rd re, rp, q⟩) fun r s' hq => ?_)
    cases r with
    | error e => exact ok.tk e s' (XE.of_call I (fun cls d H' h => h) hq)
    | ok fl =>
      cases fl with
      | ret u => exact I.after hq
      | next => exact False.elim hq
      | brk => exact False.elim hq
      | cont => exact False.elim hq
  · exact q.elim
/-! ### instances made -/
def mkObj (c : Nat) (f : MK) : MK := fun ds es S => (f (.loc S.n :: ds) es (S.new (.ins c []))).bind fun d S1 => match d with
  | .non => .ok (.loc S.n) S1
  | _ => .stuck
theorem cm_make {c : Nat} {C g : Addr} {fd : FuncData} {ps : List Str} {m : MF} {k n : Nat} {ks : List Str} {gd : List D → List D → List D} (hC : G.ca c = .ref C) (M : Mk X.K C g) (F : FnB G X.prog X.w X.mg X.base k g fd ps m) (B : BnD G fd ps n ks gd) (hr : Room (k + 1) X.A) (hg : X.A.guards = some []) :
    CallMK G X (.ref C) ks (mkObj c (mkK n ks.length gd m)) := fun W ok pins s σ H ρ S xs zs us ws ds es Q I r rz rp rd re q => by
  have n1 : H s.heap.objs.size = none := I.hok.fresh (Nat.le_refl _)
  have n2 : H (s.heap.objs.size + 1) = none := I.hok.fresh (Nat.le_succ _)
  have ne : s.heap.objs.size ≠ s.heap.objs.size + 1 := Nat.ne_of_lt (Nat.lt_succ_self _)
  have I2 := Inv.made (C := C) I
  generalize hH2 : L2.upd (L2.upd H s.heap.objs.size (.own (s.heap.objs.size + 1))) (s.heap.objs.size + 1) (.ins C s.heap.objs.size []) = H2 at I2
  have n3 : L2.upd H s.heap.objs.size (.own (s.heap.objs.size + 1)) (s.heap.objs.size + 1) = none := by rw [upd_ne (Ne.symm ne)]; exact n2
  have le1 : Le G ρ H ρ (L2.upd H s.heap.objs.size (.own (s.heap.objs.size + 1))) := Le.same (same_new n1)
  have rp1 := rp.free (o := .own (s.heap.objs.size + 1)) n1
  have le2 : Le G ρ H (ext ρ S.n (s.heap.objs.size + 1)) H2 := by
    rw [← hH2]
    exact le1.trans ((Le.ext (rp.top _ (Nat.le_refl _))).trans (Le.same (same_new n3)))
  have rp2 : Rep G (ext ρ S.n (s.heap.objs.size + 1)) (S.new (.ins c [])) H2 := by
    rw [← hH2]
    exact rp1.new n3 ⟨C, s.heap.objs.size, [], hC, .inl ⟨upd_same, rfl⟩, fun i d e => by simp at e⟩
  have rs : RelD G (ext ρ S.n (s.heap.objs.size + 1)) H2 (.loc S.n) (.ref (s.heap.objs.size + 1)) := RelD.loc' ext_same
  unfold mkObj at q
  have q2 : Aft G (RelD G) (ext ρ S.n (s.heap.objs.size + 1)) H2 (mkK n ks.length gd m (.loc S.n :: ds) es (S.new (.ins c []))) (fun v H3 => v = .non ∧ Q (.ref (s.heap.objs.size + 1)) H3) (fun c a H' => W c a σ H') := Aft.bind (Aft.le q le2) fun ρ1 H1 v d S1 le3 r1 rv h1 => by
    cases d with
    | non =>
      simp only [RelD] at rv
      exact ⟨rv, h1.ok r1 (rs.mono le3)⟩
    | _ => exact h1.elim
  unfold mkK at q2
  split at q2
  · rename_i hl
    have r1 : Vals (V.ref (s.heap.objs.size + 1) :: xs) (Value.ref (s.heap.objs.size + 1) :: us) := .cons rfl r
    obtain ⟨bs, ys, hb, ry, rel⟩ := B _ (Value.ref (s.heap.objs.size + 1) :: us) ws (V.ref (s.heap.objs.size + 1) :: xs) zs (by rw [ok.kk]; exact I2.kIn) (by rw [List.length_cons, ← rd.length]; exact hl.1) (by rw [← re.length]; exact hl.2) r1 rz
    have e0 := I2.env0.make C us (ks.zip ws)
    rw [← ok.kk] at e0
    refine wpAny_call (make_map (f := g) I.kIn M.makes M.init (beq_iff_eq.mp M.fn) (codeAny_mono (F _ X.stack _ H2 ⟨Value.ref (s.heap.objs.size + 1) :: us, ks.zip ws⟩ bs ys _ (fun c a H' => W c a σ H') (hr.make C us (ks.zip ws)) hg e0 hb ry
      ⟨gd (.loc S.n :: ds) es, S.new (.ins c []), ext ρ S.n (s.heap.objs.size + 1), rel _ _ _ _ (.cons rs (rd.mono le2)) (re.mono le2), rp2, q2⟩) fun r s' hq' => ?_))
    cases r with
    | error e => exact ok.tk e s' (XE.of_call I2 (fun cls d H' h => h) hq')
    | ok fl =>
      cases fl with
      | ret u =>
        obtain ⟨v, H', I3, rv, ev, q3⟩ := I2.after hq'
        subst ev
        exact ⟨rv, ⟨V.ref (s.heap.objs.size + 1), H', I3, rfl, q3⟩⟩
      | next => exact False.elim hq'
      | brk => exact False.elim hq'
      | cont => exact False.elim hq'
  · exact q2.elim
/-! ### the expressions -/
def PKm (G : Glo) (X : Cx) (kws : List Keyword) (m : MA) : Prop := ∀ W, XOk G X W → PK X kws (ta G m W)
theorem PK_imp {kws : List Keyword} {t t' : TA} (h : PK X kws t) (f : ∀ σ H Q, t' σ H Q → t σ H Q) : PK X kws t' := ⟨fun pos pins s σ H Q I q => h.run pos pins s σ H Q I (f σ H Q q)⟩
theorem pk_nilm : PKm G X [] mNil := fun W ok => PK_imp pk_nil fun σ H Q ⟨sd, S, ρ, hs, hr, h⟩ => h.ok hr RelDs.nil
theorem pk_consm {e : Expr} {nm : Option Str} {kpos : Pos} {kws : List Keyword} {m : ME} {r : MA} (ha : PEm G X e m) (hr : PKm G X kws r) : PKm G X (⟨nm, e, kpos⟩ :: kws) (mCons m r) := fun W ok =>
  PK_imp (pk_cons (ha W ok) (hr W ok)) fun σ H Q ⟨sd, S, ρ, hs, hr, h⟩ => ⟨sd, S, ρ, hs, hr, Aft.bind h fun ρ1 H1 x d S1 le1 r1 rd h1 => ⟨sd, S1, ρ1, hs.mono le1, r1, Aft.bind h1 fun ρ2 H2 y ds S2 le2 r2 re h2 => h2.ok r2 (.cons (rd.mono le2) re)⟩⟩
def mCallK (f : MK) (a k : MA) : ME := fun sd S => (a sd S).bind fun ds S1 => (k sd S1).bind fun es S2 => f ds es S2
theorem pm_callK {x : Str} {g : Addr} {f : MK} {e : Expr} {es : List Expr} {kws : List Keyword} {ks : List Str} {m mk : MA} {p pos : Pos} (hc : CallMK G X (.ref g) ks f) (hg : Gl X x) (hm : X.mg x = some (.ref g)) (hk : PySem.W.keepIn X.K (.ref g) = true) (ha : PAm G X (e :: es) m) (hkw : PKm G X kws mk)
    (hall : (backToKw pos (keywordEach kws X.env)).all (·.1.isSome) = true := by rfl) (hks : (backToKw pos (keywordEach kws X.env)).filterMap (·.1) = ks := by rfl) (hdb : (x == ("__debug__" : Str)) = false := by decide)
    (he : starEach (e :: es) X.env = (false, eval e X.env) :: starEach es X.env := by rfl) (hpl : ((backTo pos (starEach (e :: es) X.env)).any (·.1) || (backToKw pos (keywordEach kws X.env)).any (·.1.isNone)) = false := by rfl) :
    PEm G X (.Call (.Name x p) (e :: es) kws pos) (mCallK f m mk) := fun W ok => by
  refine ⟨fun pins s σ H Q I h => ?_⟩
  obtain ⟨sd, S, ρ, hs, hr, h⟩ := h
  have t : ta G m W σ H (fun xs H1 => ∃ ρ1 S1 ds, RelSt G ρ1 H1 sd σ ∧ Rep G ρ1 S1 H1 ∧ RelDs G ρ1 H1 ds xs ∧ Aft G (RelD G) ρ1 H1 ((mk sd S1).bind fun es S2 => f ds es S2) Q (fun c a H' => W c a σ H')) := ⟨sd, S, ρ, hs, hr, Aft.bind h fun ρ1 H1 x d S1 le1 r1 rd h1 => ⟨ρ1, S1, d, hs.mono le1, r1, rd, h1⟩⟩
  refine wpAny_Call_Name_kw (ld_glob I hg hm ?_ hdb)
  refine PySem.W.callWith_KW (h₀ := X.base) I.ok.mod.kin hk hall (thn ((ha W ok).run pos pins s σ H _ I t) fun us s1 ⟨vs, H1, I1, r1, q1⟩ => ?_) hpl he
  obtain ⟨ρ1, S1, ds, hs1, rp1, rd1, q⟩ := q1
  have t2 : ta G mk W σ H1 (fun zs H2 => ∃ ρ2 S2 es, Rep G ρ2 S2 H2 ∧ RelDs G ρ2 H2 ds vs ∧ RelDs G ρ2 H2 es zs ∧ Aft G (RelD G) ρ2 H2 (f ds es S2) Q (fun c a H' => W c a σ H')) := ⟨sd, S1, ρ1, hs1, rp1, Aft.bind q fun ρ2 H2 x d S2 le2 r2 rd2 h2 => ⟨ρ2, S2, d, r2, rd1.mono le2, rd2, h2⟩⟩
  refine thn ((hkw W ok).run pos pins s1 σ H1 _ I1 t2) fun ws s2 ⟨zs, H2, I2, rz, q2⟩ => ⟨I2.kIn, ?_⟩
  obtain ⟨ρ2, S2, es', a, b, c, q⟩ := q2
  rw [hks]
  exact hc W ok pins s2 σ H2 ρ2 S2 vs zs us ws ds es' Q I2 r1 rz a b c q
theorem pm_callK0 {x : Str} {g : Addr} {f : MK} {kws : List Keyword} {ks : List Str} {mk : MA} {p pos : Pos} (hc : CallMK G X (.ref g) ks f) (hg : Gl X x) (hm : X.mg x = some (.ref g)) (hk : PySem.W.keepIn X.K (.ref g) = true) (hkw : PKm G X kws mk)
    (hall : (backToKw pos (keywordEach kws X.env)).all (·.1.isSome) = true := by rfl) (hks : (backToKw pos (keywordEach kws X.env)).filterMap (·.1) = ks := by rfl) (hdb : (x == ("__debug__" : Str)) = false := by decide)
    (hpl : ((backTo pos (starEach [] X.env)).any (·.1) || (backToKw pos (keywordEach kws X.env)).any (·.1.isNone)) = false := by rfl) :
    PEm G X (.Call (.Name x p) [] kws pos) (mCallK f mNil mk) := fun W ok => by
  refine ⟨fun pins s σ H Q I h => ?_⟩
  obtain ⟨sd, S, ρ, hs, hr, h⟩ := h
  have h : Aft G (RelD G) ρ H ((mk sd S).bind fun es S2 => f [] es S2) Q (fun c a H' => W c a σ H') := h
  refine wpAny_Call_Name_kw (ld_glob I hg hm ?_ hdb)
  refine PySem.W.callWith_KW0 (h₀ := X.base) I.ok.mod.kin hk hall ?_ hpl
  have t2 : ta G mk W σ H (fun zs H2 => ∃ ρ2 S2 es, Rep G ρ2 S2 H2 ∧ RelDs G ρ2 H2 es zs ∧ Aft G (RelD G) ρ2 H2 (f [] es S2) Q (fun c a H' => W c a σ H')) := ⟨sd, S, ρ, hs, hr, Aft.bind h fun ρ2 H2 x d S2 le2 r2 rd2 h2 => ⟨ρ2, S2, d, r2, rd2, h2⟩⟩
  refine thn ((hkw W ok).run pos pins s σ H _ I t2) fun ws s2 ⟨zs, H2, I2, rz, q2⟩ => ⟨I2.kIn, ?_⟩
  obtain ⟨ρ2, S2, es', a, c, q⟩ := q2
  rw [hks]
  exact hc W ok pins s2 σ H2 ρ2 S2 [] zs [] ws [] es' Q I2 .nil rz a .nil c q
end
end Y

/-! Z2: instances: attributes, methods, stores. -/
namespace Y
open PySem PySem.Spec PyProof.Rows L2
def clsD (d : D) (S : Sto) : Option Nat := match d with
  | .loc n => (match S.get n with
    | some (.ins c _) => some c
    | _ => none)
  | _ => none
def slotD (d : D) (i : Nat) (S : Sto) : Option D := match d with
  | .loc n => (match S.get n with
    | some (.ins _ l) => (match l[i]? with
      | some (some v) => some v
      | _ => none)
    | _ => none)
  | _ => none
def putD (i : Nat) (d : D) (l : List (Option D)) : List (Option D) := (l ++ List.replicate (i + 1 - l.length) none).set i (some d)
def setD (d : D) (i : Nat) (v : D) (S : Sto) : Option Sto := match d with
  | .loc n => (match S.get n with
    | some (.ins c l) => some (S.set n (.ins c (putD i v l)))
    | _ => none)
  | _ => none
def noX (r : Res D) : Res D := r.bindX fun d S => .ok d S
inductive AtK where
  | slot (i : Nat)
  | prop (m : MF)
def atD (tab : List (Nat × AtK)) (d : D) (S : Sto) : Res D := match clsD d S with
  | some c => (match tab.lookup c with
    | some (.slot i) => (match slotD d i S with
      | some v => .ok v S
      | none => .stuck)
    | some (.prop m) => noX (m [d] S)
    | none => .stuck)
  | none => .stuck
section
variable {G : Glo} {X : Cx} {ρ : Rho} {H : Hp}
theorem clsD_ok {S : Sto} {d : D} {x : V} {c : Nat} (rp : Rep G ρ S H) (rd : RelD G ρ H d x) (h : clsD d S = some c) : ∃ n a C dx vs l, d = .loc n ∧ S.get n = some (.ins c l) ∧ x = .ref a ∧ ρ n = some a ∧ G.ca c = .ref C ∧ SlX.Slt H a C dx vs ∧ RelSl G ρ H l vs := by
  unfold clsD at h
  split at h
  · rename_i n
    split at h
    · rename_i c' l el
      cases h
      simp only [RelD] at rd
      obtain ⟨a, e1, rfl⟩ := rd
      obtain ⟨b, e2, C, dx, vs, hC, hs, hr⟩ := rp.cell n _ el
      rw [e1] at e2
      cases e2
      exact ⟨n, a, C, dx, vs, l, rfl, el, rfl, e1, hC, hs, hr⟩
    · cases h
  · cases h
theorem noX_aft {r : Res D} {Q : VK} {W : XK} (h : Aft G (RelD G) ρ H (noX r) Q W) : Aft G (RelD G) ρ H r Q (fun _ _ _ => False) := Aft.bindX h fun ρ1 H1 v d S1 le r1 rv h1 => h1.ok r1 rv
/-! ### attributes -/
structure PropC (K : PySem.W.Frag) (C : Addr) (f : Str) (p g : Addr) : Prop where
  at_ : PySem.W.findIn K (.ref C) f = some (some (.ref p))
  get : PySem.W.specialIn K (.ref p) "__get__" = some (some (.builtin "property.__get__"))
  tk : PySem.W.takesIn K (.ref p) = some true
  rc : ∃ rest, PySem.W.recIn K p "property" = some (.ref g :: rest)
def AtOk (G : Glo) (X : Cx) (f : Str) (c : Nat) : AtK → Prop
  | .slot i => ∃ C p, G.ca c = .ref C ∧ SlX.SCls G.K C ∧ SlX.Slot1 G.K C f p i
  | .prop m => ∃ C p g k, G.ca c = .ref C ∧ SlX.SCls G.K C ∧ PropC G.K C f p g ∧ FnG G X.prog X.w X.mg X.base k g m ∧ Room (k + 1) X.A ∧ X.A.guards = some []
inductive AtTab (G : Glo) (X : Cx) (f : Str) : List (Nat × AtK) → Prop
  | nil : AtTab G X f []
  | cons {c : Nat} {k : AtK} {r : List (Nat × AtK)} (h : AtOk G X f c k) (t : AtTab G X f r) : AtTab G X f ((c, k) :: r)
theorem AtTab.get {f : Str} {tab : List (Nat × AtK)} (t : AtTab G X f tab) {c : Nat} {k : AtK} (h : tab.lookup c = some k) : AtOk G X f c k := by
  induction t with
  | nil => cases h
  | @cons c' k' r h1 t ih =>
    by_cases e : c = c'
    · subst e
      have e2 : k' = k := by simpa [List.lookup] using h
      subst e2
      exact h1
    · have e' : (c == c') = false := by simpa using e
      exact ih (by simpa [List.lookup, e'] using h)
theorem getpropG {pins : List (Addr × Obj)} {s : Shared} {σ : L2.St} {a C dx p g : Addr} {vs : List (Option V)} {f : Str} {k : Nat} {m : MF} {b : Bool} {Q : VK} (kk : G.K = X.K) (I : Inv X pins σ H s) (h : SlX.Slt H a C dx vs) (c : SlX.SCls X.K C) (pc : PropC X.K C f p g)
    (F : FnG G X.prog X.w X.mg X.base k g m) (hr : Room (k + 1) X.A) (hg : X.A.guards = some []) (q : spM G m [.ref a] H Q (fun _ _ _ => False)) : wpAny (model X.prog X.w) X.A (getAttr (.ref a) f b) (EP X pins σ Q) X.xe s := by
  obtain ⟨sl, od, _, J, _⟩ := SlX.slt_inst I h
  obtain ⟨rest, hrec⟩ := pc.rc
  have I1 : Inv X pins σ H { s with toks := s.toks + 1 } := I.tok (s.toks + 1)
  have e0 := I1.env0.in1
  rw [← kk] at e0
  refine PySem.W.get_bind I.kIn J (PySem.W.plainGet_of (c.get f)).1 (PySem.W.findObj_data c.ic pc.at_ pc.get pc.tk) (PySem.W.plainGet_of (c.get f)).2 (wpAny_call (PySem.W.prop_get (s := { s with toks := s.toks + 1 }) I.kIn hrec ?_))
  refine codeAny_mono (F X.A.in1 X.stack { s with toks := s.toks + 1 } H [.ref a] [.ref a] Q (fun _ _ _ => False) hr.in1 hg e0 (.cons rfl .nil) q) fun r s' hq => ?_
  cases r with
  | error e =>
    obtain ⟨_, _, _, _, _, _, _, _, _, _, _, _, z⟩ := hq
    exact z.elim
  | ok fl =>
    cases fl with
    | ret u =>
      obtain ⟨v, H', I2, rv, q⟩ := I1.after hq
      exact wpAny_of_eq (PySem.W.handedOut_of (handed_of rv)) ⟨v, H', I2, rv, q⟩
    | next => exact False.elim hq
    | brk => exact False.elim hq
    | cont => exact False.elim hq
theorem pm_at {e : Expr} {f : Str} {m : ME} {tab : List (Nat × AtK)} {pos : Pos} (ht : AtTab G X f tab) (he : PEm G X e m) (hb : attributeBase e f X.env (eval e X.env) = eval e X.env := by rfl) : PEm G X (.Attribute e f pos) (mUn (atD tab) m) := fun W ok => by
  refine ⟨fun pins s σ H Q I h => ?_⟩
  obtain ⟨sd, S, ρ, hs, hr, h⟩ := h
  have t : te G m W σ H (fun x H1 => ∃ ρ S d, Rep G ρ S H1 ∧ RelD G ρ H1 d x ∧ Aft G (RelD G) ρ H1 (atD tab d S) Q (fun c a H' => W c a σ H')) := ⟨sd, S, ρ, hs, hr, Aft.bind h fun ρ1 H1 x d S1 le1 r1 rd h1 => ⟨ρ1, S1, d, r1, rd, h1⟩⟩
  refine attr_of hb (thn ((he W ok).run pins s σ H _ I t) fun v s1 ⟨x, H1, I1, r1, q1⟩ => ?_)
  obtain ⟨ρ1, S1, d, rp, rd, q⟩ := q1
  unfold atD at q
  split at q
  · rename_i c hc
    obtain ⟨n, a, C, dx, vs, l, rfl, el, rfl, en, hC, hsl, hrl⟩ := clsD_ok rp rd hc
    cases r1
    split at q
    · rename_i i hi
      obtain ⟨C', p, hC', sc, s1'⟩ := ht.get hi
      rw [hC] at hC'
      cases hC'
      split at q
      · rename_i v' hv
        simp only [slotD, el] at hv
        split at hv
        · rename_i w' hw
          cases hv
          obtain ⟨u, eu, ru⟩ := hrl i _ hw
          rw [ok.kk] at sc s1'
          exact SlX.getslot_ok I1 hsl sc s1' eu fun u' s2 I2 ru' => ⟨u, H1, I2, ru', q.ok rp ru⟩
        · cases hv
      · exact q.elim
    · rename_i mm hi
      obtain ⟨C', p, g, k, hC', sc, pc, F, hrm, hg⟩ := ht.get hi
      rw [hC] at hC'
      cases hC'
      rw [ok.kk] at sc pc
      exact getpropG ok.kk I1 hsl sc pc F hrm hg ⟨_, S1, ρ1, .one rd, rp, noX_aft q⟩
    · exact q.elim
  · exact q.elim
/-! ### methods -/
def MeOk (G : Glo) (X : Cx) (m : Str) (c : Nat) (f : MF) : Prop := ∃ C g, G.ca c = .ref C ∧ SlX.SCls G.K C ∧ Meth G.K C m g ∧ CallM G X (.ref g) f
inductive MeTab (G : Glo) (X : Cx) (m : Str) : List (Nat × MF) → Prop
  | nil : MeTab G X m []
  | cons {c : Nat} {k : MF} {r : List (Nat × MF)} (h : MeOk G X m c k) (t : MeTab G X m r) : MeTab G X m ((c, k) :: r)
theorem MeTab.get {f : Str} {tab : List (Nat × MF)} (t : MeTab G X f tab) {c : Nat} {k : MF} (h : tab.lookup c = some k) : MeOk G X f c k := by
  induction t with
  | nil => cases h
  | @cons c' k' r h1 t ih =>
    by_cases e : c = c'
    · subst e
      have e2 : k' = k := by simpa [List.lookup] using h
      subst e2
      exact h1
    · have e' : (c == c') = false := by simpa using e
      exact ih (by simpa [List.lookup, e'] using h)
def mMethO (tab : List (Nat × MF)) (o : ME) (a : MA) : ME := fun sd S => (o sd S).bind fun od S1 => match clsD od S1 with
  | some c => (match tab.lookup c with
    | some f => (a sd S1).bind fun as S2 => f (od :: as) S2
    | none => .stuck)
  | none => .stuck
theorem pm_methO {o e : Expr} {es : List Expr} {m : Str} {mo : ME} {ma : MA} {tab : List (Nat × MF)} {apos pos : Pos} {pl : Sem Bool} (ht : MeTab G X m tab) (ho : PEm G X o mo) (ha : PAm G X (e :: es) ma)
    (hst : starEach (e :: es) X.env = (false, eval e X.env) :: starEach es X.env := by rfl) (hpl : (backTo pos (starEach es X.env)).any (·.1) = false := by rfl)
    (hv : eval (.Call (.Attribute o m apos) (e :: es) [] pos) X.env = (do
      let ov ← eval o X.env
      standAt apos.atName
      let (f, first) ← holding [ov] (getMethod ov m pl)
      callWith pos f first (backTo pos (starEach (e :: es) X.env)) (backToKw pos (keywordEach [] X.env))) := by rfl) :
    PEm G X (.Call (.Attribute o m apos) (e :: es) [] pos) (mMethO tab mo ma) := fun W ok => by
  refine ⟨fun pins s σ H Q I h => ?_⟩
  obtain ⟨sd, S, ρ, hs, hr, h⟩ := h
  have t : te G mo W σ H (fun x H1 => ∃ ρ S d, RelSt G ρ H1 sd σ ∧ Rep G ρ S H1 ∧ RelD G ρ H1 d x ∧ Aft G (RelD G) ρ H1 (match clsD d S with | some c => (match tab.lookup c with | some f => (ma sd S).bind fun as S2 => f (d :: as) S2 | none => .stuck) | none => .stuck) Q (fun c a H' => W c a σ H')) := ⟨sd, S, ρ, hs, hr, Aft.bind h fun ρ1 H1 x d S1 le1 r1 rd h1 => ⟨ρ1, S1, d, hs.mono le1, r1, rd, h1⟩⟩
  refine PySem.W.methodCall_KW (pl := pl) (thn ((ho W ok).run pins s σ H _ I t) fun v s1 ⟨x, H1, I1, r1, q1⟩ => ?_) hv
  obtain ⟨ρ1, S1, d, hs1, rp, rd, q⟩ := q1
  split at q
  · rename_i c hc
    obtain ⟨n, a, C, dx, vs, l, rfl, el, rfl, en, hC, hsl, hrl⟩ := clsD_ok rp rd hc
    cases r1
    split at q
    · rename_i f hf
      obtain ⟨C', g, hC', sc, me, cm⟩ := ht.get hf
      rw [hC] at hC'
      cases hC'
      rw [ok.kk] at sc me
      refine SlX.getmethsl_ok I1 hsl sc me ?_
      have t2 : ta G ma W σ H1 (fun xs H2 => ∃ ρ2 S2 ds, Rep G ρ2 S2 H2 ∧ RelD G ρ2 H2 (.loc n) (.ref a) ∧ RelDs G ρ2 H2 ds xs ∧ Aft G (RelD G) ρ2 H2 (f (.loc n :: ds) S2) Q (fun c a H' => W c a σ H')) := ⟨sd, S1, ρ1, hs1, rp, Aft.bind q fun ρ2 H2 x d S2 le2 r2 rd2 h2 => ⟨ρ2, S2, d, r2, rd.mono le2, rd2, h2⟩⟩
      refine PySem.W.callWith_K (first := [.ref a]) (h₀ := X.base) I.ok.mod.kin me.kp (thn ((ha W ok).run pos pins s1 σ H1 _ I1 t2) fun us s2 ⟨ws, H2, I2, r, q2⟩ => ⟨I2.kIn, ?_⟩) hst hpl
      obtain ⟨ρ2, S2, ds, rp2, ra, rds, q2⟩ := q2
      exact cm W ok pins s2 σ H2 ρ2 S2 (.ref a :: ws) (.ref a :: us) (.loc n :: ds) Q I2 (.cons rfl r) rp2 (.cons ra rds) q2
    · exact q.elim
  · exact q.elim
theorem pm_methO0 {o : Expr} {m : Str} {mo : ME} {tab : List (Nat × MF)} {apos pos : Pos} {pl : Sem Bool} (ht : MeTab G X m tab) (ho : PEm G X o mo)
    (hv : eval (.Call (.Attribute o m apos) [] [] pos) X.env = (do
      let ov ← eval o X.env
      standAt apos.atName
      let (f, first) ← holding [ov] (getMethod ov m pl)
      callWith pos f first (backTo pos (starEach [] X.env)) (backToKw pos (keywordEach [] X.env))) := by rfl) :
    PEm G X (.Call (.Attribute o m apos) [] [] pos) (mMethO tab mo mNil) := fun W ok => by
  refine ⟨fun pins s σ H Q I h => ?_⟩
  obtain ⟨sd, S, ρ, hs, hr, h⟩ := h
  have t : te G mo W σ H (fun x H1 => ∃ ρ S d, RelSt G ρ H1 sd σ ∧ Rep G ρ S H1 ∧ RelD G ρ H1 d x ∧ Aft G (RelD G) ρ H1 (match clsD d S with | some c => (match tab.lookup c with | some f => (mNil sd S).bind fun as S2 => f (d :: as) S2 | none => .stuck) | none => .stuck) Q (fun c a H' => W c a σ H')) := ⟨sd, S, ρ, hs, hr, Aft.bind h fun ρ1 H1 x d S1 le1 r1 rd h1 => ⟨ρ1, S1, d, hs.mono le1, r1, rd, h1⟩⟩
  refine PySem.W.methodCall_KW (pl := pl) (thn ((ho W ok).run pins s σ H _ I t) fun v s1 ⟨x, H1, I1, r1, q1⟩ => ?_) hv
  obtain ⟨ρ1, S1, d, hs1, rp, rd, q⟩ := q1
  split at q
  · rename_i c hc
    obtain ⟨n, a, C, dx, vs, l, rfl, el, rfl, en, hC, hsl, hrl⟩ := clsD_ok rp rd hc
    cases r1
    split at q
    · rename_i f hf
      obtain ⟨C', g, hC', sc, me, cm⟩ := ht.get hf
      rw [hC] at hC'
      cases hC'
      rw [ok.kk] at sc me
      refine SlX.getmethsl_ok I1 hsl sc me ?_
      exact PySem.W.callWith_K0 (first := [.ref a]) I1.kIn me.kp (cm W ok pins s1 σ H1 ρ1 S1 [.ref a] [.ref a] [.loc n] Q I1 (.cons rfl .nil) rp (.one rd) q)
    · exact q.elim
  · exact q.elim
/-! ### stores -/
theorem putD_self {i : Nat} {d : D} {l : List (Option D)} : (putD i d l)[i]? = some (some d) := by
  unfold putD
  exact List.getElem?_set_self (by simp only [List.length_append, List.length_replicate]; omega)
theorem putD_ne {i j : Nat} {d x : D} {l : List (Option D)} (h : j ≠ i) (e : (putD i d l)[j]? = some (some x)) : l[j]? = some (some x) := by
  unfold putD at e
  rw [List.getElem?_set_ne (Ne.symm h)] at e
  by_cases hj : j < l.length
  · rw [List.getElem?_append_left hj] at e
    exact e
  · rw [List.getElem?_append_right (by omega), List.getElem?_replicate] at e
    split at e <;> cases e
theorem RelSl.put {l : List (Option D)} {vs : List (Option V)} {d : D} {v : V} (h : RelSl G ρ H l vs) (r : RelD G ρ H d v) (i : Nat) : RelSl G ρ H (putD i d l) (SlX.putS i v vs) := fun j e he => by
  by_cases hj : j = i
  · subst hj
    rw [putD_self] at he
    cases he
    exact ⟨v, SlX.putS_get _ _ _, r⟩
  · obtain ⟨u, e1, r1⟩ := h j e (putD_ne hj he)
    exact ⟨u, (SlX.putS_ne hj).mpr e1, r1⟩
theorem rep_slot {S : Sto} {n i c : Nat} {a C dx : Addr} {l : List (Option D)} {vs : List (Option V)} {d : D} {v : V} (rp : Rep G ρ S H) (hi : S.get n = some (.ins c l)) (ha : ρ n = some a) (hC : G.ca c = .ref C) (hs : SlX.Slt H a C dx vs) (hrl : RelSl G ρ H l vs)
    (hd : H dx = some (.own a) ∨ H dx = some (.xd [])) (ne : dx ≠ a) (rv : RelD G ρ H d v) : Le G ρ H ρ (SlX.slH H a C dx (SlX.putS i v vs)) ∧ Rep G ρ (S.set n (.ins c (putD i d l))) (SlX.slH H a C dx (SlX.putS i v vs)) := by
  have w1 : Wr (H dx) := by rcases hd with e | e <;> rw [e] <;> exact trivial
  have w2 : Wr1 (H a) := by rcases hs with ⟨e, _⟩ | ⟨e, _⟩ <;> rw [e] <;> exact trivial
  have le1 : Le G ρ H ρ (L2.upd H dx (.xd [])) := Le.upd w1
  have w3 : Wr1 (L2.upd H dx (.xd []) a) := by rw [upd_ne (Ne.symm ne)]; exact w2
  have le2 : Le G ρ H ρ (SlX.slH H a C dx (SlX.putS i v vs)) := le1.trans (Le.upd w3.wr)
  have rp1 : Rep G ρ S (L2.upd H dx (.xd [])) := by
    refine ⟨fun j c2 e => ?_, rp.inj, rp.top, fun j b e => ?_⟩
    · obtain ⟨b, e1, q⟩ := rp.cell j c2 e
      refine ⟨b, e1, q.keep le1 (fun o ho => ?_) fun dx2 gs e => ?_⟩
      · have nb : b ≠ dx := fun z => by
          rw [z] at q
          have bad : ∀ o, CellOk G ρ H dx c2 → H dx = some o → (∀ x, o ≠ .own x) ∧ ∀ x, o ≠ .xd x := fun o q ho => by
            cases c2 with
            | lst l => obtain ⟨_, h, _⟩ := q; rw [h] at ho; cases ho; exact ⟨fun _ z => (nomatch z), fun _ z => (nomatch z)⟩
            | dct lk l =>
              rcases q with ⟨_, h, _⟩ | ⟨_, _, h, _⟩
              · cases lk with
                | zero => rw [show H dx = _ from h] at ho; cases ho; exact ⟨fun _ z => (nomatch z), fun _ z => (nomatch z)⟩
                | succ k => obtain ⟨_, h⟩ := h; rw [h] at ho; cases ho; exact ⟨fun _ z => (nomatch z), fun _ z => (nomatch z)⟩
              · cases lk with
                | zero => rw [show H dx = _ from h] at ho; cases ho; exact ⟨fun _ z => (nomatch z), fun _ z => (nomatch z)⟩
                | succ k => obtain ⟨_, h⟩ := h; rw [h] at ho; cases ho; exact ⟨fun _ z => (nomatch z), fun _ z => (nomatch z)⟩
            | ins k l =>
              obtain ⟨_, _, _, _, h, _⟩ := q
              rcases h with ⟨h, _⟩ | ⟨h, _⟩
              · rw [h] at ho; cases ho; exact ⟨fun _ z => (nomatch z), fun _ z => (nomatch z)⟩
              · rw [h] at ho; cases ho; exact ⟨fun _ z => (by unfold SlX.SlO at z; cases z), fun _ z => (by unfold SlX.SlO at z; cases z)⟩
            | dice => obtain ⟨_, _, _, h⟩ := q; rw [h] at ho; cases ho; exact ⟨fun _ z => (nomatch z), fun _ z => (nomatch z)⟩
            | exv k fs => obtain ⟨_, _, _, h, _⟩ := q; rw [h] at ho; cases ho; exact ⟨fun _ z => (by unfold exo at z; cases z), fun _ z => (by unfold exo at z; cases z)⟩
          rcases hd with e | e
          · exact (bad _ q e).1 _ rfl
          · exact (bad _ q e).2 _ rfl
        rw [upd_ne nb]
        exact ho
      · by_cases z : dx2 = dx
        · rw [z] at e ⊢
          rcases hd with e2 | e2
          · rw [e2] at e; cases e
          · rw [e2] at e; cases e; exact upd_same
        · rw [upd_ne z]; exact e
    · obtain ⟨o, q⟩ := rp.dom j b e
      by_cases z : b = dx
      · exact ⟨_, by rw [z]; exact upd_same⟩
      · exact ⟨o, by rw [upd_ne z]; exact q⟩
  refine ⟨le2, ?_⟩
  refine rp1.set (o := SlX.SlO a C dx (SlX.putS i v vs)) hi ha w3 ⟨C, dx, _, hC, .inr ⟨upd_same, by rw [upd_ne ne]; exact upd_same⟩, ?_⟩
  exact (hrl.mono le2).put (rv.mono le2) i
def sStA (tab : List (Nat × Nat)) (o v : ME) : MS := fun sd S => bindS (v sd S) sd fun d S1 => bindS (o sd S1) sd fun od S2 => match clsD od S2 with
  | some c => (match tab.lookup c with
    | some i => (match setD od i d S2 with
      | some S3 => .nx sd S3
      | none => .stuck)
    | none => .stuck)
  | none => .stuck
inductive StTab (G : Glo) (f : Str) : List (Nat × Nat) → Prop
  | nil : StTab G f []
  | cons {c i : Nat} {r : List (Nat × Nat)} (h : ∃ C p, G.ca c = .ref C ∧ SlX.SCls G.K C ∧ SlX.Slot1 G.K C f p i) (t : StTab G f r) : StTab G f ((c, i) :: r)
theorem StTab.get {f : Str} {tab : List (Nat × Nat)} (t : StTab G f tab) {c : Nat} {k : Nat} (h : tab.lookup c = some k) : ∃ C p, G.ca c = .ref C ∧ SlX.SCls G.K C ∧ SlX.Slot1 G.K C f p k := by
  induction t with
  | nil => cases h
  | @cons c' k' r h1 t ih =>
    by_cases e : c = c'
    · subst e
      have e2 : k' = k := by simpa [List.lookup] using h
      subst e2
      exact h1
    · have e' : (c == c') = false := by simpa using e
      exact ih (by simpa [List.lookup, e'] using h)
theorem ps_stA {o value : Expr} {f : Str} {mo mv : ME} {tab : List (Nat × Nat)} {pos pos' : Pos} (ht : StTab G f tab) (ho : PEm G X o mo) (hv : PEm G X value mv) (hs : swapsWith value (some (.Attribute o f pos')) pos.line X.env = pure false := by rfl) :
    PSm G X (.Assign [.Attribute o f pos'] value pos) (sStA tab mo mv) := fun W ok => by
  refine ⟨fun pins s σ H E I h => ?_⟩
  obtain ⟨sd, S, ρ, hsd, hr, h⟩ := h
  let K2 : D → D → Sto → SRes := fun d od S2 => match clsD od S2 with
    | some c => (match tab.lookup c with
      | some i => (match setD od i d S2 with
        | some S3 => .nx sd S3
        | none => .stuck)
      | none => .stuck)
    | none => .stuck
  have t : te G mv W σ H (fun y H1 => ∃ ρ1 S1 d, RelSt G ρ1 H1 sd σ ∧ Rep G ρ1 S1 H1 ∧ RelD G ρ1 H1 d y ∧ AftS G ρ1 H1 (bindS (mo sd S1) sd fun od S2 => K2 d od S2) E W) := ⟨sd, S, ρ, hsd, hr, AftS.bind h hsd fun ρ1 H1 v d S1 le1 r1 rd h1 => ⟨ρ1, S1, d, hsd.mono le1, r1, rd, h1⟩⟩
  refine plainObj_wpAny_Assign_Attribute (thn ((hv W ok).run pins s σ H _ I t) fun u s1 ⟨y, H1, I1, ry, q⟩ => ?_) hs
  obtain ⟨ρ1, S1, d, hs1, rp1, rd1, q⟩ := q
  have t2 : te G mo W σ H1 (fun x H2 => ∃ ρ2 S2 od, RelSt G ρ2 H2 sd σ ∧ Rep G ρ2 S2 H2 ∧ RelD G ρ2 H2 d y ∧ RelD G ρ2 H2 od x ∧ AftS G ρ2 H2 (K2 d od S2) E W) := ⟨sd, S1, ρ1, hs1, rp1, AftS.bind q hs1 fun ρ2 H2 v od S2 le2 r2 rod h2 => ⟨ρ2, S2, od, hs1.mono le2, r2, rd1.mono le2, rod, h2⟩⟩
  refine thn ((ho W ok).run pins s1 σ H1 _ I1 t2) fun ov s2 ⟨x, H2, I2, rx, q2⟩ => ?_
  obtain ⟨ρ2, S2, od, hs2, rp2, rd2, rod, q2⟩ := q2
  simp only [K2] at q2
  split at q2
  · rename_i c hc
    obtain ⟨n, a, C, dx, vs, l, rfl, el, rfl, en, hC, hsl, hrl⟩ := clsD_ok rp2 rod hc
    cases rx
    split at q2
    · rename_i i hi
      obtain ⟨C', p, hC', sc, st⟩ := ht.get hi
      rw [hC] at hC'
      cases hC'
      rw [ok.kk] at sc st
      split at q2
      · rename_i S3 e3
        simp only [setD, el, Option.some.injEq] at e3
        subst e3
        have hd : H2 dx = some (.own a) ∨ H2 dx = some (.xd []) := by
          rcases hsl with ⟨h1, _⟩ | ⟨_, h2⟩
          · obtain ⟨_, _, _, _, _, ho⟩ := ins_get I2.hok h1
            exact .inl ho
          · exact .inr h2
        obtain ⟨le3, rp3⟩ := rep_slot (i := i) rp2 el en hC hsl hrl hd (SlX.slt_at I2 hsl).1 rd2
        exact SlX.setslot_ok I2 hsl sc st ry fun s3 I3 => ⟨σ, _, I3, q2 ρ2 _ σ le3 rp3 (hs2.mono le3)⟩
      · exact q2.elim
    · exact q2.elim
  · exact q2.elim
end
end Y

/-! Z3: operators of own classes. -/
namespace PySem.W
open PySem PyProof.Rows
section
variable {prog : Program} {w : World} {A : Around} {E : Value → Shared → Prop} {s : Shared} {K : Frag} {x C L f : Addr} {h₀ : Heap} {m : Str → Option Value} {ox : Obj} {od : Option Obj} {b tb : Value}
/-- object.__ne__ asks the own __eq__ -/
theorem yne_entry {Q : Fin → Shared → Prop} (hu : A.units < cLine) (X : K.In s.heap) (I : InstAt s.heap x ox C od) (hs : findIn K (.ref C) "__eq__" = some (some (.ref f))) (hf : isFn K (.ref f) = true)
    (hcall : wpAny (model prog w) A (call (.ref f) [.ref x, b]) (fun v s' => ∃ r, v = .bool r ∧ Q (.done (.ret (.bool (!r)))) s') E s) :
    wpAny (model prog w) A (Builtin.«object.__ne__» ⟨[.ref x, b], []⟩) Q E s := by
  obtain ⟨hh, g, d, t, os⟩ := s
  unfold Builtin.«object.__ne__»
  repeat (first
    | with_reducible refine wpAny_cRoomFor hu ?_
    | (refine wpAny_bind (m := callSpecialIfBound? (.ref x) (Str.ofString "__eq__") [b])
        (ifBound_K X I hs hf (wpAny_mono hcall (fun r s' hr => by
          obtain ⟨q, rfl, hq⟩ := hr
          repeat (first | exact hq | exact wpAny_pure hq | exact wpAny_truthy_bool hq | (refine wpAny_bind (m := truthy (.bool _)) (wpAny_truthy_bool ?_)) | wp_step)) fun _ _ e => e)))
    | wp_step)
theorem yne_K {Q : Value → Shared → Prop} (hu : A.units + 1 < cLine) (Fx : Fr h₀ L s.heap m) (X₀ : K.In h₀) (I : InstAt s.heap x ox C od) (hb : Looks (model prog w) s.heap (typeOf b) tb) (hn : notFirst K C tb = true)
    (hs : findIn K (.ref C) "__eq__" = some (some (.ref f))) (hf : isFn K (.ref f) = true) (hne : findIn K (.ref C) "__ne__" = some (some (.builtin "object.__ne__"))) (hm : mroIn K C (.type "object") = some true)
    (h : wpAny (model prog w) A.in1 (call (.ref f) [.ref x, b]) (fun v s' => ∃ r, v = .bool r ∧ Q (.bool (!r)) s') E s) : wpAny (model prog w) A (richCompare .NotEq (.ref x) b) Q E s := by
  have X := X₀.keeps Fx.keep
  have one : wpAny (model prog w) A (tryCompare (.ref x) (cmpInfo .NotEq).2.1 b) (fun r s' => ∃ v, r = some v ∧ Q v s') E s := by
    unfold tryCompare
    refine wpAny_bind (NtL.csib (id := "object.__ne__") (I.type.andThen (looks_findIn X hne)) (F.cmp_object.ne.bind _) ?_)
    refine wpAny_call (codeAny_call_builtin F.cmp_object.ne.plain F.cmpEntry_ne (check_slot F.cmpKind_ne F.cmpSplit_ne (I.type.andThen (looks_mroIn X hm)) (F.cmpArgs_ne _ _) ?_))
    refine yne_entry (A := A.in1) hu X I hs hf (wpAny_mono h (fun v s' hv => ?_) fun _ _ e => e)
    obtain ⟨r, rfl, hq⟩ := hv
    first | exact ⟨r, rfl, wpAny_pure ⟨_, rfl, hq⟩⟩ | exact ⟨r, rfl, ⟨_, rfl, hq⟩⟩ | exact ⟨r, rfl, wpAny_pure (wpAny_pure ⟨_, rfl, hq⟩)⟩
  unfold richCompare
  simp only [oneThing_ref]
  refine wpAny_holding (wpAny_bind (wpAny_cRoomFor (Nat.lt_of_succ_lt hu) ?_))
  refine wpAny_bind (I.type.here (wpAny_bind (hb.here ?_)))
  split
  · rename_i q
    have e : subIn K tb (.ref C) = some false := by
      rcases Bool.or_eq_true_iff.mp hn with e | e
      · rw [beq_iff_eq.mp e] at q; simp at q
      · exact beq_iff_eq.mp e
    refine wpAny_bind ((looks_subIn X e).here ?_)
    simp only [Bool.false_eq_true, if_false]
    refine wpAny_bind (wpAny_mono one (fun r s' z => ?_) fun _ _ e => e)
    obtain ⟨v, rfl, hq⟩ := z
    exact wpAny_pure hq
  · refine wpAny_bind (wpAny_pure ?_)
    simp only [Bool.false_eq_true, if_false]
    refine wpAny_bind (wpAny_mono one (fun r s' z => ?_) fun _ _ e => e)
    obtain ⟨v, rfl, hq⟩ := z
    exact wpAny_pure hq
end
end PySem.W
namespace Y
open PySem PySem.Spec PyProof.Rows L2
section
variable {G : Glo} {X : Cx} {ρ : Rho} {H : Hp}
/-- the type of a value -/
theorem ty_looks {pins : List (Addr × Obj)} {s : Shared} {σ : L2.St} {S : Sto} {d : D} {x : V} {u : Value} {t : Nat} (kk : G.K = X.K) (bt : ∀ n T, btn n = some T → G.ca n = .type T) (I : Inv X pins σ H s) (rx : RelV x u) (rp : Rep G ρ S H) (rd : RelD G ρ H d x) (h : tyD d S = some t) :
    PySem.W.Looks (model X.prog X.w) s.heap (typeOf u) (G.ca t) := by
  rcases tyD_ok (X := X) kk bt rp rd h with ty | ⟨a, C, dx, vs, rfl, hC, hs⟩
  · obtain ⟨P, kx, hP, _⟩ := kit_of I rx ty
    exact kx.ty _ _ I.kIn hP
  · cases rx
    obtain ⟨sl, od, _, J, _⟩ := SlX.slt_inst I hs
    rw [hC]
    exact J.type
/-! ### binary operators -/
def isIntD : D → Bool
  | .int _ => true
  | _ => false
def binO (tab : List (Nat × MF)) (base : D → D → Sto → Res D) (d e : D) (S : Sto) : Res D := match clsD d S with
  | some c => (match tab.lookup c with
    | some f => if isIntD e || decide (clsD e S = some c) then f [d, e] S else .stuck
    | none => .stuck)
  | none => base d e S
def BoOk (G : Glo) (X : Cx) (op : Operator) (c : Nat) (f : MF) : Prop := ∃ C g, G.ca c = .ref C ∧ PySem.W.selfFirst G.K C = true ∧ PySem.W.findIn G.K (.ref C) (PySem.dunder op.info.2) = some (some (.ref g)) ∧ PySem.W.isFn G.K (.ref g) = true ∧
  (PySem.W.findIn G.K (.ref C) (dunderR op.info.2) = some none) ∧ (∃ fo ro, PySem.W.findIn G.K (.type "int") (PySem.dunder op.info.2) = some fo ∧ PySem.W.findIn G.K (.type "int") (dunderR op.info.2) = some ro) ∧ PySem.W.subIn G.K (.type "int") (.ref C) = some false ∧ CallM G X (.ref g) f
inductive BoTab (G : Glo) (X : Cx) (op : Operator) : List (Nat × MF) → Prop
  | nil : BoTab G X op []
  | cons {c : Nat} {k : MF} {r : List (Nat × MF)} (h : BoOk G X op c k) (t : BoTab G X op r) : BoTab G X op ((c, k) :: r)
theorem BoTab.get {op : Operator} {tab : List (Nat × MF)} (t : BoTab G X op tab) {c : Nat} {k : MF} (h : tab.lookup c = some k) : BoOk G X op c k := by
  induction t with
  | nil => cases h
  | @cons c' k' r h1 t ih =>
    by_cases e : c = c'
    · subst e
      have e2 : k' = k := by simpa [List.lookup] using h
      subst e2
      exact h1
    · have e' : (c == c') = false := by simpa using e
      exact ih (by simpa [List.lookup, e'] using h)
theorem EPcmp {pins : List (Addr × Obj)} {σ : L2.St} {Q : VK} {v : Value} {s : Shared} (h : EP X pins σ Q v s) : PySem.W.CmpBack (EP X pins σ Q) v s := by
  obtain ⟨z, H', I, r, q⟩ := h
  exact SlX.cmpback r ⟨z, H', I, r, q⟩
theorem om_binO {op : Operator} {tab : List (Nat × MF)} {base : D → D → Sto → Res D} (ht : BoTab G X op tab) (hb : OpM G X (binaryOp op) base) : OpM G X (binaryOp op) (binO tab base) := fun W ok pins s σ H ρ S x y v u d e Q I rx ry rp rd re q => by
  unfold binO at q
  split at q
  · rename_i c hc
    obtain ⟨n, a, C, dx, vs, l, rfl, el, rfl, en, hC, hsl, hrl⟩ := clsD_ok rp rd hc
    cases rx
    split at q
    · rename_i f hf
      obtain ⟨C', g, hC', sf, fi, isf, fr, ⟨fo, ro, h1, h2⟩, hsub, cm⟩ := ht.get hf
      rw [hC] at hC'
      cases hC'
      rw [ok.kk] at sf fi isf fr h1 h2 hsub
      split at q
      · rename_i hr
        obtain ⟨sl, od, _, J, _⟩ := SlX.slt_inst I hsl
        obtain ⟨mf, F⟩ := I.fr
        have run : wpAny (model X.prog X.w) X.A (call (.ref g) [.ref a, u]) (PySem.W.CmpBack (EP X pins σ Q)) X.xe s :=
          wpAny_mono (cm W ok pins s σ H ρ S [.ref a, y] [.ref a, u] [.loc n, e] Q I (.cons rfl (.cons ry .nil)) rp (.cons rd (.one re)) q) (fun v s' h => EPcmp h) fun _ _ h => h
        rcases Bool.or_eq_true_iff.mp hr with hi | hi
        · cases e with
          | int i =>
            simp only [RelD] at re
            subst re
            obtain ⟨t, rfl⟩ := ry
            exact PySem.W.ksp_binT (T := "int") F I.ok.mod.kin J rfl sf fi isf fr (.inl rfl) h1 h2 hsub run
          | _ => cases hi
        · have hi := of_decide_eq_true hi
          obtain ⟨n2, a2, C2, dx2, vs2, l2, rfl, el2, rfl, en2, hC2, hsl2, hrl2⟩ := clsD_ok rp re hi
          rw [hC] at hC2
          cases hC2
          cases ry
          obtain ⟨sl2, od2, _, J2, _⟩ := SlX.slt_inst I hsl2
          exact PySem.W.binop_K F I.ok.mod.kin J J2.type sf fi isf run
      · exact q.elim
    · exact q.elim
  · exact hb W ok pins s σ H ρ S x y v u d e Q I rx ry rp rd re q
def unO (tab : List (Nat × MF)) (base : D → Sto → Res D) (d : D) (S : Sto) : Res D := match clsD d S with
  | some c => (match tab.lookup c with
    | some f => f [d] S
    | none => .stuck)
  | none => base d S
def NgOk (G : Glo) (X : Cx) (c : Nat) (f : MF) : Prop := ∃ C g, G.ca c = .ref C ∧ PySem.W.findIn G.K (.ref C) "__neg__" = some (some (.ref g)) ∧ PySem.W.isFn G.K (.ref g) = true ∧ CallM G X (.ref g) f
inductive NgTab (G : Glo) (X : Cx) : List (Nat × MF) → Prop
  | nil : NgTab G X []
  | cons {c : Nat} {k : MF} {r : List (Nat × MF)} (h : NgOk G X c k) (t : NgTab G X r) : NgTab G X ((c, k) :: r)
theorem NgTab.get {tab : List (Nat × MF)} (t : NgTab G X tab) {c : Nat} {k : MF} (h : tab.lookup c = some k) : NgOk G X c k := by
  induction t with
  | nil => cases h
  | @cons c' k' r h1 t ih =>
    by_cases e : c = c'
    · subst e
      have e2 : k' = k := by simpa [List.lookup] using h
      subst e2
      exact h1
    · have e' : (c == c') = false := by simpa using e
      exact ih (by simpa [List.lookup, e'] using h)
theorem um_negO {tab : List (Nat × MF)} {base : D → Sto → Res D} (ht : NgTab G X tab) (hb : UnM G X (unaryOp .USub) base) : UnM G X (unaryOp .USub) (unO tab base) := fun W ok pins s σ H ρ S x v d Q I rx rp rd q => by
  unfold unO at q
  split at q
  · rename_i c hc
    obtain ⟨n, a, C, dx, vs, l, rfl, el, rfl, en, hC, hsl, hrl⟩ := clsD_ok rp rd hc
    cases rx
    split at q
    · rename_i f hf
      obtain ⟨C', g, hC', fi, isf, cm⟩ := ht.get hf
      rw [hC] at hC'
      cases hC'
      rw [ok.kk] at fi isf
      obtain ⟨sl, od, _, J, _⟩ := SlX.slt_inst I hsl
      obtain ⟨mf, F⟩ := I.fr
      exact PySem.W.ksp_neg F I.ok.mod.kin J fi isf (cm W ok pins s σ H ρ S [.ref a] [.ref a] [.loc n] Q I (.cons rfl .nil) rp (.one rd) q)
    · exact q.elim
  · exact hb W ok pins s σ H ρ S x v d Q I rx rp rd q
/-! ### ==, != -/
def eqO (tab : List (Nat × MF)) (ts : List Nat) (base : D → D → Sto → Res D) (d e : D) (S : Sto) : Res D := match clsD d S with
  | some c => (match tab.lookup c, tyD e S with
    | some f, some t => if ts.contains t then f [d, e] S else .stuck
    | _, _ => .stuck)
  | none => base d e S
def neO (tab : List (Nat × MF)) (ts : List Nat) (base : D → D → Sto → Res D) (d e : D) (S : Sto) : Res D := match clsD d S with
  | some c => (match tab.lookup c, tyD e S with
    | some f, some t => if ts.contains t then (f [d, e] S).bind fun r S1 => match r with
      | .bl b => .ok (.bl (!b)) S1
      | _ => .stuck else .stuck
    | _, _ => .stuck)
  | none => base d e S
/-- what == asks of a class: its own __eq__, run by the mirror; r: one call deeper, too -/
def EqOk (G : Glo) (X : Cx) (ts : List Nat) (c : Nat) (f : MF) : Prop := ∃ C g k, G.ca c = .ref C ∧ PySem.W.findIn G.K (.ref C) "__eq__" = some (some (.ref g)) ∧ PySem.W.isFn G.K (.ref g) = true ∧ PySem.W.findIn G.K (.ref C) "__ne__" = some (some (.builtin "object.__ne__")) ∧
  PySem.W.mroIn G.K C (.type "object") = some true ∧ (∀ t ∈ ts, PySem.W.notFirst G.K C (G.ca t) = true) ∧ FnG G X.prog X.w X.mg X.base k g f ∧ Room (k + 1) X.A ∧ X.A.guards = some []
inductive EqTab (G : Glo) (X : Cx) (ts : List Nat) : List (Nat × MF) → Prop
  | nil : EqTab G X ts []
  | cons {c : Nat} {k : MF} {r : List (Nat × MF)} (h : EqOk G X ts c k) (t : EqTab G X ts r) : EqTab G X ts ((c, k) :: r)
theorem EqTab.get {ts : List Nat} {tab : List (Nat × MF)} (t : EqTab G X ts tab) {c : Nat} {k : MF} (h : tab.lookup c = some k) : EqOk G X ts c k := by
  induction t with
  | nil => cases h
  | @cons c' k' r h1 t ih =>
    by_cases e : c = c'
    · subst e
      have e2 : k' = k := by simpa [List.lookup] using h
      subst e2
      exact h1
    · have e' : (c == c') = false := by simpa using e
      exact ih (by simpa [List.lookup, e'] using h)
theorem om_eqO {tab : List (Nat × MF)} {ts : List Nat} {base : D → D → Sto → Res D} (bt : ∀ n T, btn n = some T → G.ca n = .type T) (ht : EqTab G X ts tab) (hb : OpM G X (compareOp .Eq) base) : OpM G X (compareOp .Eq) (eqO tab ts base) := fun W ok pins s σ H ρ S x y v u d e Q I rx ry rp rd re q => by
  unfold eqO at q
  split at q
  · rename_i c hc
    obtain ⟨n, a, C, dx, vs, l, rfl, el, rfl, en, hC, hsl, hrl⟩ := clsD_ok rp rd hc
    cases rx
    split at q
    · rename_i f t hf hty
      obtain ⟨C', g, k, hC', fi, isf, fne, mro, nf, F, hr, hg⟩ := ht.get hf
      rw [hC] at hC'
      cases hC'
      rw [ok.kk] at fi isf
      split at q
      · rename_i hin
        have nf := nf t (by simpa using hin)
        rw [ok.kk] at nf
        obtain ⟨sl, od, _, J, _⟩ := SlX.slt_inst I hsl
        obtain ⟨mf, Fr⟩ := I.fr
        have hlo := ty_looks ok.kk bt I ry rp re hty
        show wpAny _ _ (richCompare .Eq (.ref a) u) _ _ _
        refine PySem.W.cmp_K (op := .Eq) hr.units0 Fr I.ok.mod.kin J hlo nf fi isf ?_
        exact wpAny_mono (cm_fnG F (hr.mono (Nat.le_succ _)) hg W ok pins s σ H ρ S [.ref a, y] [.ref a, u] [.loc n, e] Q I (.cons rfl (.cons ry .nil)) rp (.cons rd (.one re)) q) (fun v s' h => EPcmp h) fun _ _ h => h
      · exact q.elim
    · exact q.elim
  · exact hb W ok pins s σ H ρ S x y v u d e Q I rx ry rp rd re q
/-- a def's call one step deeper -/
theorem run_in1 {W : WX} {pins : List (Addr × Obj)} {s : Shared} {σ : L2.St} {S : Sto} {g : Addr} {k : Nat} {f : MF} {xs : List V} {us : List Value} {ds : List D} {Q : VK} (ok : XOk G X W) (F : FnG G X.prog X.w X.mg X.base k g f) (hr : Room (k + 1) X.A) (hg : X.A.guards = some []) (I : Inv X pins σ H s) (r : Vals xs us) (rp : Rep G ρ S H) (rd : RelDs G ρ H ds xs)
    (q : Aft G (RelD G) ρ H (f ds S) Q (fun c a H' => W c a σ H')) : wpAny (model X.prog X.w) X.A.in1 (call (.ref g) us) (EP X pins σ Q) X.xe s := by
  have e0 := I.env0.in1
  rw [← ok.kk] at e0
  refine wpAny_call (codeAny_mono (F X.A.in1 X.stack s H us xs Q (fun c a H' => W c a σ H') hr.in1 hg e0 r ⟨ds, S, ρ, rd, rp, q⟩) fun r s' hq => ?_)
  cases r with
  | error e => exact ok.tk e s' (XE.of_call I (fun cls d H' h => h) hq)
  | ok fl =>
    cases fl with
    | ret u => exact I.after hq
    | next => exact False.elim hq
    | brk => exact False.elim hq
    | cont => exact False.elim hq
theorem om_neO {tab : List (Nat × MF)} {ts : List Nat} {base : D → D → Sto → Res D} (bt : ∀ n T, btn n = some T → G.ca n = .type T) (ht : EqTab G X ts tab) (hb : OpM G X (compareOp .NotEq) base) : OpM G X (compareOp .NotEq) (neO tab ts base) := fun W ok pins s σ H ρ S x y v u d e Q I rx ry rp rd re q => by
  unfold neO at q
  split at q
  · rename_i c hc
    obtain ⟨n, a, C, dx, vs, l, rfl, el, rfl, en, hC, hsl, hrl⟩ := clsD_ok rp rd hc
    cases rx
    split at q
    · rename_i f t hf hty
      obtain ⟨C', g, k, hC', fi, isf, fne, mro, nf, F, hr, hg⟩ := ht.get hf
      rw [hC] at hC'
      cases hC'
      rw [ok.kk] at fi isf fne mro
      split at q
      · rename_i hin
        have nf := nf t (by simpa using hin)
        rw [ok.kk] at nf
        obtain ⟨sl, od, _, J, _⟩ := SlX.slt_inst I hsl
        obtain ⟨mf, Fr⟩ := I.fr
        have hlo := ty_looks ok.kk bt I ry rp re hty
        have q2 : Aft G (RelD G) ρ H (f [.loc n, e] S) (fun z H' => ∃ b, z = .bl b ∧ Q (.bl (!b)) H') (fun c a H' => W c a σ H') := Aft.bind q fun ρ1 H1 v r S1 le r1 rv h1 => by
          cases r with
          | bl b =>
            simp only [RelD] at rv
            exact ⟨b, rv, h1.ok r1 rel_bl⟩
          | _ => exact h1.elim
        show wpAny _ _ (richCompare .NotEq (.ref a) u) _ _ _
        refine PySem.W.yne_K (by have := hr.units; have := Nat.le_add_right X.A.units 1; omega) Fr I.ok.mod.kin J hlo nf fi isf fne mro ?_
        refine wpAny_mono (run_in1 (xs := [.ref a, y]) (us := [.ref a, u]) ok F hr hg I (.cons rfl (.cons ry .nil)) rp (.cons rd (.one re)) q2) (fun v s' h => ?_) fun _ _ h => h
        obtain ⟨z, H', I', rz, b, ez, qz⟩ := h
        subst ez
        cases rz
        exact ⟨b, rfl, .bl (!b), H', I', rfl, qz⟩
      · exact q.elim
    · exact q.elim
  · exact hb W ok pins s σ H ρ S x y v u d e Q I rx ry rp rd re q
end
end Y

/-! Z4: dicts. -/
namespace Y
open PySem PySem.Spec PyProof.Rows L2
def keqA : D → D → Bool
  | .int i, .int j => decide (i = j)
  | .str x, .str y => decide (x = y)
  | _, _ => false
def keqL : List D → List D → Bool
  | [], [] => true
  | a :: x, b :: y => keqA a b && keqL x y
  | _, _ => false
def keq : D → D → Bool
  | .tup x, .tup y => keqL x y
  | d, e => keqA d e
def atomB : D → Bool
  | .int _ => true
  | .str _ => true
  | _ => false
def keyTB : D → Bool
  | .tup l => l.all atomB
  | _ => false
def getKD (l : List (D × D)) (k : D) : Option D := match l with
  | [] => none
  | p :: r => if keq p.1 k then some p.2 else getKD r k
def putKD (l : List (D × D)) (k v : D) : List (D × D) := if l.any (fun p => keq p.1 k) then l.map (fun p => if keq p.1 k then (p.1, v) else p) else l ++ [(k, v)]
theorem keqA_ok {d e : D} {a b : Key} (h1 : keyD d = some a) (h2 : keyD e = some b) : keqA d e = decide (a = b) := by
  cases d with
  | int i =>
    cases h1
    cases e with
    | int j => cases h2; simp [keqA]
    | str y => cases h2; simp [keqA]
    | _ => cases h2
  | str x =>
    cases h1
    cases e with
    | int j => cases h2; simp [keqA]
    | str y => cases h2; simp [keqA]
    | _ => cases h2
  | _ => cases h1
theorem keqL_ok : ∀ {l m : List D} {ks js : List Key}, keysD l = some ks → keysD m = some js → keqL l m = decide (ks = js)
  | [], [], ks, js, h1, h2 => by cases h1; cases h2; rfl
  | [], e :: m, ks, js, h1, h2 => by
    cases h1
    simp only [keysD] at h2
    split at h2
    · cases h2; simp [keqL]
    · cases h2
  | d :: l, [], ks, js, h1, h2 => by
    cases h2
    simp only [keysD] at h1
    split at h1
    · cases h1; simp [keqL]
    · cases h1
  | d :: l, e :: m, ks, js, h1, h2 => by
    simp only [keysD] at h1 h2
    split at h1
    · rename_i k ks' e1 e2
      cases h1
      split at h2
      · rename_i j js' e3 e4
        cases h2
        rw [keqL, keqA_ok e1 e3, keqL_ok e2 e4]
        by_cases h : k = j <;> by_cases h' : ks' = js' <;> simp [h, h']
      · cases h2
    · cases h1
theorem keq_k {d e : D} {a b : Key} (h1 : keyD d = some a) (h2 : keyD e = some b) : keq d e = decide (a = b) := by
  have := keqA_ok h1 h2
  cases d with
  | tup l => cases h1
  | _ => exact this
theorem keq_t {d e : D} {a b : List Key} (h1 : keyT d = some a) (h2 : keyT e = some b) : keq d e = decide (a = b) := by
  cases d with
  | tup l =>
    cases e with
    | tup m => exact keqL_ok h1 h2
    | _ => cases h2
  | _ => cases h1
theorem keyD_atom {d : D} (h : atomB d = true) : ∃ k, keyD d = some k := by
  cases d with
  | int i => exact ⟨_, rfl⟩
  | str i => exact ⟨_, rfl⟩
  | _ => cases h
theorem keysD_all : ∀ {l : List D}, l.all atomB = true → ∃ ks, keysD l = some ks
  | [], _ => ⟨[], rfl⟩
  | d :: l, h => by
    rw [List.all_cons, Bool.and_eq_true] at h
    obtain ⟨k, e1⟩ := keyD_atom h.1
    obtain ⟨ks, e2⟩ := keysD_all h.2
    exact ⟨k :: ks, by simp only [keysD, e1, e2]⟩
theorem keyT_all {d : D} (h : keyTB d = true) : ∃ ks, keyT d = some ks := by
  cases d with
  | tup l => exact keysD_all h
  | _ => cases h
section
variable {G : Glo} {X : Cx} {ρ : Rho} {H : Hp}
theorem PairK.val {κ : Type} [DecidableEq κ] {kf : D → Option κ} (hk : ∀ {d e : D} {a b : κ}, kf d = some a → kf e = some b → keq d e = decide (a = b)) {key : D} {k : κ} (ek : kf key = some k) : ∀ {l : List (D × D)} {kvs : List (κ × V)}, PairK kf G ρ H l kvs →
    (∀ d, getKD l key = some d → ∃ v, valV kvs k = some v ∧ RelD G ρ H d v) ∧ (getKD l key = none → valV kvs k = none)
  | [], kvs, h => by
    cases h
    exact ⟨fun d e => by simp [getKD] at e, fun _ => rfl⟩
  | p :: r, kvs, h => by
    obtain ⟨j, v, zs, rfl, h1, h2, h3⟩ := h
    have ih := PairK.val hk ek h3
    simp only [getKD, hk h1 ek]
    by_cases e : j = k
    · subst e
      refine ⟨fun d q => ?_, fun q => by simp at q⟩
      simp only [decide_true, if_true, Option.some.injEq] at q
      subst q
      exact ⟨v, valV_pos rfl, h2⟩
    · have ne : decide (j = k) = false := by simpa using e
      simp only [ne, Bool.false_eq_true, if_false]
      rw [valV_neg (show ¬ (j, v).1 = k from e)]
      exact ih
theorem PairK.any {κ : Type} [DecidableEq κ] {kf : D → Option κ} (hk : ∀ {d e : D} {a b : κ}, kf d = some a → kf e = some b → keq d e = decide (a = b)) {key : D} {k : κ} (ek : kf key = some k) : ∀ {l : List (D × D)} {kvs : List (κ × V)}, PairK kf G ρ H l kvs → (l.any fun p => keq p.1 key) = kvs.any fun kv => decide (kv.1 = k)
  | [], kvs, h => by cases h; rfl
  | p :: r, kvs, h => by
    obtain ⟨j, v, zs, rfl, h1, h2, h3⟩ := h
    rw [List.any_cons, List.any_cons, hk h1 ek, PairK.any hk ek h3]
theorem PairK.rep {κ : Type} [DecidableEq κ] {kf : D → Option κ} (hk : ∀ {d e : D} {a b : κ}, kf d = some a → kf e = some b → keq d e = decide (a = b)) {key d : D} {k : κ} {v : V} (ek : kf key = some k) (rv : RelD G ρ H d v) : ∀ {l : List (D × D)} {kvs : List (κ × V)}, PairK kf G ρ H l kvs →
    PairK kf G ρ H (l.map fun p => if keq p.1 key then (p.1, d) else p) (kvs.map fun kv => if kv.1 = k then (kv.1, v) else kv)
  | [], kvs, h => by cases h; rfl
  | p :: r, kvs, h => by
    obtain ⟨j, u, zs, rfl, h1, h2, h3⟩ := h
    rw [List.map_cons, List.map_cons]
    by_cases e : j = k
    · have q : keq p.1 key = true := by rw [hk h1 ek]; simpa using e
      exact ⟨j, v, _, by simp [e], by simp only [q, if_true]; exact h1, by simp only [q, if_true]; exact rv, PairK.rep hk ek rv h3⟩
    · have q : keq p.1 key = false := by rw [hk h1 ek]; simpa using e
      exact ⟨j, u, _, by simp [e], by simp only [q, Bool.false_eq_true, if_false]; exact h1, by simp only [q, Bool.false_eq_true, if_false]; exact h2, PairK.rep hk ek rv h3⟩
theorem PairK.snoc {κ : Type} {kf : D → Option κ} {key d : D} {k : κ} {v : V} (ek : kf key = some k) (rv : RelD G ρ H d v) : ∀ {l : List (D × D)} {kvs : List (κ × V)}, PairK kf G ρ H l kvs → PairK kf G ρ H (l ++ [(key, d)]) (kvs ++ [(k, v)])
  | [], kvs, h => by cases h; exact ⟨k, v, [], rfl, ek, rv, rfl⟩
  | p :: r, kvs, h => by
    obtain ⟨j, u, zs, rfl, h1, h2, h3⟩ := h
    exact ⟨j, u, _, rfl, h1, h2, PairK.snoc ek rv h3⟩
theorem PairK.put {κ : Type} [DecidableEq κ] {kf : D → Option κ} (hk : ∀ {d e : D} {a b : κ}, kf d = some a → kf e = some b → keq d e = decide (a = b)) {key d : D} {k : κ} {v : V} (ek : kf key = some k) (rv : RelD G ρ H d v) {l : List (D × D)} {kvs : List (κ × V)} (h : PairK kf G ρ H l kvs) :
    PairK kf G ρ H (putKD l key d) (putK kvs k v) := by
  unfold putKD putK
  rw [h.any hk ek]
  split
  · exact h.rep hk ek rv
  · exact h.snoc ek rv
theorem putKD_ne (l : List (D × D)) (k v : D) : putKD l k v ≠ [] := by
  unfold putKD
  split
  · rename_i h
    cases l with
    | nil => simp at h
    | cons p r => simp
  · simp
/-! ### an empty dict may hold keys of any kind -/
theorem inv_turn {pins : List (Addr × Obj)} {σ : L2.St} {s : Shared} {a : Addr} {o : HO} (I : Inv X pins σ H s) (mu : Mut (H a)) (he : ∃ q, s.heap.get? a = some q) (new : ObjOk X.prog X.w (L2.upd H a o) s.heap a o) : Inv X pins σ (L2.upd H a o) s :=
  d_write (h' := s.heap) (t' := s.toks) I mu ⟨rfl, fun _ _ => rfl⟩ he new
theorem turn_dT {pins : List (Addr × Obj)} {σ : L2.St} {s : Shared} {a : Addr} (I : Inv X pins σ H s) (h : H a = some (.dK [])) : Inv X pins σ (L2.upd H a (.dT [])) s := by
  obtain ⟨z, hd, vs, kv, ob, es, ep, ho, hx, hdat, _, hp, _⟩ := I.hok a _ h
  cases kv
  have e0 : es.toList = [] := by cases hq : es.toList with | nil => rfl | cons _ _ => rw [hq] at hp; cases hp
  exact inv_turn I (by rw [h]; exact trivial) ⟨ob, ho⟩ ⟨Nat.zero_le _, hd, [], .nil, ob, es, ep, ho, hx, hdat, e0, List.nodup_nil⟩
theorem turn_dK {pins : List (Addr × Obj)} {σ : L2.St} {s : Shared} {a : Addr} (I : Inv X pins σ H s) (h : H a = some (.dT [])) : Inv X pins σ (L2.upd H a (.dK [])) s := by
  obtain ⟨z, hd, vs, kv, ob, es, ep, ho, hx, hdat, hp, _⟩ := I.hok a _ h
  cases kv
  have e1 : es = #[] := by
    cases es with
    | mk l => cases l with | nil => rfl | cons _ _ => cases hp
  subst e1
  exact inv_turn I (by rw [h]; exact trivial) ⟨ob, ho⟩ ⟨Nat.zero_le _, hd, [], .nil, ob, #[], ep, ho, hx, hdat, fun e he => by simp at he, .nil, List.nodup_nil⟩
theorem upd_back {a : Addr} {o o' : HO} (h : H a = some o) : L2.upd (L2.upd H a o') a o = H := by
  funext b
  by_cases e : b = a
  · rw [e, upd_same, h]
  · rw [upd_ne e, upd_ne e]
/-! ### what a dict holds at a key -/
def dGet (d k : D) (S : Sto) : Option (Option D) := match d with
  | .loc n => (match S.get n with
    | some (.dct lk l) => if (if isK l then atomB k else keyTB k) then some (getKD l k) else if l.isEmpty && decide (lk = 0) && keyTB k then some none else none
    | _ => none)
  | _ => none
def RelO2 (G : Glo) (ρ : Rho) (H : Hp) : Option D → Option V → Prop
  | some d, some v => RelD G ρ H d v
  | none, none => True
  | _, _ => False
theorem isK_pair {l : List (D × D)} {kvs : List (List Key × V)} (hne : l ≠ []) (h : PairK keyT G ρ H l kvs) : isK l = false := by
  cases l with
  | nil => exact absurd rfl hne
  | cons p r =>
    obtain ⟨k, v, zs, rfl, h1, _⟩ := h
    show (keyD p.1).isSome = false
    cases hp : p.1 with
    | tup x => rfl
    | _ => rw [hp] at h1; cases h1
theorem isK_pairK {l : List (D × D)} {kvs : List (Key × V)} (h : PairK keyD G ρ H l kvs) : isK l = true := by
  cases l with
  | nil => rfl
  | cons p r =>
    obtain ⟨k, v, zs, rfl, h1, _⟩ := h
    simp [isK, h1]
theorem dGet_ok {pins : List (Addr × Obj)} {σ : L2.St} {s : Shared} {S : Sto} {d k : D} {x y : V} {o : Option D} (I : Inv X pins σ H s) (rp : Rep G ρ S H) (rd : RelD G ρ H d x) (rk : RelD G ρ H k y) (h : dGet d k S = some o) :
    ∃ a H' ov, x = .ref a ∧ Inv X pins σ H' s ∧ DGet H' a y ov ∧ RelO2 G ρ H o ov ∧ ∀ s', Inv X pins σ H' s' → Inv X pins σ H s' := by
  unfold dGet at h
  split at h
  · rename_i n
    simp only [RelD] at rd
    obtain ⟨a, en, rfl⟩ := rd
    split at h
    · rename_i lk l el
      obtain ⟨b, e2, c⟩ := rp.cell n _ el
      rw [en] at e2
      cases e2
      have toRd : ∀ u, DctAt H a lk u → Rd H a u := fun u q => by
        cases lk with
        | zero => exact .inl q
        | succ j => exact .inr q
      rcases c with ⟨kvs, hd, pk⟩ | ⟨hne, kvs, hd, pk⟩
      · rw [isK_pairK pk] at h
        simp only [if_true] at h
        split at h
        · rename_i ha
          cases h
          obtain ⟨ky, eky⟩ := keyD_atom ha
          obtain ⟨v1, v2⟩ := pk.val keq_k eky
          have ey : y = kV ky := by
            have := keyD_rel (G := G) (ρ := ρ) (H := H) eky
            cases k with
            | int i => simp only [RelD] at this rk; rw [rk, this]
            | str i => simp only [RelD] at this rk; rw [rk, this]
            | _ => cases ha
          refine ⟨a, H, valV kvs ky, rfl, I, .inl ⟨kvs, ky, toRd _ hd, ey, rfl⟩, ?_, fun _ h => h⟩
          cases hg : getKD l k with
          | none => rw [v2 hg]; trivial
          | some d' =>
            obtain ⟨v, e1, e2⟩ := v1 d' hg
            rw [e1]
            exact e2
        · split at h
          · rename_i hc
            cases h
            simp only [Bool.and_eq_true, List.isEmpty_iff, decide_eq_true_eq] at hc
            obtain ⟨⟨hl, hz⟩, ht⟩ := hc
            subst hl hz
            cases pk
            have hd : H a = some (.dK []) := hd
            obtain ⟨ks, eks⟩ := keyT_all ht
            cases k with
            | tup m =>
              simp only [RelD] at rk
              obtain ⟨b, xs, rfl, hb, hr⟩ := rk
              have e3 := keysD_rel (G := G) (ρ := ρ) (H := H) (l := m) eks
              have e4 : xs = ks.map kV := relDs_det eks hr
              refine ⟨a, L2.upd H a (.dT []), none, rfl, turn_dT I hd, .inr ⟨[], ks, b, .inl upd_same, rfl, ?_, rfl⟩, trivial, fun s' I' => ?_⟩
              · rw [upd_ne (fun z => by rw [z, hd] at hb; cases hb), hb, e4]
              · have := turn_dK I' upd_same
                rw [upd_back hd] at this
                exact this
            | _ => cases ht
          · cases h
      · rw [isK_pair hne pk] at h
        simp only [Bool.false_eq_true, if_false] at h
        split at h
        · rename_i ha
          cases h
          obtain ⟨ks, eks⟩ := keyT_all ha
          obtain ⟨v1, v2⟩ := pk.val keq_t eks
          cases k with
          | tup m =>
            simp only [RelD] at rk
            obtain ⟨b, xs, rfl, hb, hr⟩ := rk
            have e4 : xs = ks.map kV := relDs_det eks hr
            subst e4
            refine ⟨a, H, valV kvs ks, rfl, I, .inr ⟨kvs, ks, b, toRd _ hd, rfl, hb, rfl⟩, ?_, fun _ h => h⟩
            cases hg : getKD l (.tup m) with
            | none => rw [v2 hg]; trivial
            | some d' =>
              obtain ⟨v, e1, e2⟩ := v1 d' hg
              rw [e1]
              exact e2
          | _ => cases ha
        · split at h
          · rename_i hc
            simp only [Bool.and_eq_true, List.isEmpty_iff] at hc
            exact absurd hc.1.1 hne
          · cases h
    · cases h
  · cases h
where
  relDs_det : ∀ {l : List D} {ks : List Key} {xs : List V}, keysD l = some ks → RelDs G ρ H l xs → xs = ks.map kV
    | [], ks, xs, e, h => by cases e; simp only [RelDs] at h; rw [h]; rfl
    | d :: l, ks, xs, e, h => by
      simp only [keysD] at e
      split at e
      · rename_i k ks' e1 e2
        cases e
        simp only [RelDs] at h
        obtain ⟨v, ys, rfl, h1, h2⟩ := h
        rw [relDs_det e2 h2]
        cases d with
        | int i => cases e1; simp only [RelD] at h1; rw [h1]; rfl
        | str i => cases e1; simp only [RelD] at h1; rw [h1]; rfl
        | _ => cases e1
      · cases e
end
end Y

/-! Z5: rules of dicts. -/
namespace Y
open PySem PySem.Spec PyProof.Rows L2
section
variable {G : Glo} {X : Cx} {ρ : Rho} {H : Hp}
/-! ### in, not in -/
def inSeq (S : Sto) (d e : D) : Option Bool := match toPy S 12 d, toPy S 12 e with
  | some a, some (.list bs) => if SeqAt.shaped a && SeqAt.shaped (.list bs) then some (bs.any fun z => PyData.eqv z a) else none
  | some a, some (.tuple bs) => if SeqAt.shaped a && SeqAt.shaped (.tuple bs) then some (bs.any fun z => PyData.eqv z a) else none
  | _, _ => none
def isDct (d : D) (S : Sto) : Bool := match d with
  | .loc n => (match S.get n with
    | some (.dct _ _) => true
    | _ => false)
  | _ => false
def inD (d e : D) (S : Sto) : Option Bool := if isDct e S then (dGet e d S).map Option.isSome else (match d, e with
  | .str [c], .str z => some (decide (c ∈ z))
  | d, e => inSeq S d e)
def cIn (d e : D) (S : Sto) : Res D := match inD d e S with
  | some b => .ok (.bl b) S
  | none => .stuck
def cNotIn (d e : D) (S : Sto) : Res D := match inD d e S with
  | some b => .ok (.bl (!b)) S
  | none => .stuck
theorem inSeq_ok {S : Sto} {d e : D} {x y : V} {b : Bool} {K : PySem.W.Frag} (kk : G.K = K) (rp : Rep G ρ S H) (h : inSeq S d e = some b) (hd : RelD G ρ H d x) (he : RelD G ρ H e y) :
    ∃ a bs, Dp K H x a ∧ SeqAt.shaped a = true ∧ ((Dp K H y (.list bs) ∧ SeqAt.shaped (.list bs) = true) ∨ (Dp K H y (.tuple bs) ∧ SeqAt.shaped (.tuple bs) = true)) ∧ b = bs.any fun z => PyData.eqv z a := by
  unfold inSeq at h
  split at h
  · rename_i a bs e1 e2
    split at h
    · rename_i hs
      cases h
      rw [Bool.and_eq_true] at hs
      exact ⟨a, bs, toPy_dp kk rp 12 e1 hd, hs.1, .inl ⟨toPy_dp kk rp 12 e2 he, hs.2⟩, rfl⟩
    · cases h
  · rename_i a bs e1 e2
    split at h
    · rename_i hs
      cases h
      rw [Bool.and_eq_true] at hs
      exact ⟨a, bs, toPy_dp kk rp 12 e1 hd, hs.1, .inr ⟨toPy_dp kk rp 12 e2 he, hs.2⟩, rfl⟩
    · cases h
  · cases h
theorem o2_some {o : Option D} {ov : Option V} (h : RelO2 G ρ H o ov) : o.isSome = ov.isSome := by
  cases o <;> cases ov <;> first | rfl | exact h.elim
theorem om_in (hu : X.A.units + 65 < cLine) : OpM G X (compareOp .In) cIn := fun W ok pins s σ H ρ S x y v u d e Q I rx ry rp rd re q => by
  unfold cIn at q
  split at q
  · rename_i b eb
    unfold inD at eb
    split at eb
    · obtain ⟨o, eo, rfl⟩ := Option.map_eq_some_iff.mp eb
      obtain ⟨a, H', ov, rfl, I', g, ro, back⟩ := dGet_ok I rp re rd eo
      cases ry
      exact d_in (by omega) I' g rx fun s' I2 => ⟨.bl _, H, back s' I2, rfl, by rw [← o2_some ro]; exact q.ok rp rel_bl⟩
    · split at eb
      · rename_i c z _
        cases eb
        simp only [RelD] at rd re
        refine op_inS pins s σ H x y v u Q I rx ry ⟨c, ⟨z.toArray⟩, by rw [rd], re, ?_⟩
        have := q.ok rp (rel_bl (G := G) (ρ := ρ) (H := H))
        simpa using this
      · obtain ⟨a, bs, h1, h2, h3, rfl⟩ := inSeq_ok ok.kk rp eb rd re
        obtain ⟨as, r1⟩ := Dp.reads I _ _ _ h1 rx
        rcases h3 with ⟨h3, h4⟩ | ⟨h3, h4⟩
        · obtain ⟨cs, r2⟩ := Dp.reads I _ _ _ h3 ry
          exact SeqAt.in_list_reads r2 r1 (SeqAt.canLay_of_shaped h4) (SeqAt.canLay_of_shaped h2) (room_in_shaped h2 hu) ⟨.bl _, H, I, rfl, q.ok rp rel_bl⟩
        · obtain ⟨cs, r2⟩ := Dp.reads I _ _ _ h3 ry
          exact SeqAt.in_tuple_reads r2 r1 (SeqAt.canLay_of_shaped h4) (SeqAt.canLay_of_shaped h2) (room_in_shaped h2 hu) ⟨.bl _, H, I, rfl, q.ok rp rel_bl⟩
  · exact q.elim
theorem om_notin (hu : X.A.units + 65 < cLine) : OpM G X (compareOp .NotIn) cNotIn := fun W ok pins s σ H ρ S x y v u d e Q I rx ry rp rd re q => by
  unfold cNotIn at q
  split at q
  · rename_i b eb
    unfold inD at eb
    split at eb
    · obtain ⟨o, eo, rfl⟩ := Option.map_eq_some_iff.mp eb
      obtain ⟨a, H', ov, rfl, I', g, ro, back⟩ := dGet_ok I rp re rd eo
      cases ry
      exact d_notIn (by omega) I' g rx fun s' I2 => ⟨.bl _, H, back s' I2, rfl, by rw [← o2_some ro]; exact q.ok rp rel_bl⟩
    · split at eb
      · rename_i c z _
        cases eb
        simp only [RelD] at rd re
        refine op_notInS pins s σ H x y v u Q I rx ry ⟨c, ⟨z.toArray⟩, by rw [rd], re, ?_⟩
        have := q.ok rp (rel_bl (G := G) (ρ := ρ) (H := H))
        simpa using this
      · obtain ⟨a, bs, h1, h2, h3, rfl⟩ := inSeq_ok ok.kk rp eb rd re
        obtain ⟨as, r1⟩ := Dp.reads I _ _ _ h1 rx
        rcases h3 with ⟨h3, h4⟩ | ⟨h3, h4⟩
        · obtain ⟨cs, r2⟩ := Dp.reads I _ _ _ h3 ry
          exact SeqAt.notIn_list_reads r2 r1 (SeqAt.canLay_of_shaped h4) (SeqAt.canLay_of_shaped h2) (room_in_shaped h2 hu) ⟨.bl _, H, I, rfl, q.ok rp rel_bl⟩
        · obtain ⟨cs, r2⟩ := Dp.reads I _ _ _ h3 ry
          exact SeqAt.notIn_tuple_reads r2 r1 (SeqAt.canLay_of_shaped h4) (SeqAt.canLay_of_shaped h2) (room_in_shaped h2 hu) ⟨.bl _, H, I, rfl, q.ok rp rel_bl⟩
  · exact q.elim
/-! ### d[k], x[i], o[i] -/
def IxM (G : Glo) (X : Cx) (slice : Expr) (f : D → D → Sto → Res D) : Prop := ∀ W, XOk G X W →
  ∀ (value : Expr) (pins : List (Addr × Obj)) (s : Shared) (σ : L2.St) (H : Hp) (ρ : Rho) (S : Sto) (x y : V) (v u : Value) (d e : D) (Q : VK), Inv X pins σ H s → RelV x v → RelV y u → Rep G ρ S H → RelD G ρ H d x → RelD G ρ H e y →
    Aft G (RelD G) ρ H (f d e S) Q (fun c a H' => W c a σ H') → wpAny (model X.prog X.w) X.A (subscriptTail value slice v u) (EP X pins σ Q) X.xe s
theorem pm_ixM {a b : Expr} {ma mb : ME} {f : D → D → Sto → Res D} {pos : Pos} (hf : IxM G X b f) (ha : PEm G X a ma) (hb : PEm G X b mb) : PEm G X (.Subscript a b pos) (mBin f ma mb) := fun W ok => by
  refine ⟨fun pins s σ H Q I h => ?_⟩
  refine Subscript_ (binT (ha W ok) (hb W ok) (R := fun x y H2 => ∃ ρ S d e, Rep G ρ S H2 ∧ RelD G ρ H2 d x ∧ RelD G ρ H2 e y ∧ Aft G (RelD G) ρ H2 (f d e S) Q (fun c a H' => W c a σ H')) I (te_bin h fun ρ H2 S d e x y a b c q => ⟨ρ, S, d, e, a, b, c, q⟩) fun v u s2 x y H2 I2 rx ry q => ?_)
  obtain ⟨ρ, S, d, e, h1, h2, h3, q⟩ := q
  exact hf W ok a pins s2 σ H2 ρ S x y v u d e Q I2 rx ry h1 h2 h3 q
theorem ixm_seq {b : Expr} (hs : PlainIx b) : IxM G X b ixD := fun W ok value pins s σ H ρ S x y v u d e Q I rx ry rp rd re q => by
  refine ix_seq value b pins s σ H x y v u Q I rx ry ?_ (hs _ _)
  unfold ixD at q
  split at q
  · rename_i n i
    simp only [RelD] at re
    split at q
    · rename_i l el
      split at q
      · rename_i d' ed
        obtain ⟨p, xs, rfl, e1, hH, ht⟩ := rp.list el rd
        obtain ⟨v, ev, rv⟩ := atI_rel ht ed
        exact .inl ⟨p, xs, i, v, rfl, re, .inl (.inl hH), ev, q.ok rp rv⟩
      · exact q.elim
    · exact q.elim
  · rename_i l i
    simp only [RelD] at re rd
    obtain ⟨p, xs, rfl, hq, ht⟩ := rd
    split at q
    · rename_i d' ed
      obtain ⟨v, ev, rv⟩ := atI_rel ht ed
      exact .inr (.inl ⟨p, xs, i, v, rfl, re, (.inl (.inl hq)), ev, q.ok rp rv⟩)
    · exact q.elim
  · rename_i l i
    simp only [RelD] at re rd
    split at q
    · rename_i hl
      split at q
      · rename_i c ec
        refine .inr (.inr ⟨_, i, c, rd, re, by rw [str_len, sizeLine_eq]; exact hl, ?_, ?_⟩)
        · show atI l.toArray.toList i = some c
          rw [List.toList_toArray]
          exact ec
        · exact q.ok rp rel_str
      · exact q.elim
    · exact q.elim
  · rename_i l i
    simp only [RelD] at re rd
    obtain ⟨p, rfl, hq⟩ := rd
    split at q
    · rename_i c ec
      have hq2 := hq.seq
      rw [ok.kk] at hq2
      refine .inl ⟨p, _, i, .int c, rfl, re, hq2, ?_, q.ok rp rel_int⟩
      unfold atI at ec ⊢
      rw [List.length_map]
      cases hx : ixN l.length i with
      | none => rw [hx] at ec; simp at ec
      | some j =>
        rw [hx] at ec
        simp only [Option.bind_some] at ec ⊢
        rw [List.getElem?_map, ec]
        rfl
    · exact q.elim
  · exact q.elim
def ixG (d e : D) (S : Sto) : Res D := if isDct d S then (match dGet d e S with
  | some (some v) => .ok v S
  | _ => .stuck) else ixD d e S
theorem tail_dict {value slice : Expr} {a : Addr} {u : Value} {s : Shared} {Q : Value → Shared → Prop} (hT : s.TypeIs (.ref a) "dict") (hs : subscripted slice false (.ref a) u = operate [.ref a, u] (getItem (.ref a) u)) (h : wpAny (model X.prog X.w) X.A (getItem (.ref a) u) Q X.xe s) :
    wpAny (model X.prog X.w) X.A (subscriptTail value slice (.ref a) u) Q X.xe s := by
  unfold subscriptTail
  refine wpAny_bind ?_
  rw [getitemInPython_of_ne hT.not_modules]
  refine wpAny_bind (wpAny_specialOf hT PySem.F.slot_dict_getitem.lookup ?_)
  have fin : wpAny (model X.prog X.w) X.A (subscripted slice false (.ref a) u) (fun r s₃ => wpAny (model X.prog X.w) X.A (letTemporaryGo value (.ref a) r >>= fun _ => pure r) Q X.xe s₃) X.xe s := by
    rw [hs]
    exact wpAny_operating (wpAny_mono h (fun r s₃ h₃ => wpAny_bind (wpAny_letTemporaryGo (wpAny_pure h₃))) fun _ _ x => x)
  first
    | exact wpAny_pure (wpAny_bind fin)
    | exact wpAny_bind (wpAny_pure (wpAny_bind fin))
    | exact wpAny_bind fin
theorem ixm_g {b : Expr} (hu : X.A.units + 1 < cLine) (hs : PlainIx b) : IxM G X b ixG := fun W ok value pins s σ H ρ S x y v u d e Q I rx ry rp rd re q => by
  unfold ixG at q
  split at q
  · split at q
    · rename_i r er
      obtain ⟨a, H', ov, rfl, I', g, ro, back⟩ := dGet_ok I rp rd re er
      cases rx
      cases ov with
      | none => exact ro.elim
      | some w =>
        exact tail_dict (dict_typeIs I' g) (hs _ _) (d_getItem hu I' g ry fun w' s' I2 rw' => ⟨w, H, back s' I2, rw', q.ok rp ro⟩)
    · exact q.elim
  · exact ixm_seq hs W ok value pins s σ H ρ S x y v u d e Q I rx ry rp rd re q
/-- own __getitem__ -/
def ixO (tab : List (Nat × MF)) (base : D → D → Sto → Res D) (d e : D) (S : Sto) : Res D := match clsD d S with
  | some c => (match tab.lookup c with
    | some f => f [d, e] S
    | none => .stuck)
  | none => base d e S
def GiOk (G : Glo) (X : Cx) (c : Nat) (f : MF) : Prop := ∃ C g k, G.ca c = .ref C ∧ PySem.W.findIn G.K (.ref C) "__getitem__" = some (some (.ref g)) ∧ PySem.W.isFn G.K (.ref g) = true ∧ PySem.W.fnIn G.K g = true ∧ FnG G X.prog X.w X.mg X.base k g f ∧ Room (k + 1) X.A ∧ X.A.guards = some []
inductive GiTab (G : Glo) (X : Cx) : List (Nat × MF) → Prop
  | nil : GiTab G X []
  | cons {c : Nat} {k : MF} {r : List (Nat × MF)} (h : GiOk G X c k) (t : GiTab G X r) : GiTab G X ((c, k) :: r)
theorem GiTab.get {tab : List (Nat × MF)} (t : GiTab G X tab) {c : Nat} {k : MF} (h : tab.lookup c = some k) : GiOk G X c k := by
  induction t with
  | nil => cases h
  | @cons c' k' r h1 t ih =>
    by_cases e : c = c'
    · subst e
      have e2 : k' = k := by simpa [List.lookup] using h
      subst e2
      exact h1
    · have e' : (c == c') = false := by simpa using e
      exact ih (by simpa [List.lookup, e'] using h)
theorem ixm_o {b : Expr} {tab : List (Nat × MF)} {base : D → D → Sto → Res D} (ht : GiTab G X tab) (hb : IxM G X b base) (hsl : ∀ x i, subscripted b true (.ref x) i = runValue (.builtin "lifetime.subscript" ⟨[.ref x, i], []⟩) := by intro _ _; with_unfolding_all rfl) : IxM G X b (ixO tab base) := fun W ok value pins s σ H ρ S x y v u d e Q I rx ry rp rd re q => by
  unfold ixO at q
  split at q
  · rename_i c hc
    obtain ⟨n, a, C, dx, vs, l, rfl, el, rfl, en, hC, hsl', hrl⟩ := clsD_ok rp rd hc
    cases rx
    split at q
    · rename_i f hf
      obtain ⟨C', g, k, hC', fi, isf, fin, F, hr, hg⟩ := ht.get hf
      rw [hC] at hC'
      cases hC'
      rw [ok.kk] at fi isf fin
      obtain ⟨sl, od, _, J, _⟩ := SlX.slt_inst I hsl'
      obtain ⟨mf, Fr⟩ := I.fr
      exact PySem.W.sub_K Fr I.ok.mod.kin J fi fin isf (run_in1 (xs := [.ref a, y]) (us := [.ref a, u]) ok F hr hg I (.cons rfl (.cons ry .nil)) rp (.cons rd (.one re)) q) (hsl _ _)
    · exact q.elim
  · exact hb W ok value pins s σ H ρ S x y v u d e Q I rx ry rp rd re q
/-! ### d[k] = v -/
def okKey (l : List (D × D)) (k : D) : Bool := if isK l then atomB k || (l.isEmpty && keyTB k) else keyTB k
def stI (o i v : D) (S : Sto) : Option Sto := match o with
  | .loc n => (match S.get n with
    | some (.lst l) => (match i with
      | .int k => (match ixN l.length k with
        | some j => some (S.set n (.lst (l.set j v)))
        | none => none)
      | _ => none)
    | some (.dct 0 l) => if decide (l.length < 16777216) && okKey l i then some (S.set n (.dct 0 (putKD l i v))) else none
    | _ => none)
  | _ => none
def SetM (G : Glo) (X : Cx) (f : D → D → D → Sto → Option Sto) : Prop := G.K = X.K →
  ∀ (pins : List (Addr × Obj)) (s : Shared) (σ : L2.St) (H : Hp) (ρ : Rho) (S S' : Sto) (o i v : V) (ov iv u : Value) (od id vd : D), Inv X pins σ H s → RelV o ov → RelV i iv → RelV v u → Rep G ρ S H → RelD G ρ H od o → RelD G ρ H id i → RelD G ρ H vd v → f od id vd S = some S' →
    wpAny (model X.prog X.w) X.A (setItem ov iv u) (fun _ s' => ∃ H', Inv X pins σ H' s' ∧ Le G ρ H ρ H' ∧ Rep G ρ S' H') X.xe s
theorem set_i (hu : X.A.units + 1 < cLine) : SetM G X stI := fun kk pins s σ H ρ S S' o i v ov iv u od id vd I ro ri rv rp rod rid rvd h => by
  unfold stI at h
  split at h
  · rename_i n
    split at h
    · rename_i l el
      split at h
      · rename_i k
        split at h
        · rename_i j ej
          cases h
          obtain ⟨p, xs, rfl, e5, hH, ht⟩ := rp.list el rod
          simp only [RelD] at rid
          have w : Wr1 (H p) := by rw [hH]; exact trivial
          have lw := Le.upd (G := G) (ρ := ρ) (o := .lst (xs.set j v)) w.wr
          refine wpAny_mono (set_list pins s σ H _ _ v ov iv u (fun H' => H' = L2.upd H p (.lst (xs.set j v))) I ro ri rv ⟨p, xs, k, j, rfl, rid, hH, by rw [← ht.length]; exact ej, rfl⟩) (fun _ s' ⟨H', I', e⟩ => ?_) fun _ _ h => h
          subst e
          exact ⟨_, I', lw, rp.set (c' := .lst (l.set j vd)) el e5 w ⟨_, upd_same, (ht.mono lw).set (rvd.mono lw) j⟩⟩
        · cases h
      · cases h
    · rename_i l el
      split at h
      · rename_i hc
        cases h
        rw [Bool.and_eq_true, decide_eq_true_eq] at hc
        obtain ⟨hl, hk⟩ := hc
        simp only [RelD] at rod
        obtain ⟨a, en, rfl⟩ := rod
        cases ro
        obtain ⟨b, e2, c⟩ := rp.cell n _ el
        rw [en] at e2
        cases e2
        rcases c with ⟨kvs, hd, pk⟩ | ⟨hne, kvs, hd, pk⟩
        · have hd : H a = some (.dK kvs) := hd
          have w : Wr1 (H a) := by rw [hd]; exact trivial
          unfold okKey at hk
          rw [isK_pairK pk] at hk
          simp only [if_true] at hk
          rcases Bool.or_eq_true_iff.mp hk with ha | ha
          · obtain ⟨ky, eky⟩ := keyD_atom ha
            have ey : i = kV ky := by
              have := keyD_rel (G := G) (ρ := ρ) (H := H) eky
              cases id with
              | int i => simp only [RelD] at this rid; rw [rid, this]
              | str i => simp only [RelD] at this rid; rw [rid, this]
              | _ => cases ha
            subst ey
            have lw := Le.upd (G := G) (ρ := ρ) (o := .dK (putK kvs ky v)) w.wr
            refine d_setItem hu I (DPut.k hd (by rw [← (pk.get).1, sizeLine_eq]; exact hl)) ri rv fun s' I' => ⟨_, I', lw, rp.set el en w (Or.inl ⟨_, upd_same, ?_⟩)⟩
            exact (pk.mono lw).put keq_k eky (rvd.mono lw)
          · simp only [Bool.and_eq_true, List.isEmpty_iff] at ha
            obtain ⟨e0, ht⟩ := ha
            subst e0
            cases pk
            obtain ⟨ks, eks⟩ := keyT_all ht
            cases id with
            | tup m =>
              simp only [RelD] at rid
              obtain ⟨b, xs, rfl, hb, hr⟩ := rid
              have e4 : xs = ks.map kV := dGet_ok.relDs_det eks hr
              subst e4
              have nb : b ≠ a := fun z => by rw [z, hd] at hb; cases hb
              have I1 := turn_dT I hd
              refine d_setItem hu I1 (DPut.t upd_same (by rw [upd_ne nb]; exact hb) (by rw [sizeLine_eq]; decide)) ri rv fun s' I' => ?_
              have e5 : L2.upd (L2.upd H a (.dT [])) a (.dT (putK [] ks v)) = L2.upd H a (.dT (putK [] ks v)) := by
                funext z
                by_cases ez : z = a
                · rw [ez, upd_same, upd_same]
                · rw [upd_ne ez, upd_ne ez, upd_ne ez]
              rw [e5] at I'
              have lw := Le.upd (G := G) (ρ := ρ) (o := .dT (putK [] ks v)) w.wr
              exact ⟨_, I', lw, rp.set el en w (Or.inr ⟨putKD_ne _ _ _, _, upd_same, PairK.put keq_t eks (rvd.mono lw) (l := []) rfl⟩)⟩
            | _ => cases ht
        · have hd : H a = some (.dT kvs) := hd
          have w : Wr1 (H a) := by rw [hd]; exact trivial
          unfold okKey at hk
          rw [isK_pair hne pk] at hk
          simp only [Bool.false_eq_true, if_false] at hk
          obtain ⟨ks, eks⟩ := keyT_all hk
          cases id with
          | tup m =>
            simp only [RelD] at rid
            obtain ⟨b, xs, rfl, hb, hr⟩ := rid
            have e4 : xs = ks.map kV := dGet_ok.relDs_det eks hr
            subst e4
            have lw := Le.upd (G := G) (ρ := ρ) (o := .dT (putK kvs ks v)) w.wr
            exact d_setItem hu I (DPut.t hd hb (by rw [← (pk.get).1, sizeLine_eq]; exact hl)) ri rv fun s' I' => ⟨_, I', lw, rp.set el en w (Or.inr ⟨putKD_ne _ _ _, _, upd_same, (pk.mono lw).put keq_t eks (rvd.mono lw)⟩)⟩
          | _ => cases hk
      · cases h
    · cases h
  · cases h
def sStI (f : D → D → D → Sto → Option Sto) (o i v : ME) : MS := fun sd S => bindS (v sd S) sd fun d S1 => bindS (o sd S1) sd fun od S2 => bindS (i sd S2) sd fun id S3 => match f od id d S3 with
  | some S4 => .nx sd S4
  | none => .stuck
theorem ps_stI {f : D → D → D → Sto → Option Sto} {o i e : Expr} {mo mi me : ME} {pos spos : Pos} (hf : SetM G X f) (ho : PEm G X o mo) (hi : PEm G X i mi) (he : PEm G X e me)
    (hs : swapsWithSole [.Subscript o i spos] e pos.line X.env = pure false := by rfl) (hw : swappedStores [.Subscript o i spos] e X.env = pure none := by rfl)
    (h1 : (assignEach [.Subscript o i spos] X.env).map (·.2) = [assign (.Subscript o i spos) X.env] := by rfl)
    (ha : ∀ v, assign (.Subscript o i spos) X.env v = (do
      let ov ← holding [v] (eval o X.env)
      let iv ← holding [v, ov] (eval i X.env)
      standAt spos
      holding [v, ov, iv] (setItem ov iv v)
      release [v, ov, iv] []) := by intro _; rfl) : PSm G X (.Assign [.Subscript o i spos] e pos) (sStI f mo mi me) := fun W ok => by
  let T : TSet := fun x y z H Q => ∃ ρ S S' od id vd, Rep G ρ S H ∧ RelD G ρ H od x ∧ RelD G ρ H id y ∧ RelD G ρ H vd z ∧ f od id vd S = some S' ∧ ∀ H', Le G ρ H ρ H' → Rep G ρ S' H' → Q H'
  have ps : PSet X T := fun pins s σ H x y z ov iv u Q I ro ri rv ⟨ρ, S, S', od, id, vd, rp, r1, r2, r3, e, k⟩ =>
    wpAny_mono (hf ok.kk pins s σ H ρ S S' x y z ov iv u od id vd I ro ri rv rp r1 r2 r3 e) (fun _ s' ⟨H', I', le, rp'⟩ => ⟨H', I', k H' le rp'⟩) fun _ _ h => h
  refine PS_imp (ps_asg (he W ok) (pg_sub (ho W ok) (hi W ok) ps ha) hs hw h1) fun E σ H ⟨sd, S, ρ, hs, hr, h⟩ => ?_
  refine ⟨sd, S, ρ, hs, hr, AftS.bind h hs fun ρ1 H1 v d S1 le1 r1 rd h1 => ⟨sd, S1, ρ1, hs.mono le1, r1, AftS.bind h1 (hs.mono le1) fun ρ2 H2 ov od S2 le2 r2 rod h2 =>
    ⟨sd, S2, ρ2, (hs.mono le1).mono le2, r2, AftS.bind h2 ((hs.mono le1).mono le2) fun ρ3 H3 iv id S3 le3 r3 rid h3 => ?_⟩⟩⟩
  split at h3
  · rename_i S4 e4
    exact ⟨ρ3, S3, S4, od, id, d, r3, rod.mono le3, rid, (rd.mono le2).mono le3, e4, fun H' le rp => h3 ρ3 H' σ le rp ((((hs.mono le1).mono le2).mono le3).mono le)⟩
  · exact h3.elim
end
end Y

/-! Z6: dicts: get, displays, comprehensions, copies, lists of pairs; sorted, min, max, len; ==. -/
namespace Y
open PySem PySem.Spec PyProof.Rows L2
/-! ### sorting -/
def insI (x : Int) : List Int → List Int
  | [] => [x]
  | y :: r => if x ≤ y then x :: y :: r else y :: insI x r
def sortI : List Int → List Int
  | [] => []
  | x :: r => insI x (sortI r)
theorem insI_perm (x : Int) : ∀ l : List Int, (insI x l).Perm (x :: l)
  | [] => .refl _
  | y :: r => by
    unfold insI
    split
    · exact .refl _
    · exact ((insI_perm x r).cons y).trans (List.Perm.swap x y r)
theorem sortI_perm : ∀ l : List Int, (sortI l).Perm l
  | [] => .refl _
  | x :: r => (insI_perm x (sortI r)).trans ((sortI_perm r).cons x)
theorem insI_sorted (x : Int) : ∀ {l : List Int}, l.Pairwise (· ≤ ·) → (insI x l).Pairwise (· ≤ ·)
  | [], _ => by simp [insI]
  | y :: r, h => by
    rw [List.pairwise_cons] at h
    unfold insI
    split
    · rename_i hxy
      refine List.pairwise_cons.mpr ⟨fun z hz => ?_, List.pairwise_cons.mpr h⟩
      rcases List.mem_cons.mp hz with e | hz
      · rw [e]; exact hxy
      · exact Int.le_trans hxy (h.1 z hz)
    · rename_i hxy
      refine List.pairwise_cons.mpr ⟨fun z hz => ?_, insI_sorted x h.2⟩
      rcases List.mem_cons.mp ((insI_perm x r).mem_iff.mp hz) with e | hz
      · rw [e]; omega
      · exact h.1 z hz
theorem sortI_sorted : ∀ l : List Int, (sortI l).Pairwise (· ≤ ·)
  | [] => .nil
  | x :: r => insI_sorted x (sortI_sorted r)
theorem sorted_unique : ∀ {l m : List Int}, l.Perm m → l.Pairwise (· ≤ ·) → m.Pairwise (· ≤ ·) → l = m
  | [], m, p, _, _ => (List.Perm.nil_eq p)
  | x :: l, m, p, hl, hm => by
    cases m with
    | nil => exact absurd p.length_eq (by simp)
    | cons y m =>
      rw [List.pairwise_cons] at hl hm
      have h1 : y ∈ x :: l := p.mem_iff.mpr (List.mem_cons_self ..)
      have h2 : x ∈ y :: m := p.mem_iff.mp (List.mem_cons_self ..)
      have e : x = y := by
        rcases List.mem_cons.mp h1 with a | a
        · exact a.symm
        · rcases List.mem_cons.mp h2 with b | b
          · exact b
          · exact Int.le_antisymm (hl.1 y a) (hm.1 x b)
      subst e
      rw [sorted_unique ((List.perm_cons x).mp p) hl.2 hm.2]
theorem sortI_unique {l m : List Int} (p : m.Perm l) (h : m.Pairwise (· ≤ ·)) : m = sortI l := sorted_unique (p.trans (sortI_perm l).symm) h (sortI_sorted l)
section
variable {G : Glo} {X : Cx} {ρ : Rho} {H : Hp}
/-! ### get -/
theorem isDct_at {S : Sto} {d : D} {x : V} (rp : Rep G ρ S H) (rd : RelD G ρ H d x) (h : isDct d S = true) : ∃ a, x = .ref a ∧ IsD H a := by
  unfold isDct at h
  split at h
  · rename_i n
    split at h
    · rename_i lk l el
      simp only [RelD] at rd
      obtain ⟨a, en, rfl⟩ := rd
      obtain ⟨b, e2, c⟩ := rp.cell n _ el
      rw [en] at e2
      cases e2
      refine ⟨a, rfl, ?_⟩
      rcases c with ⟨kvs, hd, _⟩ | ⟨_, kvs, hd, _⟩
      · refine .inl ⟨kvs, ?_⟩
        cases lk with
        | zero => exact .inl hd
        | succ j => exact .inr hd
      · refine .inr ⟨kvs, ?_⟩
        cases lk with
        | zero => exact .inl hd
        | succ j => exact .inr hd
    · cases h
  · cases h
def mGet2 (o k x : ME) : ME := fun sd S => (o sd S).bind fun od S1 => if isDct od S1 then (k sd S1).bind fun kd S2 => (x sd S2).bind fun xd S3 => match dGet od kd S3 with
  | some (some v) => .ok v S3
  | some none => .ok xd S3
  | none => .stuck else .stuck
theorem pm_get2 {o e f : Expr} {mo me mf : ME} {apos cpos : Pos} (hu : X.A.units + 1 < cLine) (ho : PEm G X o mo) (he : PEm G X e me) (hf : PEm G X f mf) (m : M2 X o "get" apos e f cpos) : PEm G X (.Call (.Attribute o "get" apos) [e, f] [] cpos) (mGet2 mo me mf) := fun W ok => by
  refine ⟨fun pins s σ H Q I h => ?_⟩
  obtain ⟨sd, S, ρ, hs, hr, h⟩ := h
  let K3 : D → D → D → Sto → Res D := fun od kd xd S3 => match dGet od kd S3 with
    | some (some v) => .ok v S3
    | some none => .ok xd S3
    | none => .stuck
  have t : te G mo W σ H (fun x H1 => ∃ ρ1 S1 d, RelSt G ρ1 H1 sd σ ∧ Rep G ρ1 S1 H1 ∧ RelD G ρ1 H1 d x ∧ Aft G (RelD G) ρ1 H1 (if isDct d S1 then (me sd S1).bind fun kd S2 => (mf sd S2).bind fun xd S3 => K3 d kd xd S3 else .stuck) Q (fun c a H' => W c a σ H')) := ⟨sd, S, ρ, hs, hr, Aft.bind h fun ρ1 H1 x d S1 le1 r1 rd h1 => ⟨ρ1, S1, d, hs.mono le1, r1, rd, h1⟩⟩
  refine wpAny_Call_method m.base m.few m.line PySem.F.plainAttrs_dict PySem.F.slot_dict_get PySem.F.type_dict_get (thn ((ho W ok).run pins s σ H _ I t) fun u s1 ⟨x, H1, I1, rx, q1⟩ => ?_)
  obtain ⟨ρ1, S1, d, hs1, rp1, rd1, q⟩ := q1
  split at q
  · rename_i hd
    obtain ⟨a, rfl, isd⟩ := isDct_at rp1 rd1 hd
    cases rx
    obtain ⟨t1, t2, _⟩ := isD_at I1 isd
    refine ⟨t1, t2, ?_⟩
    rw [m.trees]
    have tk : te G me W σ H1 (fun y H2 => ∃ ρ2 S2 kd, RelSt G ρ2 H2 sd σ ∧ Rep G ρ2 S2 H2 ∧ RelD G ρ2 H2 d (.ref a) ∧ RelD G ρ2 H2 kd y ∧ Aft G (RelD G) ρ2 H2 ((mf sd S2).bind fun xd S3 => K3 d kd xd S3) Q (fun c a H' => W c a σ H')) := ⟨sd, S1, ρ1, hs1, rp1, Aft.bind q fun ρ2 H2 y kd S2 le2 r2 rk h2 => ⟨ρ2, S2, kd, hs1.mono le2, r2, rd1.mono le2, rk, h2⟩⟩
    refine Calls.callWith_builtin rfl (Calls.evalArgs_plain (Calls.spliced_cons (thn ((he W ok).run pins s1 σ H1 _ I1 tk) fun iv s2 ⟨y, H2, I2, ry, q2⟩ => ?_)))
    obtain ⟨ρ2, S2, kd, hs2, rp2, rd2, rk2, q2⟩ := q2
    have tx : te G mf W σ H2 (fun z H3 => ∃ ρ3 S3 xd, Rep G ρ3 S3 H3 ∧ RelD G ρ3 H3 d (.ref a) ∧ RelD G ρ3 H3 kd y ∧ RelD G ρ3 H3 xd z ∧ Aft G (RelD G) ρ3 H3 (K3 d kd xd S3) Q (fun c a H' => W c a σ H')) := ⟨sd, S2, ρ2, hs2, rp2, Aft.bind q2 fun ρ3 H3 z xd S3 le3 r3 rx3 h3 => ⟨ρ3, S3, xd, r3, rd2.mono le3, rk2.mono le3, rx3, h3⟩⟩
    refine Calls.spliced_cons (thn ((hf W ok).run pins s2 σ H2 _ I2 tx) fun fv s3 ⟨z, H3, I3, rz, q3⟩ => Calls.spliced_nil ?_)
    obtain ⟨ρ3, S3, xd, rp3, rd3, rk3, rx3, q3⟩ := q3
    simp only [K3] at q3
    split at q3
    · rename_i v ev
      obtain ⟨a', H', ov, ea, I', g, ro, back⟩ := dGet_ok I3 rp3 rd3 rk3 ev
      cases ea
      cases ov with
      | none => exact ro.elim
      | some w => exact d_get2 hu I' g ry rz fun w' s4 I4 rw' => ⟨w, H3, back s4 I4, rw', q3.ok rp3 ro⟩
    · rename_i ev
      obtain ⟨a', H', ov, ea, I', g, ro, back⟩ := dGet_ok I3 rp3 rd3 rk3 ev
      cases ea
      cases ov with
      | some w => exact ro.elim
      | none => exact d_get2 hu I' g ry rz fun w' s4 I4 rw' => ⟨z, H3, back s4 I4, rw', q3.ok rp3 rx3⟩
    · exact q3.elim
  · exact q.elim
/-! ### displays -/
def mergeKD (l : List (D × D)) : List (D × D) := l.foldl (fun acc p => putKD acc p.1 p.2) []
theorem merge_rel : ∀ {ps : List (D × D)} {kvs : List (Key × V)} {l : List (D × D)} {ms : List (Key × V)}, PairK keyD G ρ H ps kvs → PairK keyD G ρ H l ms → PairK keyD G ρ H (ps.foldl (fun acc p => putKD acc p.1 p.2) l) (mergeK ms kvs)
  | [], kvs, l, ms, h, h2 => by cases h; exact h2
  | p :: r, kvs, l, ms, h, h2 => by
    obtain ⟨k, v, zs, rfl, h1, h3, h4⟩ := h
    exact merge_rel (ps := r) (kvs := zs) (l := putKD l p.1 p.2) (ms := putK ms k v) h4 (h2.put keq_k h1 h3)
def mPairs : List (ME × ME) → SD → Sto → Res (List (D × D))
  | [], _, S => .ok [] S
  | (k, v) :: r, sd, S => (k sd S).bind fun kd S1 => (v sd S1).bind fun vd S2 => (mPairs r sd S2).bind fun ps S3 => .ok ((kd, vd) :: ps) S3
def atomsB (ps : List (D × D)) : Bool := ps.all fun p => atomB p.1
/-- the new dict stands empty while the pairs are made -/
def mDisp (ms : List (ME × ME)) : ME := fun sd S => (mPairs ms sd (S.new (.dct 0 []))).bind fun ps S1 => if atomsB ps && decide (ps.length ≤ 15) && isDct0 (.loc S.n) S1 then .ok (.loc S.n) (S1.set S.n (.dct 0 (mergeKD ps))) else .stuck
inductive PPm (G : Glo) (X : Cx) (pos : Pos) : List (Option Expr) → List Expr → List (ME × ME) → Prop
  | nil : PPm G X pos [] [] []
  | cons {k v : Expr} {ks : List (Option Expr)} {vs : List Expr} {mk mv : ME} {ms : List (ME × ME)} (hk : PEm G X k mk) (hv : PEm G X v mv) (r : PPm G X pos ks vs ms) : PPm G X pos (some k :: ks) (v :: vs) ((mk, mv) :: ms)
theorem PPm.pps {pos : Pos} {W : WX} (ok : XOk G X W) : ∀ {ks : List (Option Expr)} {vs : List Expr} {ms : List (ME × ME)}, PPm G X pos ks vs ms → PPs X pos ks vs (ms.map fun p => (te G p.1 W, te G p.2 W))
  | _, _, _, .nil => pps_nil
  | _, _, _, .cons hk hv r => pps_cons (hk W ok) (hv W ok) (r.pps ok)
def RelPs (G : Glo) (ρ : Rho) (H : Hp) : List (D × D) → List (V × V) → Prop
  | [], ys => ys = []
  | p :: r, ys => ∃ x y zs, ys = (x, y) :: zs ∧ RelD G ρ H p.1 x ∧ RelD G ρ H p.2 y ∧ RelPs G ρ H r zs
theorem RelPs.mono {ρ' : Rho} {H' : Hp} (le : Le G ρ H ρ' H') : ∀ {l : List (D × D)} {ys : List (V × V)}, RelPs G ρ H l ys → RelPs G ρ' H' l ys
  | [], _, h => h
  | p :: r, ys, h => let ⟨x, y, zs, e, h1, h2, h3⟩ := h; ⟨x, y, zs, e, h1.mono le, h2.mono le, RelPs.mono le h3⟩
theorem pairs_read {W : WX} {σ : L2.St} {sd : SD} : ∀ {ms : List (ME × ME)} {H : Hp} {ρ : Rho} {S : Sto} {Q : List (V × V) → Hp → Prop}, RelSt G ρ H sd σ → Rep G ρ S H → Aft G (RelPs G) ρ H (mPairs ms sd S) Q (fun c a H' => W c a σ H') → tPairs (ms.map fun p => (te G p.1 W, te G p.2 W)) σ H Q
  | [], H, ρ, S, Q, hs, hr, h => h.ok hr rfl
  | (k, v) :: r, H, ρ, S, Q, hs, hr, h => ⟨sd, S, ρ, hs, hr, Aft.bind h fun ρ1 H1 x kd S1 le1 r1 rk h1 => ⟨sd, S1, ρ1, hs.mono le1, r1, Aft.bind h1 fun ρ2 H2 y vd S2 le2 r2 rv h2 =>
      pairs_read ((hs.mono le1).mono le2) r2 (Aft.bind h2 fun ρ3 H3 ps pd S3 le3 r3 rps h3 => h3.ok r3 ⟨x, y, ps, rfl, (rk.mono le2).mono le3, rv.mono le3, rps⟩)⟩⟩
theorem relPs_keys : ∀ {ps : List (D × D)} {ys : List (V × V)}, atomsB ps = true → RelPs G ρ H ps ys → ∃ kvs : List (Key × V), ys = kvs.map (fun kv => (kV kv.1, kv.2)) ∧ PairK keyD G ρ H ps kvs
  | [], ys, _, h => by cases h; exact ⟨[], rfl, rfl⟩
  | p :: r, ys, ha, h => by
    obtain ⟨x, y, zs, rfl, h1, h2, h3⟩ := h
    unfold atomsB at ha
    rw [List.all_cons, Bool.and_eq_true] at ha
    obtain ⟨kvs, rfl, pk⟩ := relPs_keys (ps := r) ha.2 h3
    obtain ⟨k, ek⟩ := keyD_atom ha.1
    have ex : x = kV k := by
      have := keyD_rel (G := G) (ρ := ρ) (H := H) ek
      cases hp : p.1 with
      | int i => rw [hp] at this h1; simp only [RelD] at this h1; rw [h1, this]
      | str i => rw [hp] at this h1; simp only [RelD] at this h1; rw [h1, this]
      | _ => rw [hp] at ha; exact Bool.noConfusion ha.1
    subst ex
    exact ⟨(k, y) :: kvs, rfl, k, y, kvs, rfl, ek, h2, pk⟩
theorem pm_disp {keys : List (Option Expr)} {values : List Expr} {ms : List (ME × ME)} {pos : Pos} (h : PPm G X pos keys values ms) (hall : keys.all (·.isSome) = true := by rfl) (hl : keys.length = values.length := by rfl) (h0 : keys ≠ [] := by intro z; cases z) (h15 : keys.length ≤ 15 := by decide) :
    PEm G X (.Dict keys values pos) (mDisp ms) := fun W ok => PE_imp (pe_disp (h.pps ok) hall hl h0 h15) fun σ H Q ⟨sd, S, ρ, hs, hr, q⟩ => fun p hp => by
  have le : Le G ρ H (ext ρ S.n p) (L2.upd H p (.dK [])) := (Le.ext (hr.top _ (Nat.le_refl _))).trans (Le.same (same_new hp))
  refine pairs_read (hs.mono le) (hr.new (c := .dct 0 []) hp (Or.inl ⟨[], upd_same, rfl⟩)) (Aft.bind (Aft.le q le) fun ρ1 H1 ys ps S1 le1 r1 rps h1 => ?_)
  split at h1
  · rename_i hc
    simp only [Bool.and_eq_true, decide_eq_true_eq] at hc
    obtain ⟨⟨ha, h15'⟩, hd⟩ := hc
    have en : ρ1 S.n = some p := le1.rho _ _ ext_same
    simp only [isDct0] at hd
    split at hd
    · rename_i el
      obtain ⟨b, e2, c⟩ := r1.cell _ _ el
      rw [en] at e2
      cases e2
      rcases c with ⟨kv0, hH, pk0⟩ | ⟨hne, _⟩
      · have hH : H1 p = some (.dK kv0) := hH
        cases pk0
        obtain ⟨kvs, e3, pk⟩ := relPs_keys ha rps
        have w : Wr1 (H1 p) := by rw [hH]; exact trivial
        have lw := Le.upd (G := G) (ρ := ρ1) (o := .dK (mergeK [] kvs)) w.wr
        refine ⟨hH, kvs, e3, by rw [← (pk.get).1]; exact h15', h1 ρ1 _ _ lw (r1.set el en w (Or.inl ⟨_, upd_same, ?_⟩)) (RelD.loc' en)⟩
        exact merge_rel (pk.mono lw) rfl
      · exact absurd rfl hne
    · cases hd
  · exact h1.elim
end
end Y

/-! Z7: dict comprehensions; copies; lists of pairs; sorted, min, max, len; ==. -/
namespace Y
open PySem PySem.Spec PyProof.Rows L2
theorem call_sortedDA {X : Cx} (hcalm : X.calm = true) : CallR X (.builtin "sorted") (fun xs H Q => ∃ (a : Addr) (kvs : List (Key × V)) (ks : List Int), xs = [.ref a] ∧ Rd H a (.dK kvs) ∧ kvs.map (·.1) = ks.map Sum.inl ∧
    ∀ (ys : List Int) (p : Addr), ys.Perm ks → ys.Pairwise (· ≤ ·) → H p = none → Q (.ref p) (L2.upd H p (.lst (ys.map V.int)))) := by
  intro pins s σ H xs us Q I r q
  obtain ⟨a, kvs, ks, ex, hd, hks, q⟩ := q
  subst ex
  obtain ⟨u, eu, rx⟩ := vals1 r
  subst eu
  cases rx
  obtain ⟨z, lo, vs, rel, dd⟩ := dk_rd I.hok hd
  obtain ⟨ep, hat⟩ := dd.dictAt
  have hkeys : vs.map (·.1) = ks.map Sum.inl := rel.keys.symm.trans hks
  have hl : vs.length = ks.length := by simpa using congrArg List.length hkeys
  have h16 : vs.length ≤ sizeLine := by rw [← rel.length]; exact z
  refine Calls.call_function_entry PyProof.Rows.kind_sorted PyProof.Rows.plain_sorted PyProof.Rows.entry_sorted (PyProof.Rows.args_sorted1 _) ?_
  unfold Builtin.«sorted»
  refine wpAny_bind (m := checkCount "sorted" 1 1 _) (wpAny_pure ?_)
  refine wpAny_bind (PySem.W.kdu_collect (A := X.A.in1) (PySem.W.kdl_dict (knd := mixKind X.prog X.w) (kvs := vs) (ep := ep) lo) (I.ok.hd hcalm) hat h16 fun h' tk acc hk hacc => ?_)
  have hal : acc.toList.length = ks.length := by rw [Array.length_toList, hacc.1, hl]
  have hS : IntsAre acc.toList ks := ints_each hal fun j v e => by
    obtain ⟨k, x, e1, e2⟩ := hacc.2 j v (by rw [← Array.getElem?_toList]; exact e)
    have e3 : (vs.map (·.1))[j]? = some k := by rw [List.getElem?_map, e1]; rfl
    rw [hkeys, List.getElem?_map] at e3
    cases e4 : ks[j]? with
    | none => rw [e4] at e3; cases e3
    | some y =>
      rw [e4] at e3
      have e5 : Sum.inl y = k := Option.some.inj e3
      subst e5
      rcases keyIs_shape (show keyIs (Sum.inl y) v = true from e2) with ⟨i, t, ek, ev⟩ | ⟨z, t, ek, ev⟩
      · cases ek
        exact ⟨y, t, rfl, ev⟩
      · cases ek
  have I1 : Inv X pins σ H { s with heap := h', toks := tk } := I.kept hk
  have hzl : acc.toList.length ≤ sizeLine := by rw [hal, ← hl]; exact h16
  refine wpAny_bind (wpAny_newList ?_ hzl)
  have hoL : (h'.push (seqObj "list" acc.toList.toArray 0)).get? h'.objs.size = some (seqObj "list" acc.toList.toArray 0) := Heap.get?_push_size _ rfl
  show wpAny _ _ _ _ _ { s with heap := h'.push (seqObj "list" acc.toList.toArray 0), toks := tk }
  refine wpAny_bind (wpAny_holding (wpAny_call_entry PyProof.Rows.slot_list_sort ⟨_, hoL, rfl⟩ PyProof.Rows.entry_list_sort
    (SrtO.list_sort_ord (s := { s with heap := h'.push (seqObj "list" acc.toList.toArray 0), toks := tk }) SrtO.swo_int hoL hzl (fun h2 => SrtO.ints_sortable hS h2) fun out g1 g2 => ⟨_, rfl, ?_⟩) (PyProof.Rows.args_list_sort _)))
  obtain ⟨k1, k2, k3⟩ := SrtO.ints_out hS g1 g2
  obtain ⟨e', he'⟩ := PyProof.Rows.sortedHeap_at (vs := acc.toList) (out := out.toArray) hoL
  have hlen : ((out.map SrtO.iv).map V.int).length ≤ sizeLine := by
    rw [List.length_map, k2.length_eq, ← hal]
    exact hzl
  refine wpAny_pure ⟨_, rfl, .ref h'.objs.size, L2.upd H h'.objs.size (.lst ((out.map SrtO.iv).map V.int)), I1.laid (t' := tk) (fun b u e => ?_) (Nat.le_refl _) ⟨hlen, out, e', vals_of_ints k1, he'⟩, rfl, q _ _ k2 k3 (I1.hok.fresh (Nat.le_refl _))⟩
  rw [PyProof.Rows.sortedHeap_old (Nat.ne_of_lt (Heap.lt_size e)) (by rw [Heap.size_push]; exact Nat.lt_succ_of_lt (Heap.lt_size e))]
  exact Heap.get?_push_of_some _ e
def dcLoop (it : ItD) (t : Tg) (q : MT) (ek ev : ME) (sd : SD) (dl : Nat) : Nat → Nat → Sto → Res D
  | 0, _, _ => .stuck
  | n + 1, i, S => match itNext it i S with
    | none => .stuck
    | some none => .ok (.loc dl) S
    | some (some d) => match asg t d sd with
      | none => .stuck
      | some sd1 => (q sd1 S).bindX fun k S1 => if k then (ek sd1 S1).bindX fun y S2 => (ev sd1 S2).bindX fun z S3 => (match S3.get dl with
          | some (.dct 0 acc) => if decide (acc.length < 16777216) && atomB y && isK acc then dcLoop it t q ek ev sd dl n (i + 1) (S3.set dl (.dct 0 (putKD acc y z))) else .stuck
          | _ => .stuck) else dcLoop it t q ek ev sd dl n (i + 1) S1
def mDc (mi : MI) (t : Tg) (q : MT) (ek ev : ME) (vs : List Nat) : ME := fun sd S => (mi sd S).bind fun it S1 => dcLoop it t q ek ev (wipeD sd vs) S1.n (itLen it S1 + 1) 0 (S1.new (.dct 0 []))
section
variable {G : Glo} {X : Cx} {ρ : Rho} {H : Hp}
theorem atom_kV {d : D} {y : V} (ha : atomB d = true) (rd : RelD G ρ H d y) : ∃ k, keyD d = some k ∧ y = kV k := by
  obtain ⟨k, ek⟩ := keyD_atom ha
  have := keyD_rel (G := G) (ρ := ρ) (H := H) ek
  refine ⟨k, ek, ?_⟩
  cases d with
  | int i => simp only [RelD] at this rd; rw [rd, this]
  | str i => simp only [RelD] at this rd; rw [rd, this]
  | _ => cases ha
theorem dct0_at {S : Sto} {n : Nat} {l : List (D × D)} {a : Addr} (rp : Rep G ρ S H) (el : S.get n = some (.dct 0 l)) (en : ρ n = some a) (hk : isK l = true) : ∃ kvs, H a = some (.dK kvs) ∧ PairK keyD G ρ H l kvs := by
  obtain ⟨b, e2, c⟩ := rp.cell n _ el
  rw [en] at e2
  cases e2
  rcases c with ⟨kvs, hd, pk⟩ | ⟨hne, kvs, hd, pk⟩
  · exact ⟨kvs, hd, pk⟩
  · rw [isK_pair hne pk] at hk
    cases hk
theorem dc_read {mi : MI} {t : Tg} {q : MT} {ek ev : ME} {W : WX} {vs : List Nat} (kk : G.K = X.K) (hv : ∀ j ∈ t.slots, j ∈ vs) {σ : L2.St} {H : Hp} {Q : VK} (h : te G (mDc mi t q ek ev vs) W σ H Q) : tDc (ti G mi W) (gOf X.K t) (tt G q Wno) (te G ek Wno) (te G ev Wno) vs σ H Q := by
  obtain ⟨sd, S, ρ, hs, hr, h⟩ := h
  refine ⟨sd, S, ρ, hs, hr, Aft.bind h fun ρ1 H1 J it S1 le1 r1 ij h1 => fun Dd hD => ?_⟩
  have leD : Le G ρ1 H1 (ext ρ1 S1.n Dd) (L2.upd H1 Dd (.dK [])) := (Le.ext (r1.top _ (Nat.le_refl _))).trans (Le.same (same_new hD))
  have hs1 := hs.mono (le1.trans leD)
  refine ⟨fun i m2 H => ∃ S ρ, Le G (ext ρ1 S1.n Dd) (L2.upd H1 Dd (.dK [])) ρ H ∧ Rep G ρ S H ∧ Aft G (RelD G) ρ H (dcLoop it t q ek ev (wipeD sd vs) S1.n m2 i S) Q (fun c d H' => W c d σ H'),
    ⟨_, _, _, Le.refl, r1.new (c := .dct 0 []) hD (Or.inl ⟨[], upd_same, rfl⟩), h1.le leD⟩, fun i m2 H2 ⟨S2, ρ2, le2, r2, h2⟩ => ?_⟩
  have hsw : RelSt G ρ2 H2 (wipeD sd vs) (L2.wipe σ vs) := (hs1.mono le2).wipe vs
  have hρD : ρ2 S1.n = some Dd := le2.rho _ _ ext_same
  cases m2 with
  | zero => exact h2.elim
  | succ m2 =>
    have ij2 := ij i ρ2 H2 S2 (leD.trans le2) r2
    simp only [dcLoop] at h2
    split at h2
    · exact h2.elim
    · rename_i en
      rw [en] at ij2
      exact .inl ⟨ij2, h2.ok r2 (RelD.loc' hρD)⟩
    · rename_i d en
      rw [en] at ij2
      obtain ⟨hgo, hy⟩ := ij2
      refine .inr ⟨hgo, _, fun H' hn => ⟨m2, Nat.lt_succ_self m2, hn⟩, fun x H3 hx => ?_⟩
      obtain ⟨l3, r3, rd⟩ := hy x H3 hx
      split at h2
      · exact h2.elim
      · rename_i sd1 ea
        refine gOf_ok kk rd (hsw.mono l3) ea fun σ2 s2 k2 => ?_
        refine ⟨(wipe_eq k2 hv).trans wipe_twice, sd1, S2, ρ2, s2, r3, ?_⟩
        refine Aft.bindX (h2.le l3) fun ρ4 H4 b k S4 l4 r4 eb h4 => ?_
        have eb : k = b := eb
        subst eb
        cases k with
        | false => exact ⟨S4, ρ4, (le2.trans l3).trans l4, r4, h4⟩
        | true =>
          refine ⟨sd1, S4, ρ4, s2.mono l4, r4, Aft.bindX h4 fun ρ5 H5 v y S5 l5 r5 rv h5 => ?_⟩
          refine ⟨sd1, S5, ρ5, (s2.mono l4).mono l5, r5, Aft.bindX h5 fun ρ6 H6 v2 z S6 l6 r6 rv2 h6 => ?_⟩
          split at h6
          · rename_i acc eacc
            split at h6
            · rename_i hc
              simp only [Bool.and_eq_true, decide_eq_true_eq] at hc
              obtain ⟨⟨hlen, ha⟩, hk⟩ := hc
              have hρ6 : ρ6 S1.n = some Dd := l6.rho _ _ (l5.rho _ _ (l4.rho _ _ hρD))
              obtain ⟨kvs, hH, pk⟩ := dct0_at r6 eacc hρ6 hk
              obtain ⟨ky, eky, ey⟩ := atom_kV ha rv
              have w : Wr1 (H6 Dd) := by rw [hH]; exact trivial
              have lw := Le.upd (G := G) (ρ := ρ6) (o := .dK (putK kvs ky v2)) w.wr
              exact ⟨kvs, ky, ey, hH, by rw [← (pk.get).1, sizeLine_eq]; exact hlen, _, ρ6, ((((le2.trans l3).trans l4).trans l5).trans l6).trans lw, r6.set (c' := .dct 0 (putKD acc y z)) eacc hρ6 w (Or.inl ⟨_, upd_same, (pk.mono lw).put keq_k eky (rv2.mono lw)⟩), h6.le lw⟩
            · exact h6.elim
          · exact h6.elim
theorem pm_dc {kx vx tg iter : Expr} {ifs : List Expr} {scope : Scope} {own : List (Str × Nat)} {pos : Pos} {mi : MI} {t : Tg} {q : MT} {mk mv : ME} (hc : X.calm = true) (hN : X.N.Nodup) (hi : PIm G X tg iter mi) (ok : BlkOk X.N X.env.scope scope own)
    (hg : ∀ (s : Shared) (H : Hp) (C : Addr) (cl : List (Str × Addr)) (fp : List Addr), PG (X.blk s H scope (compEnvC scope cl C X.env) fp) tg (gOf X.K t)) (ht : ∀ (s : Shared) (H : Hp) (C : Addr) (cl : List (Str × Addr)) (fp : List Addr), PTsm G (X.blk s H scope (compEnvC scope cl C X.env) fp) ifs q)
    (hk : ∀ (s : Shared) (H : Hp) (C : Addr) (cl : List (Str × Addr)) (fp : List Addr), PEm G (X.blk s H scope (compEnvC scope cl C X.env) fp) kx mk)
    (he : ∀ (s : Shared) (H : Hp) (C : Addr) (cl : List (Str × Addr)) (fp : List Addr), PEm G (X.blk s H scope (compEnvC scope cl C X.env) fp) vx mv) (hv : ∀ j ∈ t.slots, j ∈ own.map (·.2) := by decide) (hs : ∀ x, foldedSetIterable iter X.env x = pure x := by intro _; rfl) :
    PEm G X (.DictComp kx vx [⟨tg, iter, ifs, 0⟩] scope pos) (mDc mi t q mk mv (own.map (·.2))) := fun W xk =>
  PE_imp (L2.pe_dc hc hN (hi W xk) ok hg (fun s H C cl fp => ht s H C cl fp Wno (blk_ok xk.kk)) (fun s H C cl fp => hk s H C cl fp Wno (blk_ok xk.kk)) (fun s H C cl fp => he s H C cl fp Wno (blk_ok xk.kk)) hs) fun σ H Q h => dc_read xk.kk hv h
/-- name = {..: .. for ..} on one row -/
theorem ps_setDc {i : Nat} {y : Str} {py : Pos} {kx vx tg iter : Expr} {ifs : List Expr} {scope : Scope} {own : List (Str × Nat)} {pos spos : Pos} {wi : TI} {g : TG} {tt : TT} {tk tv : TE} (hc : X.calm = true) (hN : X.N.Nodup) (hy : X.N[i]? = some y) (hyl : X.env.scope.names.lookup y = some .local)
    (hsw : swapsWith (.DictComp kx vx [⟨tg, iter, ifs, 0⟩] scope pos) (some (.Name y py)) spos.line X.env = pure true) (hi : PI X tg iter wi) (ok : BlkOk X.N X.env.scope scope own)
    (hg : ∀ (s : Shared) (H : Hp) (C : Addr) (cl : List (Str × Addr)) (fp : List Addr), PG (X.blk s H scope (compEnvC scope cl C X.env) fp) tg g) (ht : ∀ (s : Shared) (H : Hp) (C : Addr) (cl : List (Str × Addr)) (fp : List Addr), PTs (X.blk s H scope (compEnvC scope cl C X.env) fp) ifs tt)
    (hk : ∀ (s : Shared) (H : Hp) (C : Addr) (cl : List (Str × Addr)) (fp : List Addr), PE (X.blk s H scope (compEnvC scope cl C X.env) fp) kx tk) (he : ∀ (s : Shared) (H : Hp) (C : Addr) (cl : List (Str × Addr)) (fp : List Addr), PE (X.blk s H scope (compEnvC scope cl C X.env) fp) vx tv) (hs : ∀ x, foldedSetIterable iter X.env x = pure x := by intro _; rfl) :
    PS X (.Assign [.Name y py] (.DictComp kx vx [⟨tg, iter, ifs, 0⟩] scope pos) spos) (tAsg (tDc wi g tt tk tv (own.map (·.2))) (gName i)) := by
  refine ⟨fun pins s σ H D I h => ?_⟩
  rw [exec_Assign_Name_used _ _ _ _ hsw]
  refine wpAny_bind (wpAny_standAt (wpAny_bind ?_))
  show wpAny _ X.A (do let _ ← comprehension (.DictComp kx vx [⟨tg, iter, ifs, 0⟩] scope pos) scope X.env (firstIterPos [⟨tg, iter, ifs, 0⟩] pos) newDict false (eval iter X.env) (some (assign (.Name y py) X.env))) _ _ s
  have h : tDc wi g tt tk tv (own.map (·.2)) σ H (fun x H1 => gName i x σ H1 D.nx) := h
  refine wpAny_bind (thn (dc_core (Qf := fun _ s' => SP X pins D .next s') hc hN I hi ok hg ht hk he hs h fun L C s' m H' I' q hn f => ?_) fun _ s' hq => wpAny_pure (wpAny_pure hq))
  show wpAny _ _ (assign (.Name y py) X.env (.ref L)) _ _ _
  refine wpAny_assign_Name (store_ok2 (v := V.ref L) I' hN hy (.inl hyl) rfl (fun s2 I2 ⟨a, sb, ha⟩ => ?_) (.inr hyl))
  obtain ⟨f0, f1, f2, f3, f4, f5⟩ := f
  have haC : C ≠ a := by
    rcases ha with z | z
    · rw [z]; exact f1
    · exact fun e => f4 y a z e.symm
  refine ⟨m, hn.sameBut sb haC, fun h3 sb3 => ?_⟩
  exact ⟨_, H', I2.turned (t' := s2.toks) (fun b o hb e => (sb3.2 b hb).trans e) f0 f1 f3 f4 f5, q⟩
theorem sw_trueD {kx vx : Expr} {gs : List Comprehension} {scope : Scope} {pos py : Pos} {y : Str} {l : Nat} {env : Env} (hk : env.scope.kind = .function) (hy : env.scope.names.lookup y = some .local) (hl : (py.line == pos.line) = true)
    (ha : (scope.names.any fun (n, k) => n == y && (k == .local || k == .cell)) = false) : swapsWith (.DictComp kx vx gs scope pos) (some (.Name y py)) l env = pure true := by
  have ky : env.kindOf y = some .local := hy
  have hb : env.blockKind = .function := by unfold Env.blockKind; rw [hk]; rfl
  unfold swapsWith
  simp only [hb, ky, ha, Expr.pos, hl]
  rfl
theorem ps_setDcm {i : Nat} {y : Str} {py spos : Pos} {kx vx tg iter : Expr} {ifs : List Expr} {scope : Scope} {own : List (Str × Nat)} {pos : Pos} {mi : MI} {t : Tg} {q : MT} {mk mv : ME} (hc : X.calm = true) (hN : X.N.Nodup) (hi : PIm G X tg iter mi) (ok : BlkOk X.N X.env.scope scope own)
    (hg : ∀ (s : Shared) (H : Hp) (C : Addr) (cl : List (Str × Addr)) (fp : List Addr), PG (X.blk s H scope (compEnvC scope cl C X.env) fp) tg (gOf X.K t)) (ht : ∀ (s : Shared) (H : Hp) (C : Addr) (cl : List (Str × Addr)) (fp : List Addr), PTsm G (X.blk s H scope (compEnvC scope cl C X.env) fp) ifs q)
    (hk : ∀ (s : Shared) (H : Hp) (C : Addr) (cl : List (Str × Addr)) (fp : List Addr), PEm G (X.blk s H scope (compEnvC scope cl C X.env) fp) kx mk)
    (he : ∀ (s : Shared) (H : Hp) (C : Addr) (cl : List (Str × Addr)) (fp : List Addr), PEm G (X.blk s H scope (compEnvC scope cl C X.env) fp) vx mv) (hv : ∀ j ∈ t.slots, j ∈ own.map (·.2) := by decide) (hs : ∀ x, foldedSetIterable iter X.env x = pure x := by intro _; rfl)
    (hy : X.N[i]? = some y := by rfl) (hyl : X.env.scope.names.lookup y = some .local := by rfl) (hsw : swapsWith (.DictComp kx vx [⟨tg, iter, ifs, 0⟩] scope pos) (some (.Name y py)) spos.line X.env = pure true := by exact sw_trueD rfl rfl rfl (by decide +kernel)) :
    PSm G X (.Assign [.Name y py] (.DictComp kx vx [⟨tg, iter, ifs, 0⟩] scope pos) spos) (sSet i (mDc mi t q mk mv (own.map (·.2)))) := fun W xk =>
  PS_imp (ps_setDc hc hN hy hyl hsw (hi W xk) ok hg (fun s H C cl fp => ht s H C cl fp Wno (blk_ok xk.kk)) (fun s H C cl fp => hk s H C cl fp Wno (blk_ok xk.kk)) (fun s H C cl fp => he s H C cl fp Wno (blk_ok xk.kk)) hs) fun E σ H ⟨sd, S, ρ, hs, hr, h⟩ =>
    dc_read xk.kk hv ⟨sd, S, ρ, hs, hr, AftS.bind h hs fun ρ1 H1 v d S1 le r1 rd h1 => h1 ρ1 H1 _ Le.refl r1 ((hs.mono le).set rd i)⟩
/-! ### dict(..) -/
def pairsD : List D → Option (List (D × D))
  | [] => some []
  | .tup [k, v] :: r => if atomB k then (pairsD r).map ((k, v) :: ·) else none
  | _ => none
def fDict : MF
  | [.loc n], S => (match S.get n with
    | some (.dct _ l) => if isK l then .ok (.loc S.n) (S.new (.dct 0 l)) else .stuck
    | some (.lst l) => (match pairsD l with
      | some ps => .ok (.loc S.n) (S.new (.dct 0 (mergeKD ps)))
      | none => .stuck)
    | _ => .stuck)
  | _, _ => .stuck
theorem pairsD_rel {K : PySem.W.Frag} : ∀ {l : List D} {ps : List (D × D)} {xs : List V}, pairsD l = some ps → RelDs G ρ H l xs → ∃ (as : List Addr) (kvs : List (Key × V)), xs = as.map V.ref ∧ Paired (fun p kv => SqT K H p [kV kv.1, kv.2]) as kvs ∧ PairK keyD G ρ H ps kvs
  | [], ps, xs, e, h => by
    simp only [pairsD, Option.some.injEq] at e
    subst e
    simp only [RelDs] at h
    subst h
    exact ⟨[], [], rfl, .nil, rfl⟩
  | d :: l, ps, xs, e, h => by
    match d, e with
    | .tup [k, v], e =>
      simp only [pairsD] at e
      split at e
      · rename_i ha
        obtain ⟨ps', e1, rfl⟩ := Option.map_eq_some_iff.mp e
        simp only [RelDs] at h
        obtain ⟨x, ys, rfl, h1, h2⟩ := h
        obtain ⟨as, kvs, rfl, p1, p2⟩ := pairsD_rel (K := K) e1 h2
        simp only [RelD, RelDs] at h1
        obtain ⟨a, zs, rfl, hz, y1, _, rfl, r1, y2, _, rfl, r2, rfl⟩ := h1
        obtain ⟨ky, eky, rfl⟩ := atom_kV ha r1
        exact ⟨a :: as, (ky, y2) :: kvs, rfl, .cons (.inl (.inl hz)) p1, ky, y2, kvs, rfl, eky, r2, p2⟩
      · cases e
theorem cm_dict (hcalm : X.calm = true) : CallM G X (.type "dict") fDict := fun W ok pins s σ H ρ S xs us ds Q I r rp rd q => by
  unfold fDict at q
  split at q
  · rename_i n
    simp only [RelDs] at rd
    obtain ⟨v, _, rfl, rd, rfl⟩ := rd
    split at q
    · rename_i lk l el
      split at q
      · rename_i hk
        simp only [RelD] at rd
        obtain ⟨a, en, rfl⟩ := rd
        obtain ⟨b, e2, c⟩ := rp.cell n _ el
        rw [en] at e2
        cases e2
        rcases c with ⟨kvs, hd, pk⟩ | ⟨hne, kvs, hd, pk⟩
        · have hrd : Rd H a (.dK kvs) := by
            cases lk with
            | zero => exact .inl hd
            | succ j => exact .inr hd
          refine call_dictD pins s σ H _ us Q I r ⟨a, kvs, rfl, hrd, fun p hp => ?_⟩
          have le : Le G ρ H (ext ρ S.n p) (L2.upd H p (.dK kvs)) := (Le.ext (rp.top _ (Nat.le_refl _))).trans (Le.same (same_new hp))
          exact q _ _ _ le (rp.new (c := .dct 0 l) hp (Or.inl ⟨kvs, upd_same, pk.mono le⟩)) (RelD.loc' ext_same)
        · rw [isK_pair hne pk] at hk
          cases hk
      · exact q.elim
    · rename_i l el
      split at q
      · rename_i ps eps
        obtain ⟨a, ys, rfl, en, hH, ht⟩ := rp.list el rd
        obtain ⟨as, kvs, rfl, p1, p2⟩ := pairsD_rel (K := X.K) eps ht
        refine call_dictP hcalm pins s σ H _ us Q I r ⟨a, as, kvs, rfl, .inl (.inl hH), p1, fun p hp => ?_⟩
        have le : Le G ρ H (ext ρ S.n p) (L2.upd H p (.dK (mergeK [] kvs))) := (Le.ext (rp.top _ (Nat.le_refl _))).trans (Le.same (same_new hp))
        exact q _ _ _ le (rp.new (c := .dct 0 (mergeKD ps)) hp (Or.inl ⟨_, upd_same, merge_rel (p2.mono le) rfl⟩)) (RelD.loc' ext_same)
      · exact q.elim
    · exact q.elim
  · exact q.elim
/-! ### list(d.items()) -/
def itemsD (l : List (D × D)) : List D := l.map fun p => .tup [p.1, p.2]
def fItems (d : D) (S : Sto) : Res D := match d with
  | .loc n => (match S.get n with
    | some (.dct 0 l) => if isK l then .ok (.loc S.n) (S.new (.lst (itemsD l))) else .stuck
    | _ => .stuck)
  | _ => .stuck
theorem items_rel : ∀ {l : List (D × D)} {kvs : List (Key × V)} {ts : List Addr} {H' : Hp} {ρ' : Rho}, PairK keyD G ρ' H' l kvs → Paired (fun (t : Addr) (q : Key × V) => H' t = some (.tup [kV q.1, q.2])) ts kvs → RelDs G ρ' H' (itemsD l) (ts.map V.ref)
  | [], kvs, ts, H', ρ', h, p => by cases h; cases p; exact .nil
  | p :: r, kvs, ts, H', ρ', h, q => by
    obtain ⟨k, v, zs, rfl, h1, h2, h3⟩ := h
    cases q with
    | cons q1 q2 => exact .cons (RelD.tup' q1 (.cons (keyD_rel h1) (.one h2))) (items_rel h3 q2)
theorem pm_listItems {e : Expr} {m : ME} {p pos apos cpos : Pos} (hc : X.calm = true) (he : PEm G X e m) (hg : Gl X "list") (hm : X.mg "list" = none) (hv : bootBuiltins "list" = some (.type "list") := by decide +kernel) (hbase : attributeBase e "items" X.env (eval e X.env) = eval e X.env := by rfl) (hline : (apos.endLine == cpos.line) = true := by rfl)
    (hs : starEach [.Call (.Attribute e "items" apos) [] [] cpos] X.env = (false, eval (.Call (.Attribute e "items" apos) [] [] cpos) X.env) :: starEach [] X.env := by rfl) :
    PEm G X (.Call (.Name "list" p) [.Call (.Attribute e "items" apos) [] [] cpos] [] pos) (mUn fItems m) := fun W ok => PE_imp (LiI.pe_listItems hc (he W ok) hg hm hv hbase hline hs) fun σ H Q ⟨sd, S, ρ, hs, hr, h⟩ =>
  ⟨sd, S, ρ, hs, hr, Aft.bind h fun ρ1 H1 x d S1 le1 r1 rd h1 => by
    unfold fItems at h1
    split at h1
    · rename_i n
      split at h1
      · rename_i l el
        split at h1
        · rename_i hk
          simp only [RelD] at rd
          obtain ⟨a, en, rfl⟩ := rd
          obtain ⟨kvs, hH, pk⟩ := dct0_at r1 el en hk
          refine ⟨a, kvs, rfl, hH, fun H' p ts hsame hp hts hpts hl hpair => ?_⟩
          have le : Le G ρ1 H1 (ext ρ1 S1.n p) H' := (Le.ext (r1.top _ (Nat.le_refl _))).trans (Le.same hsame)
          have eH : L2.upd H' p (.lst (ts.map V.ref)) = H' := by
            funext b
            by_cases eb : b = p
            · rw [eb, upd_same, hl]
            · rw [upd_ne eb]
          have rp2 : Rep G (ext ρ1 S1.n p) (S1.new (.lst (itemsD l))) H' := by
            have hn : ρ1 S1.n = none := r1.top _ (Nat.le_refl _)
            have rs := r1.same hsame
            refine ⟨fun i c e => ?_, fun i j b e1 e2 => ?_, fun i hi => ?_, fun i b e => ?_⟩
            · rw [Sto.get_new] at e
              split at e
              · rename_i z
                cases e
                exact ⟨p, by rw [z]; exact ext_same, _, hl, items_rel (pk.mono le) hpair⟩
              · obtain ⟨b, e1, q1⟩ := r1.cell i c e
                exact ⟨b, le.rho _ _ e1, q1.keep le (fun o h => hsame _ _ h) fun dx gs h => hsame _ _ h⟩
            · by_cases h1 : i = S1.n
              · by_cases h2 : j = S1.n
                · rw [h1, h2]
                · rw [h1, ext_same] at e1
                  rw [ext_ne h2] at e2
                  cases e1
                  obtain ⟨o, z⟩ := r1.dom j p e2
                  rw [hp] at z
                  cases z
              · rw [ext_ne h1] at e1
                by_cases h2 : j = S1.n
                · rw [h2, ext_same] at e2
                  cases e2
                  obtain ⟨o, z⟩ := r1.dom i p e1
                  rw [hp] at z
                  cases z
                · rw [ext_ne h2] at e2
                  exact r1.inj i j b e1 e2
            · rw [ext_ne (by show i ≠ S1.n; have : S1.n + 1 ≤ i := hi; omega)]
              exact r1.top i (by have : S1.n + 1 ≤ i := hi; omega)
            · by_cases h1 : i = S1.n
              · rw [h1, ext_same] at e
                cases e
                exact ⟨_, hl⟩
              · rw [ext_ne h1] at e
                exact rs.dom i b e
          exact h1 _ _ _ le rp2 (RelD.loc' ext_same)
        · exact h1.elim
      · exact h1.elim
    · exact h1.elim⟩
/-! ### sorted, min, max, len -/
def intKeys : List (D × D) → Option (List Int)
  | [] => some []
  | (.int i, _) :: r => (intKeys r).map (i :: ·)
  | _ => none
theorem intKeys_rel : ∀ {l : List (D × D)} {ks : List Int} {kvs : List (Key × V)}, intKeys l = some ks → PairK keyD G ρ H l kvs → kvs.map (·.1) = ks.map Sum.inl
  | [], ks, kvs, e, h => by
    simp only [intKeys, Option.some.injEq] at e
    subst e
    cases h
    rfl
  | (d, x) :: l, ks, kvs, e, h => by
    cases d with
    | int i =>
      simp only [intKeys] at e
      obtain ⟨ks', e1, rfl⟩ := Option.map_eq_some_iff.mp e
      obtain ⟨k, v, zs, rfl, h1, h2, h3⟩ := h
      cases h1
      rw [List.map_cons, intKeys_rel e1 h3]
      rfl
    | _ => simp only [intKeys] at e; cases e
theorem intKeys_isK {l : List (D × D)} {ks : List Int} (h : intKeys l = some ks) : isK l = true := by
  cases l with
  | nil => rfl
  | cons p r =>
    obtain ⟨d, x⟩ := p
    cases d with
    | int i => rfl
    | _ => simp only [intKeys] at h; cases h
def fSorted : MF
  | [.loc n], S => (match S.get n with
    | some (.dct 0 l) => (match intKeys l with
      | some ks => .ok (.loc S.n) (S.new (.lst ((sortI ks).map D.int)))
      | none => .stuck)
    | some (.lst l) => (match intsD l with
      | some ns => .ok (.loc S.n) (S.new (.lst ((sortI ns).map D.int)))
      | none => .stuck)
    | _ => .stuck)
  | _, _ => .stuck
theorem cm_sorted (hcalm : X.calm = true) : CallM G X (.builtin "sorted") fSorted := fun W ok pins s σ H ρ S xs us ds Q I r rp rd q => by
  unfold fSorted at q
  split at q
  · rename_i n
    simp only [RelDs] at rd
    obtain ⟨v, _, rfl, rd, rfl⟩ := rd
    split at q
    · rename_i l el
      split at q
      · rename_i ks eks
        simp only [RelD] at rd
        obtain ⟨a, en, rfl⟩ := rd
        obtain ⟨kvs, hH, pk⟩ := dct0_at rp el en (intKeys_isK eks)
        refine call_sortedDA hcalm pins s σ H _ us Q I r ⟨a, kvs, ks, rfl, .inl hH, intKeys_rel eks pk, fun ys p perm up hp => ?_⟩
        cases sortI_unique perm up
        have le : Le G ρ H (ext ρ S.n p) (L2.upd H p (.lst ((sortI ks).map V.int))) := (Le.ext (rp.top _ (Nat.le_refl _))).trans (Le.same (same_new hp))
        exact q _ _ _ le (rp.new (c := .lst ((sortI ks).map D.int)) hp ⟨_, upd_same, RelDs.ints _⟩) (RelD.loc' ext_same)
      · exact q.elim
    · rename_i l el
      split at q
      · rename_i ns ens
        obtain ⟨a, ys, rfl, en, hH, ht⟩ := rp.list el rd
        cases ints_rel ens ht
        refine cr_sortedI pins s σ H _ us Q I r ⟨a, ns, rfl, .inl (.inl hH), fun ys p perm up hp => ?_⟩
        cases sortI_unique perm up
        have le : Le G ρ H (ext ρ S.n p) (L2.upd H p (.lst ((sortI ns).map V.int))) := (Le.ext (rp.top _ (Nat.le_refl _))).trans (Le.same (same_new hp))
        exact q _ _ _ le (rp.new (c := .lst ((sortI ns).map D.int)) hp ⟨_, upd_same, RelDs.ints _⟩) (RelD.loc' ext_same)
      · exact q.elim
    · exact q.elim
  · exact q.elim
end
end Y

/-! Z8: min, max, len; dicts compared; f-strings; or, and of any values; unpacked lists. -/
namespace Y
open PySem PySem.Spec PyProof.Rows L2
/-- max(d), d a dict with int keys -/
theorem call_maxK {X : Cx} (hc : X.calm = true) : CallR X (.builtin "max") (fun vs H Q => ∃ (a : Addr) (kvs : List (Key × V)) (is : List Int), vs = [V.ref a] ∧ H a = some (.dK kvs) ∧ kvs.map (·.1) = is.map Sum.inl ∧ is ≠ [] ∧ ∀ m, m ∈ is → (∀ j ∈ is, j ≤ m) → Q (.int m) H) := by
  intro pins s σ H vs us Q I r h
  obtain ⟨a, kvs, is, rfl, ha, hv, hne, q⟩ := h
  rw [Vals.ref1 r]
  obtain ⟨_, hsys, vs, rel, dof⟩ := dk_of I.hok ha
  obtain ⟨ep, dat⟩ := dof.dictAt
  obtain ⟨ob, es, ho, hex, hdat, hko, hpr, hnd⟩ := id dat
  have hlt : a < s.heap.objs.size := Heap.lt_size ho
  have hkeys : vs.map (·.1) = is.map Sum.inl := (KV.keys rel).symm.trans hv
  have hlv : vs.length = is.length := by simpa using congrArg List.length hkeys
  have hlen : 0 < vs.length := by rw [hlv]; exact List.length_pos_iff.mpr hne
  have hval : ∀ (i : Nat) (v : Value), (∃ k x, vs[i]? = some (k, x) ∧ (mixKind X.prog X.w).is k v = true) → ∃ t, v = Value.int (is.getD i 0) t := fun i v ⟨k, x, hk, hkey⟩ => by
    have e1 : (vs.map (·.1))[i]? = some k := by rw [List.getElem?_map, hk] <;> rfl
    rw [hkeys, List.getElem?_map] at e1
    obtain ⟨j, hj, e2⟩ := Option.map_eq_some_iff.mp e1
    subst e2
    obtain ⟨t, e3⟩ := Value.isInt_shape (k := j) (v := v) (show Value.isInt j v = true from hkey)
    exact ⟨t, by rw [e3, List.getD_eq_getElem?_getD, hj] <;> rfl⟩
  refine call_max_walk (wpAny_pyIter_dict (knd := mixKind X.prog X.w) hsys dat ?_)
  refine ⟨_, _, _, _, _, _, _, rfl, Walks.dictKeys (knd := mixKind X.prog X.w) (A := X.A.in1) (I.ok.hd hc) s.heap.objs.size a (Nat.ne_of_lt hlt) vs ep,
    ⟨⟨_, Heap.get?_push_size _ rfl, rfl, rfl⟩, dat.keep fun b u e => Heap.get?_push_of_some _ e⟩, fun b hb => ?_, hlen, CmpOf.ints_gt (fun i => is.getD i 0) hval, fun v h' tk hP hk => ?_⟩
  · show b < (s.heap.push _).objs.size
    rw [Heap.size_push]
    rcases List.mem_cons.mp hb with e | hb
    · rw [e]; exact Nat.lt_succ_self _
    · rw [List.mem_singleton.mp hb]; exact Nat.lt_succ_of_lt hlt
  · obtain ⟨t, rfl⟩ := hval _ v hP
    obtain ⟨b1, b2⟩ := argBest_gt (fun i => is.getD i 0) (vs.length - 1)
    refine ⟨.int _, H, I.kept (t' := tk) fun b u e => hk b u (fun hmem => ?_) (Heap.get?_push_of_some _ e), ⟨t, rfl⟩, q _ ?_ fun j hj => ?_⟩
    · have e2 := Heap.lt_size e
      rw [List.mem_singleton.mp hmem] at e2
      exact absurd e2 (Nat.lt_irrefl _)
    · have hb : argBest (fun i j => decide (is.getD i 0 > is.getD j 0)) (vs.length - 1) < is.length := by omega
      rw [List.getD_eq_getElem?_getD, List.getElem?_eq_getElem hb]
      exact List.getElem_mem hb
    · obtain ⟨i, hi, e⟩ := List.mem_iff_getElem.mp hj
      have e2 : is.getD i 0 = j := by rw [List.getD_eq_getElem?_getD, List.getElem?_eq_getElem hi, ← e] <;> rfl
      rw [← e2]
      exact b2 i (by omega)
def minI : List Int → Int
  | [] => 0
  | [x] => x
  | x :: y :: r => if x ≤ minI (y :: r) then x else minI (y :: r)
def maxI : List Int → Int
  | [] => 0
  | [x] => x
  | x :: y :: r => if maxI (y :: r) ≤ x then x else maxI (y :: r)
theorem minI_ok : ∀ {l : List Int}, l ≠ [] → minI l ∈ l ∧ ∀ j ∈ l, minI l ≤ j
  | [], h => absurd rfl h
  | [x], _ => by simp [minI]
  | x :: y :: r, _ => by
    obtain ⟨h1, h2⟩ := minI_ok (l := y :: r) (by simp)
    unfold minI
    split
    · rename_i hx
      refine ⟨List.mem_cons_self .., fun j hj => ?_⟩
      rcases List.mem_cons.mp hj with e | hj
      · omega
      · exact Int.le_trans hx (h2 j hj)
    · rename_i hx
      refine ⟨List.mem_cons_of_mem _ h1, fun j hj => ?_⟩
      rcases List.mem_cons.mp hj with e | hj
      · omega
      · exact h2 j hj
theorem maxI_ok : ∀ {l : List Int}, l ≠ [] → maxI l ∈ l ∧ ∀ j ∈ l, j ≤ maxI l
  | [], h => absurd rfl h
  | [x], _ => by simp [maxI]
  | x :: y :: r, _ => by
    obtain ⟨h1, h2⟩ := maxI_ok (l := y :: r) (by simp)
    unfold maxI
    split
    · rename_i hx
      refine ⟨List.mem_cons_self .., fun j hj => ?_⟩
      rcases List.mem_cons.mp hj with e | hj
      · omega
      · exact Int.le_trans (h2 j hj) hx
    · rename_i hx
      refine ⟨List.mem_cons_of_mem _ h1, fun j hj => ?_⟩
      rcases List.mem_cons.mp hj with e | hj
      · omega
      · exact h2 j hj
/-- the ints of a list, or the int keys of a dict -/
def intsOf (d : D) (S : Sto) : Option (List Int) := match d with
  | .loc n => (match S.get n with
    | some (.dct 0 l) => intKeys l
    | some (.lst l) => intsD l
    | _ => none)
  | _ => none
def fMin1 : MF
  | [d], S => (match intsOf d S with
    | some (x :: r) => .ok (.int (minI (x :: r))) S
    | _ => .stuck)
  | _, _ => .stuck
def fMax1 : MF
  | [d], S => (match intsOf d S with
    | some (x :: r) => .ok (.int (maxI (x :: r))) S
    | _ => .stuck)
  | _, _ => .stuck
section
variable {G : Glo} {X : Cx} {ρ : Rho} {H : Hp}
theorem intsOf_ok {S : Sto} {d : D} {x : V} {ns : List Int} (rp : Rep G ρ S H) (rd : RelD G ρ H d x) (h : intsOf d S = some ns) : ∃ a, x = .ref a ∧ ((∃ kvs : List (Key × V), H a = some (.dK kvs) ∧ kvs.map (·.1) = ns.map Sum.inl) ∨ H a = some (.lst (ns.map V.int))) := by
  unfold intsOf at h
  split at h
  · rename_i n
    split at h
    · rename_i l el
      simp only [RelD] at rd
      obtain ⟨a, en, rfl⟩ := rd
      obtain ⟨kvs, hH, pk⟩ := dct0_at rp el en (intKeys_isK h)
      exact ⟨a, rfl, .inl ⟨kvs, hH, intKeys_rel h pk⟩⟩
    · rename_i l el
      obtain ⟨a, ys, rfl, en, hH, ht⟩ := rp.list el rd
      cases ints_rel h ht
      exact ⟨a, rfl, .inr hH⟩
    · cases h
  · cases h
theorem cm_min1 (hc : X.calm = true) : CallM G X (.builtin "min") fMin1 := fun W ok pins s σ H ρ S xs us ds Q I r rp rd q => by
  unfold fMin1 at q
  split at q
  · rename_i d
    simp only [RelDs] at rd
    obtain ⟨v, _, rfl, rd, rfl⟩ := rd
    split at q
    · rename_i y r' e
      have un : ∀ m, m ∈ y :: r' → (∀ j ∈ y :: r', m ≤ j) → Q (.int m) H := fun m h1 h2 => by
        obtain ⟨k1, k2⟩ := minI_ok (l := y :: r') (by simp)
        have e2 : m = minI (y :: r') := Int.le_antisymm (h2 _ k1) (k2 _ h1)
        rw [e2]
        exact q.ok rp rel_int
      obtain ⟨a, rfl, ⟨kvs, hH, hk⟩ | hH⟩ := intsOf_ok rp rd e
      · exact cr_minK hc pins s σ H _ us Q I r ⟨a, kvs, y :: r', rfl, hH, hk, by simp, un⟩
      · exact cr_min hc pins s σ H _ us Q I r ⟨a, y :: r', rfl, .inl (.inl hH), by simp, un⟩
    · exact q.elim
  · exact q.elim
theorem cm_max1 (hc : X.calm = true) : CallM G X (.builtin "max") fMax1 := fun W ok pins s σ H ρ S xs us ds Q I r rp rd q => by
  unfold fMax1 at q
  split at q
  · rename_i d
    simp only [RelDs] at rd
    obtain ⟨v, _, rfl, rd, rfl⟩ := rd
    split at q
    · rename_i y r' e
      have un : ∀ m, m ∈ y :: r' → (∀ j ∈ y :: r', j ≤ m) → Q (.int m) H := fun m h1 h2 => by
        obtain ⟨k1, k2⟩ := maxI_ok (l := y :: r') (by simp)
        have e2 : m = maxI (y :: r') := Int.le_antisymm (k2 _ h1) (h2 _ k1)
        rw [e2]
        exact q.ok rp rel_int
      obtain ⟨a, rfl, ⟨kvs, hH, hk⟩ | hH⟩ := intsOf_ok rp rd e
      · exact call_maxK hc pins s σ H _ us Q I r ⟨a, kvs, y :: r', rfl, hH, hk, by simp, un⟩
      · exact cr_max hc pins s σ H _ us Q I r ⟨a, y :: r', rfl, .inl (.inl hH), by simp, un⟩
    · exact q.elim
  · exact q.elim
/-- len of a dict, too -/
def fLenG : MF := fun ds S => match ds with
  | [.loc n] => (match S.get n with
    | some (.dct 0 l) => if isK l then .ok (.int l.length) S else .stuck
    | _ => fLen ds S)
  | _ => fLen ds S
theorem cm_lenG : CallM G X (.builtin "len") fLenG := fun W ok pins s σ H ρ S xs us ds Q I r rp rd q => by
  unfold fLenG at q
  split at q
  · rename_i n
    split at q
    · rename_i l el
      split at q
      · rename_i hk
        simp only [RelDs, RelD] at rd
        obtain ⟨v, _, rfl, ⟨a, en, rfl⟩, rfl⟩ := rd
        obtain ⟨kvs, hH, pk⟩ := dct0_at rp el en hk
        obtain ⟨u, rfl, ru⟩ := vals1 r
        cases ru
        exact d_len I (.inl hH) fun t s' I' => ⟨.int _, H, I', ⟨t, rfl⟩, by rw [← (pk.get).1]; exact q.ok rp rel_int⟩
      · exact q.elim
    · exact cm_len W ok pins s σ H ρ S xs us _ Q I r rp rd q
  · exact cm_len W ok pins s σ H ρ S xs us ds Q I r rp rd q
/-! ### dicts compared -/
def eqHits (S : Sto) (m : List (D × D)) : List (D × D) → Option Bool
  | [] => some true
  | p :: r => match getKD m p.1 with
    | none => some false
    | some e => match eqDat S p.2 e, eqHits S m r with
      | some b, some c => some (b && c)
      | _, _ => none
def dctK (d : D) (S : Sto) : Option (List (D × D)) := match d with
  | .loc n => (match S.get n with
    | some (.dct 0 l) => if isK l then some l else none
    | _ => none)
  | _ => none
def eqDcts (S : Sto) (d e : D) : Option Bool := match dctK d S, dctK e S with
  | some l, some m => if l.length = m.length then eqHits S m l else some false
  | _, _ => none
def cEqG (d e : D) (S : Sto) : Res D := if isDct d S then (match eqDcts S d e with
  | some b => .ok (.bl b) S
  | none => .stuck) else cEq d e S
def cNeG (d e : D) (S : Sto) : Res D := if isDct d S then (match eqDcts S d e with
  | some b => .ok (.bl (!b)) S
  | none => .stuck) else cNe d e S
theorem dctK_ok {S : Sto} {d : D} {x : V} {l : List (D × D)} (rp : Rep G ρ S H) (rd : RelD G ρ H d x) (h : dctK d S = some l) : ∃ a kvs, x = .ref a ∧ H a = some (.dK kvs) ∧ PairK keyD G ρ H l kvs := by
  unfold dctK at h
  split at h
  · rename_i n
    split at h
    · rename_i l' el
      split at h
      · rename_i hk
        cases h
        simp only [RelD] at rd
        obtain ⟨a, en, rfl⟩ := rd
        obtain ⟨kvs, hH, pk⟩ := dct0_at rp el en hk
        exact ⟨a, kvs, rfl, hH, pk⟩
      · cases h
    · cases h
  · cases h
theorem hits_ok {pins : List (Addr × Obj)} {σ : L2.St} {s : Shared} {S : Sto} {A : Around} (kk : G.K = X.K) (I : Inv X pins σ H s) (rp : Rep G ρ S H) (hu : A.units + 64 < cLine) {m : List (D × D)} {ms : List (Key × V)} {vm : List (Key × Value)} (pm : PairK keyD G ρ H m ms) (km : KV ms vm) :
    ∀ {l : List (D × D)} {ls : List (Key × V)} {vl : List (Key × Value)} {b : Bool}, PairK keyD G ρ H l ls → KV ls vl → eqHits S m l = some b → PySem.W.KeqHits A s vm vl b
  | [], ls, vl, b, h, kl, e => by
    cases h
    cases kl
    simp only [eqHits, Option.some.injEq] at e
    subst e
    exact .nil
  | p :: r, ls, vl, b, h, kl, e => by
    obtain ⟨k, v, zs, rfl, h1, h2, h3⟩ := h
    cases kl with
    | @cons _ q _ qs hq t =>
      obtain ⟨k', u⟩ := q
      obtain ⟨e1, ru⟩ := hq
      have e1 : k = k' := e1
      subst e1
      obtain ⟨g1, g2⟩ := pm.val keq_k h1
      simp only [eqHits] at e
      split at e
      · rename_i eg
        cases e
        have rr := km.val k
        rw [g2 eg] at rr
        exact .miss (by cases hv : valueAt vm k with | none => rfl | some y => rw [hv] at rr; exact rr.elim)
      · rename_i d' eg
        split at e
        · rename_i b' c' eb ec
          cases e
          obtain ⟨w, ew, rw'⟩ := g1 d' eg
          have rr := km.val k
          rw [ew] at rr
          obtain ⟨y, hy, ry⟩ := rr.some_of
          obtain ⟨pd, qd, dp, dq, sp, sq, ee⟩ := eqDat_ok kk rp eb h2 rw'
          obtain ⟨as, r1⟩ := Dp.reads I pd v u dp ru
          obtain ⟨bs, r2⟩ := Dp.reads I qd w y dq ry
          refine .hit hy ?_ (hits_ok kk I rp hu pm km h3 t ec)
          rw [← ee]
          refine SeqAt.eqAt_reads pd qd A s u y _ _ r1 r2 (SeqAt.canLay_of_shaped sp) (SeqAt.canLay_of_shaped sq) ?_
          have := SeqAt.depth_of_shaped sp
          have h3 := Nat.min_le_left pd.depth qd.depth
          omega
        · cases e
theorem om_eqG (hu : X.A.units + 65 < cLine) : OpM G X (compareOp .Eq) cEqG := fun W ok pins s σ H ρ S x y v u d e Q I rx ry rp rd re q => by
  unfold cEqG at q
  split at q
  · split at q
    · rename_i b eb
      unfold eqDcts at eb
      split at eb
      · rename_i l m el em
        obtain ⟨a, ls, rfl, hH, pl⟩ := dctK_ok rp rd el
        obtain ⟨a2, ms, rfl, hH2, pm⟩ := dctK_ok rp re em
        cases rx
        cases ry
        obtain ⟨_, ya, va, ra, da⟩ := (show ObjOk X.prog X.w H s.heap a (.dK ls) from I.hok a _ hH)
        obtain ⟨_, yb, vb, rb, db⟩ := (show ObjOk X.prog X.w H s.heap a2 (.dK ms) from I.hok a2 _ hH2)
        have e1 : va.length = l.length := by rw [← ra.length, (pl.get).1]
        have e2 : vb.length = m.length := by rw [← rb.length, (pm.get).1]
        split at eb
        · rename_i hl
          exact PySem.W.keq_eq (knd := mixKind X.prog X.w) (r := b) ya yb da db (by omega) (fun _ => hits_ok ok.kk I rp (show X.A.in1.units + 64 < cLine from by show X.A.units + 1 + 64 < cLine; omega) pm rb pl ra eb) ⟨.bl b, H, I, by rw [e1, e2, hl]; simp; rfl, q.ok rp rel_bl⟩
        · rename_i hl
          cases eb
          exact PySem.W.keq_eq (knd := mixKind X.prog X.w) (r := true) ya yb da db (by omega) (fun z => absurd (by rw [← e1, ← e2]; exact z) hl) ⟨.bl false, H, I, by rw [e1, e2, show (l.length == m.length) = false from by simpa using hl]; rfl, q.ok rp rel_bl⟩
      · cases eb
    · exact q.elim
  · exact om_eq (by omega) W ok pins s σ H ρ S x y v u d e Q I rx ry rp rd re q
theorem om_neG (hu : X.A.units + 65 < cLine) : OpM G X (compareOp .NotEq) cNeG := fun W ok pins s σ H ρ S x y v u d e Q I rx ry rp rd re q => by
  unfold cNeG at q
  split at q
  · split at q
    · rename_i b eb
      unfold eqDcts at eb
      split at eb
      · rename_i l m el em
        obtain ⟨a, ls, rfl, hH, pl⟩ := dctK_ok rp rd el
        obtain ⟨a2, ms, rfl, hH2, pm⟩ := dctK_ok rp re em
        cases rx
        cases ry
        obtain ⟨_, ya, va, ra, da⟩ := (show ObjOk X.prog X.w H s.heap a (.dK ls) from I.hok a _ hH)
        obtain ⟨_, yb, vb, rb, db⟩ := (show ObjOk X.prog X.w H s.heap a2 (.dK ms) from I.hok a2 _ hH2)
        have e1 : va.length = l.length := by rw [← ra.length, (pl.get).1]
        have e2 : vb.length = m.length := by rw [← rb.length, (pm.get).1]
        split at eb
        · rename_i hl
          exact PySem.W.keq_ne (knd := mixKind X.prog X.w) (r := b) ya yb da db (by omega) (fun _ => hits_ok ok.kk I rp (show X.A.in1.units + 64 < cLine from by show X.A.units + 1 + 64 < cLine; omega) pm rb pl ra eb) ⟨.bl (!b), H, I, by rw [e1, e2, hl]; simp; rfl, q.ok rp rel_bl⟩
        · rename_i hl
          cases eb
          exact PySem.W.keq_ne (knd := mixKind X.prog X.w) (r := true) ya yb da db (by omega) (fun z => absurd (by rw [← e1, ← e2]; exact z) hl) ⟨.bl true, H, I, by rw [e1, e2, show (l.length == m.length) = false from by simpa using hl]; rfl, q.ok rp rel_bl⟩
      · cases eb
    · exact q.elim
  · exact om_ne (by omega) W ok pins s σ H ρ S x y v u d e Q I rx ry rp rd re q
end
end Y

/-! Z9: f-strings; or, and of any values; unpacked lists; classmethods; str(o). -/
namespace Y
open PySem PySem.Spec PyProof.Rows L2
def digI (i : Int) : List Nat := (Str.ofString (toString i)).cps.toList
def fmtV (d : D) (S : Sto) : Res D := match d with
  | .str x => if x.length ≤ 16777216 then .ok (.str x) S else .stuck
  | .int i => if i.natAbs.log2 < 1920 then .ok (.str (digI i)) S else .stuck
  | _ => .stuck
def mJs : List ME → List Nat → SD → Sto → Res D
  | [], acc, _, S => .ok (.str acc) S
  | m :: ms, acc, sd, S => (m sd S).bind fun d S1 => match d with
    | .str y => if acc.length + y.length ≤ 16777216 then mJs ms (acc ++ y) sd S1 else .stuck
    | _ => .stuck
def mJoin (ms : List ME) : ME := mJs ms []
section
variable {G : Glo} {X : Cx} {ρ : Rho} {H : Hp}
theorem pm_fmt {e : Expr} {m : ME} {pos : Pos} (he : PEm G X e m) : PEm G X (.FormattedValue e (-1) none pos) (mUn fmtV m) := fun W ok => PE_imp (pe_fmt (he W ok)) fun σ H Q ⟨sd, S, ρ, hs, hr, h⟩ =>
  ⟨sd, S, ρ, hs, hr, Aft.bind h fun ρ1 H1 x d S1 le1 r1 rd h1 => by
    unfold fmtV at h1
    split at h1
    · rename_i y
      simp only [RelD] at rd
      split at h1
      · rename_i hl
        exact .inl ⟨_, rd, by rw [str_len, sizeLine_eq]; exact hl, h1.ok r1 rel_str⟩
      · exact h1.elim
    · rename_i i
      simp only [RelD] at rd
      split at h1
      · rename_i hl
        refine .inr ⟨i, rd, hl, ?_⟩
        have := h1.ok r1 (rel_str (x := digI i))
        unfold digI at this
        rw [str_eta] at this
        exact this
      · exact h1.elim
    · exact h1.elim⟩
inductive PJm (G : Glo) (X : Cx) : List Expr → List ME → Prop
  | nil : PJm G X [] []
  | cons {e : Expr} {m : ME} {es : List Expr} {ms : List ME} (h : PEm G X e m) (r : PJm G X es ms) : PJm G X (e :: es) (m :: ms)
theorem PJm.pj {W : WX} (ok : XOk G X W) : ∀ {es : List Expr} {ms : List ME}, PJm G X es ms → PJ X es (ms.map fun m => te G m W)
  | _, _, .nil => .nil
  | _, _, .cons h r => .cons (h W ok) (r.pj ok)
theorem js_read {W : WX} {σ : L2.St} {sd : SD} {Q : VK} : ∀ {ms : List ME} {acc : List Nat} {H : Hp} {ρ : Rho} {S : Sto}, RelSt G ρ H sd σ → Rep G ρ S H → Aft G (RelD G) ρ H (mJs ms acc sd S) Q (fun c a H' => W c a σ H') → tJs (ms.map fun m => te G m W) ⟨acc.toArray⟩ σ H (fun out H1 => Q (.str out) H1)
  | [], acc, H, ρ, S, hs, hr, h => h.ok hr rel_str
  | m :: ms, acc, H, ρ, S, hs, hr, h => ⟨sd, S, ρ, hs, hr, Aft.bind h fun ρ1 H1 x d S1 le1 r1 rd h1 => by
      split at h1
      · rename_i y
        split at h1
        · rename_i hl
          simp only [RelD] at rd
          refine ⟨_, rd, ?_, ?_⟩
          · rw [str_app, str_len, sizeLine_eq, List.length_append]
            exact hl
          · rw [str_app]
            exact js_read (hs.mono le1) r1 h1
        · exact h1.elim
      · exact h1.elim⟩
theorem pm_joined {v1 v2 : Expr} {rest : List Expr} {ms : List ME} {pos : Pos} (h : PJm G X (v1 :: v2 :: rest) ms) : PEm G X (.JoinedStr (v1 :: v2 :: rest) pos) (mJoin ms) := fun W ok => PE_imp (pe_joined (h.pj ok)) fun σ H Q ⟨sd, S, ρ, hs, hr, q⟩ =>
  js_read (acc := []) hs hr q
theorem pm_joined1 {e : Expr} {m : ME} {pos : Pos} (he : PEm G X e m) : PEm G X (.JoinedStr [e] pos) m := fun W ok => pe_joined1 (he W ok)
/-! ### or, and, not of any values -/
def mOrT (a b : ME) : ME := fun sd S => (a sd S).bind fun x S1 => (truD x S1).bind fun k S2 => if k then .ok x S2 else b sd S2
def mAndT (a b : ME) : ME := fun sd S => (a sd S).bind fun x S1 => (truD x S1).bind fun k S2 => if k then b sd S2 else .ok x S2
def mNotT (a : ME) : ME := fun sd S => (a sd S).bind fun x S1 => (truD x S1).bind fun k S2 => .ok (.bl (!k)) S2
theorem truD_pure {d : D} {S : Sto} : (∃ k, truD d S = .ok k S) ∨ truD d S = .stuck := by
  unfold truD
  split
  · exact .inl ⟨_, rfl⟩
  · exact .inl ⟨_, rfl⟩
  · exact .inl ⟨_, rfl⟩
  · split
    · exact .inl ⟨_, rfl⟩
    · exact .inr rfl
  · exact .inl ⟨_, rfl⟩
  · split
    · exact .inl ⟨_, rfl⟩
    · exact .inr rfl
  · exact .inr rfl
theorem tru_at {K : PySem.W.Frag} {S : Sto} {d : D} {x : V} {k : Bool} (rp : Rep G ρ S H) (rd : RelD G ρ H d x) (h : truD d S = .ok k S) : TruV K x H k := by
  cases d with
  | non => simp only [RelD] at rd; subst rd; cases h; rfl
  | bl b => simp only [RelD] at rd; subst rd; cases h; rfl
  | int i => simp only [RelD] at rd; subst rd; cases h; rfl
  | str l =>
    simp only [RelD] at rd
    subst rd
    simp only [truD] at h
    split at h
    · rename_i hl
      cases h
      have e : (⟨l.toArray⟩ : Str).length = l.length := str_len l
      refine ⟨by rw [e, sizeLine_eq]; exact hl, ?_⟩
      rw [e]
      cases l with
      | nil => rfl
      | cons a r =>
        show true = ((((r.length + 1 : Nat)) : Int) != 0)
        have z : ((((r.length + 1 : Nat)) : Int) != 0) = true := by
          simp only [bne_iff_ne, ne_eq]
          omega
        rw [z]
    · cases h
  | tup l =>
    simp only [RelD] at rd
    obtain ⟨a, xs, rfl, hs, ht⟩ := rd
    cases h
    refine .inr (.inl ⟨xs, .inl (.inl hs), ?_⟩)
    have e := ht.length
    cases l <;> cases xs <;> first | rfl | (simp at e)
  | loc n =>
    simp only [truD] at h
    split at h
    · rename_i l e
      cases h
      obtain ⟨a, xs, rfl, e1, hH, ht⟩ := rp.list e rd
      refine .inl ⟨xs, .inl (.inl hH), ?_⟩
      have e := ht.length
      cases l <;> cases xs <;> first | rfl | (simp at e)
    · cases h
  | cls n => cases h
  | scr l => cases h
theorem pm_orT {a b : Expr} {rest : List Expr} {m n : ME} {pos : Pos} (ha : PEm G X a m) (hb : PEm G X (.BoolOp .Or (b :: rest) pos) n) : PEm G X (.BoolOp .Or (a :: b :: rest) pos) (mOrT m n) := fun W ok => PE_imp (pe_orT (ha W ok) (hb W ok)) fun σ H Q ⟨sd, S, ρ, hs, hr, h⟩ =>
  ⟨sd, S, ρ, hs, hr, Aft.bind h fun ρ1 H1 x d S1 le1 r1 rd h1 => by
    rcases truD_pure (d := d) (S := S1) with ⟨k, ek⟩ | ek
    · rw [ek] at h1
      refine ⟨k, tru_at r1 rd ek, ?_⟩
      cases k with
      | true => exact h1.ok r1 rd
      | false => exact ⟨sd, S1, ρ1, hs.mono le1, r1, h1⟩
    · rw [ek] at h1
      exact h1.elim⟩
theorem pm_andT {a b : Expr} {rest : List Expr} {m n : ME} {pos : Pos} (ha : PEm G X a m) (hb : PEm G X (.BoolOp .And (b :: rest) pos) n) : PEm G X (.BoolOp .And (a :: b :: rest) pos) (mAndT m n) := fun W ok => PE_imp (pe_andT (ha W ok) (hb W ok)) fun σ H Q ⟨sd, S, ρ, hs, hr, h⟩ =>
  ⟨sd, S, ρ, hs, hr, Aft.bind h fun ρ1 H1 x d S1 le1 r1 rd h1 => by
    rcases truD_pure (d := d) (S := S1) with ⟨k, ek⟩ | ek
    · rw [ek] at h1
      refine ⟨k, tru_at r1 rd ek, ?_⟩
      cases k with
      | false => exact h1.ok r1 rd
      | true => exact ⟨sd, S1, ρ1, hs.mono le1, r1, h1⟩
    · rw [ek] at h1
      exact h1.elim⟩
theorem pm_notT {a : Expr} {m : ME} {pos : Pos} (ha : PEm G X a m) : PEm G X (.UnaryOp .Not a pos) (mNotT m) := fun W ok => PE_imp (pe_notT (ha W ok)) fun σ H Q ⟨sd, S, ρ, hs, hr, h⟩ =>
  ⟨sd, S, ρ, hs, hr, Aft.bind h fun ρ1 H1 x d S1 le1 r1 rd h1 => by
    rcases truD_pure (d := d) (S := S1) with ⟨k, ek⟩ | ek
    · rw [ek] at h1
      exact ⟨k, tru_at r1 rd ek, h1.ok r1 rel_bl⟩
    · rw [ek] at h1
      exact h1.elim⟩
/-! ### a, b, .. = a list or a tuple -/
def sAsgS (l : List Tg) (m : ME) : MS := fun sd S => bindS (m sd S) sd fun d S1 => match d with
  | .tup ds => (match asgs l ds sd with
    | some sd1 => .nx sd1 S1
    | none => .stuck)
  | .loc n => (match S1.get n with
    | some (.lst ds) => (match asgs l ds sd with
      | some sd1 => .nx sd1 S1
      | none => .stuck)
    | _ => .stuck)
  | _ => .stuck
theorem PG_or {e : Expr} {t1 t2 : TG} (h1 : PG X e t1) (h2 : PG X e t2) : PG X e (fun v σ H Q => t1 v σ H Q ∨ t2 v σ H Q) := ⟨fun pins s σ H v u Q I r h => h.elim (h1.run pins s σ H v u Q I r) (h2.run pins s σ H v u Q I r)⟩
theorem ps_asgS {es : List Expr} {k : Nat} {e : Expr} {l : List Tg} {m : ME} {pos tpos : Pos} (hc : X.calm = true) (he : PEm G X e m) (hg : PGs X es (gsOf X.K l)) (hs : swapsWithSole [.Tuple es k tpos] e pos.line X.env = pure false := by rfl) (hw : swappedStores [.Tuple es k tpos] e X.env = pure none := by rfl)
    (h1 : (assignEach [.Tuple es k tpos] X.env).map (·.2) = [assign (.Tuple es k tpos) X.env] := by rfl) (hn : (assignEach es X.env).length = l.length := by rfl) (hst : (assignEach es X.env).findIdx? (·.1) = none := by rfl) : PSm G X (.Assign [.Tuple es k tpos] e pos) (sAsgS l m) := fun W ok =>
  PS_imp (ps_asg (he W ok) (PG_or (pg_tup hc hg hn hst) (pg_lst hc hg hn hst)) hs hw h1) fun E σ H ⟨sd, S, ρ, hs, hr, h⟩ =>
  ⟨sd, S, ρ, hs, hr, AftS.bind h hs fun ρ1 H1 v d S1 le r1 rd h1 => by
    split at h1
    · rename_i ds
      split at h1
      · rename_i sd1 e1
        simp only [RelD] at rd
        obtain ⟨a, xs, rfl, hq, ht⟩ := rd
        exact .inl ⟨a, xs, rfl, .inl (.inl hq), by rw [← ht.length, asgs_len e1], gsOf_ok ok.kk ht (hs.mono le) e1 fun σ' s' _ => h1 ρ1 H1 σ' Le.refl r1 s'⟩
      · exact h1.elim
    · rename_i n
      split at h1
      · rename_i ds el
        split at h1
        · rename_i sd1 e1
          obtain ⟨a, xs, rfl, e2, hH, ht⟩ := r1.list el rd
          exact .inr ⟨a, xs, rfl, .inl (.inl hH), by rw [← ht.length, asgs_len e1], gsOf_ok ok.kk ht (hs.mono le) e1 fun σ' s' _ => h1 ρ1 H1 σ' Le.refl r1 s'⟩
        · exact h1.elim
      · exact h1.elim
    · exact h1.elim⟩
/-! ### classmethods -/
structure CmC (G : Glo) (c : Nat) (m : Str) (g : Addr) : Prop where
  ex : ∃ C mc p, G.ca c = .ref C ∧ ClX.CRead G.K C mc ∧ ClX.CMet G.K C mc m p g
theorem run_cmK {pins : List (Addr × Obj)} {s : Shared} {σ : L2.St} {S : Sto} {W : WX} {q g C : Addr} {c k n : Nat} {ks : List Str} {fd : FuncData} {ps : List Str} {gd : List D → List D → List D} {m : MF} {xs zs : List V} {us ws : List Value} {ds es : List D} {Q : VK} (ok : XOk G X W) (hC : G.ca c = .ref C) (F : FnB G X.prog X.w X.mg X.base k g fd ps m) (B : BnD G fd ps n ks gd) (hr : Room k X.A) (hg : X.A.guards = some [])
    (I : Inv X ((q, PySem.W.methodObj (.ref g) (.ref C)) :: pins) σ H s) (r : Vals xs us) (rz : Vals zs ws) (rp : Rep G ρ S H) (rd : RelDs G ρ H ds xs) (re : RelDs G ρ H es zs) (qq : Aft G (RelD G) ρ H (mkK n ks.length gd m (.cls c :: ds) es S) Q (fun c a H' => W c a σ H')) :
    wpAny (model X.prog X.w) X.A (call (.ref q) us (ks.zip ws)) (EP X pins σ Q) X.xe s := by
  unfold mkK at qq
  split at qq
  · rename_i hl
    have rC : RelD G ρ H (.cls c) (.ref C) := by simp only [RelD, hC]; rfl
    have rd' : RelDs G ρ H (.cls c :: ds) (.ref C :: xs) := .cons rC rd
    obtain ⟨bs, ys, hb, ry, rel⟩ := B s (.ref C :: us) ws (.ref C :: xs) zs (by rw [ok.kk]; exact I.kIn) (by rw [← rd'.length]; exact hl.1) (by rw [← re.length]; exact hl.2) (.cons rfl r) rz
    have e0 : Env0 X.prog X.w G.K X.mg X.base X.A X.stack s H := by rw [ok.kk]; exact I.env0
    have z : wpAny (model X.prog X.w) X.A (call (.ref q) us (ks.zip ws)) (EP X ((q, PySem.W.methodObj (.ref g) (.ref C)) :: pins) σ Q) X.xe s := by
      refine wpAny_call (PySem.W.method_call (ClX.pin_at I) (codeAny_mono (F X.A X.stack s H ⟨.ref C :: us, ks.zip ws⟩ bs ys Q (fun c a H' => W c a σ H') hr hg e0 hb ry ⟨gd (.cls c :: ds) es, S, ρ, rel ρ H _ es rd' re, rp, qq⟩) fun r s' hq => ?_))
      cases r with
      | error e => exact ok.tk e s' (XE.of_call I (fun cls d H' h => h) hq)
      | ok fl =>
        cases fl with
        | ret u => exact I.after hq
        | next => exact False.elim hq
        | brk => exact False.elim hq
        | cont => exact False.elim hq
    exact thn z fun _ _ y => ClX.unpinE y
  · exact qq.elim
/-- C.m(..), C a class by its name -/
def mCmeth (c : Nat) (f : MK) (a : MA) : ME := fun sd S => (a sd S).bind fun ds S1 => f (.cls c :: ds) [] S1
theorem pm_cmeth {x m : Str} {g C : Addr} {c k n : Nat} {fd : FuncData} {ps : List Str} {gd : List D → List D → List D} {f : MF} {e : Expr} {es : List Expr} {ma : MA} {np apos pos : Pos} {pl : Sem Bool} (hC : G.ca c = .ref C) (hx : Gl X x) (hm : X.mg x = some (.ref C)) (cm : CmC G c m g) (F : FnB G X.prog X.w X.mg X.base k g fd ps f) (B : BnD G fd ps n [] gd) (hr : Room k X.A) (hg : X.A.guards = some []) (ha : PAm G X (e :: es) ma)
    (hdb : (x == ("__debug__" : Str)) = false := by decide) (hst : starEach (e :: es) X.env = (false, eval e X.env) :: starEach es X.env := by rfl) (hpl : (backTo pos (starEach es X.env)).any (·.1) = false := by rfl)
    (hv : eval (.Call (.Attribute (.Name x np) m apos) (e :: es) [] pos) X.env = (do
      let ov ← eval (.Name x np) X.env
      standAt apos.atName
      let (f, first) ← holding [ov] (getMethod ov m pl)
      callWith pos f first (backTo pos (starEach (e :: es) X.env)) (backToKw pos (keywordEach [] X.env))) := by rfl) :
    PEm G X (.Call (.Attribute (.Name x np) m apos) (e :: es) [] pos) (mCmeth c (mkK n 0 gd f) ma) := fun W ok => by
  refine ⟨fun pins s σ H Q I h => ?_⟩
  obtain ⟨sd, S, ρ, hs, hr', h⟩ := h
  obtain ⟨C', mc, p, hC', cr, ct⟩ := cm.ex
  rw [hC] at hC'
  cases hC'
  rw [ok.kk] at cr ct
  refine PySem.W.methodCall_KW (pl := pl) (thn ((pe_glob (v := .ref C) hx hm rfl hdb).run pins s σ H _ I (show tC (.ref C) σ H (fun v H1 => v = .ref C ∧ H1 = H) from ⟨rfl, rfl⟩)) fun u s1 ⟨v, H1, I1, rv, e1, e2⟩ => ?_) hv
  subst e1 e2
  cases rv
  refine ClX.getmethcm_ok I1 cr ct fun s2 I2 => ?_
  have t : ta G ma W σ H1 (fun xs H2 => ∃ ρ2 S2 ds, Rep G ρ2 S2 H2 ∧ RelDs G ρ2 H2 ds xs ∧ Aft G (RelD G) ρ2 H2 (mkK n 0 gd f (.cls c :: ds) [] S2) Q (fun c a H' => W c a σ H')) := ⟨sd, S, ρ, hs, hr', Aft.bind h fun ρ1 H1 x d S1 le1 r1 rd h1 => ⟨ρ1, S1, d, r1, rd, h1⟩⟩
  refine ClX.callwith_cm I2 (ClX.base_none I1 (Nat.le_refl _)) ct.fi (thn ((ha W ok).run pos _ s2 σ H1 _ I2 t) fun us s3 ⟨vs, H2, I3, rv, q2⟩ => ⟨⟨ClX.pin_at I3, I3.kIn⟩, ?_⟩) hst hpl
  obtain ⟨ρ2, S2, ds, rp2, rd2, q2⟩ := q2
  exact run_cmK (ws := []) (zs := []) ok hC F B hr hg I3 rv .nil rp2 rd2 .nil q2
theorem pm_cmeth0 {x m : Str} {g C : Addr} {c k n : Nat} {fd : FuncData} {ps : List Str} {gd : List D → List D → List D} {f : MF} {np apos pos : Pos} {pl : Sem Bool} (hC : G.ca c = .ref C) (hx : Gl X x) (hm : X.mg x = some (.ref C)) (cm : CmC G c m g) (F : FnB G X.prog X.w X.mg X.base k g fd ps f) (B : BnD G fd ps n [] gd) (hr : Room k X.A) (hg : X.A.guards = some [])
    (hdb : (x == ("__debug__" : Str)) = false := by decide)
    (hv : eval (.Call (.Attribute (.Name x np) m apos) [] [] pos) X.env = (do
      let ov ← eval (.Name x np) X.env
      standAt apos.atName
      let (f, first) ← holding [ov] (getMethod ov m pl)
      callWith pos f first (backTo pos (starEach [] X.env)) (backToKw pos (keywordEach [] X.env))) := by rfl) :
    PEm G X (.Call (.Attribute (.Name x np) m apos) [] [] pos) (mCmeth c (mkK n 0 gd f) mNil) := fun W ok => by
  refine ⟨fun pins s σ H Q I h => ?_⟩
  obtain ⟨sd, S, ρ, hs, hr', h⟩ := h
  obtain ⟨C', mc, p, hC', cr, ct⟩ := cm.ex
  rw [hC] at hC'
  cases hC'
  rw [ok.kk] at cr ct
  refine PySem.W.methodCall_KW (pl := pl) (thn ((pe_glob (v := .ref C) hx hm rfl hdb).run pins s σ H _ I (show tC (.ref C) σ H (fun v H1 => v = .ref C ∧ H1 = H) from ⟨rfl, rfl⟩)) fun u s1 ⟨v, H1, I1, rv, e1, e2⟩ => ?_) hv
  subst e1 e2
  cases rv
  refine ClX.getmethcm_ok I1 cr ct fun s2 I2 => ?_
  refine PySem.W.callWith_M0 (first := []) ⟨ClX.pin_at I2, I2.kIn⟩ ct.fi ?_
  exact run_cmK (xs := []) (us := []) (ws := []) (zs := []) ok hC F B hr hg I2 .nil .nil hr' .nil .nil h
/-! ### str(o) -/
def fStrO (tab : List (Nat × MF)) : MF
  | [d], S => (match clsD d S with
    | some c => (match tab.lookup c with
      | some f => (f [d] S).bind fun r S1 => match r with
        | .str x => .ok (.str x) S1
        | _ => .stuck
      | none => .stuck)
    | none => fmtV d S)
  | _, _ => .stuck
def SoOk (G : Glo) (X : Cx) (c : Nat) (f : MF) : Prop := ∃ C g k, G.ca c = .ref C ∧ PySem.W.findIn G.K (.ref C) "__str__" = some (some (.ref g)) ∧ PySem.W.isFn G.K (.ref g) = true ∧ FnG G X.prog X.w X.mg X.base k g f ∧ Room (k + 2) X.A ∧ X.A.guards = some []
inductive SoTab (G : Glo) (X : Cx) : List (Nat × MF) → Prop
  | nil : SoTab G X []
  | cons {c : Nat} {k : MF} {r : List (Nat × MF)} (h : SoOk G X c k) (t : SoTab G X r) : SoTab G X ((c, k) :: r)
theorem SoTab.get {tab : List (Nat × MF)} (t : SoTab G X tab) {c : Nat} {k : MF} (h : tab.lookup c = some k) : SoOk G X c k := by
  induction t with
  | nil => cases h
  | @cons c' k' r h1 t ih =>
    by_cases e : c = c'
    · subst e
      have e2 : k' = k := by simpa [List.lookup] using h
      subst e2
      exact h1
    · have e' : (c == c') = false := by simpa using e
      exact ih (by simpa [List.lookup, e'] using h)
theorem cm_strO {tab : List (Nat × MF)} (ht : SoTab G X tab) : CallM G X (.type "str") (fStrO tab) := fun W ok pins s σ H ρ S xs us ds Q I r rp rd q => by
  unfold fStrO at q
  split at q
  · rename_i d
    simp only [RelDs] at rd
    obtain ⟨v, _, rfl, rd, rfl⟩ := rd
    obtain ⟨u, rfl, ru⟩ := vals1 r
    split at q
    · rename_i c hc
      obtain ⟨n, a, C, dx, vs, l, rfl, el, rfl, en, hC, hsl, hrl⟩ := clsD_ok rp rd hc
      cases ru
      split at q
      · rename_i f hf
        obtain ⟨C', g, k, hC', fi, isf, F, hr, hg⟩ := ht.get hf
        rw [hC] at hC'
        cases hC'
        rw [ok.kk] at fi isf
        obtain ⟨sl, od, _, J, _⟩ := SlX.slt_inst I hsl
        have q2 : Aft G (RelD G) ρ H (f [.loc n] S) (fun z H' => ∃ x, z = .str x ∧ Q z H') (fun c a H' => W c a σ H') := Aft.bind q fun ρ1 H1 v r S1 le r1 rv h1 => by
          cases r with
          | str x => simp only [RelD] at rv; exact ⟨_, rv, by rw [rv]; exact h1.ok r1 rel_str⟩
          | _ => exact h1.elim
        have e0 := I.env0.in1.in1
        rw [← ok.kk] at e0
        have hr2 : Room k X.A.in1.in1 := (show Room (k + 1) X.A.in1 from Room.in1 hr).in1
        refine PySem.W.kso_call hr2.units0 I.kIn J fi isf (wpAny_call (codeAny_mono (F X.A.in1.in1 X.stack s H [.ref a] [.ref a] _ (fun c a H' => W c a σ H') hr2 hg e0 (.cons rfl .nil) ⟨_, S, ρ, .one rd, rp, q2⟩) fun r s' hq => ?_))
        cases r with
        | error e => exact ok.tk e s' (XE.of_call I (fun cls d H' h => h) hq)
        | ok fl =>
          cases fl with
          | ret u =>
            obtain ⟨z, H', I', rz, x, ez, qz⟩ := I.after hq
            subst ez
            obtain ⟨t, rfl⟩ := rz
            exact ⟨.str x, H', I', ⟨t, rfl⟩, qz⟩
          | next => exact False.elim hq
          | brk => exact False.elim hq
          | cont => exact False.elim hq
      · exact q.elim
    · unfold fmtV at q
      split at q
      · rename_i y
        simp only [RelD] at rd
        split at q
        · subst rd
          exact SkE.call_str_str pins s σ H _ _ Q I r ⟨_, rfl, q.ok rp rel_str⟩
        · exact q.elim
      · rename_i i _
        simp only [RelD] at rd
        split at q
        · rename_i hl
          subst rd
          refine call_str_int pins s σ H _ _ Q I r ⟨i, rfl, hl, ?_⟩
          have := q.ok rp (rel_str (x := digI i))
          unfold digI at this
          rw [str_eta] at this
          exact this
        · exact q.elim
      · exact q.elim
  · exact q.elim
end
end Y

/-! Za: what the written part says of classes with slots; bindings. -/
namespace L2
theorem Room.u65 {k : Nat} {A : PySem.Around} (r : Room k A) : A.units + 65 < PySem.cLine := by have := r.un; omega
theorem Room.u1 {k : Nat} {A : PySem.Around} (r : Room k A) : A.units + 1 < PySem.cLine := by have := r.un; omega
end L2
namespace Y
open PySem PySem.Spec PyProof.Rows L2
open PySem.W (Frag findIn subIn clsIn mroIn specialIn takesIn keepIn typeIn)
def scB (K : Frag) (C : Addr) : Bool := PySem.W.plainGet K C Str.empty && PySem.W.isClsIn K C && PySem.W.plainOver K C && findIn K (.ref C) "__setattr__" == some (some (.builtin "object.__setattr__")) &&
  findIn K (.ref C) "__class__" == some (some (.builtin "object.__class__")) && specialIn K (.builtin "object.__class__") "__get__" == some (some (.builtin "getset_descriptor.__get__")) && takesIn K (.builtin "object.__class__") == some true && mroIn K C (.type "object") == some true
theorem scB_ok {K : Frag} {C : Addr} (h : scB K C = true) : SlX.SCls K C ∧ SlX.SIsi K C := by
  unfold scB at h
  simp only [Bool.and_eq_true, beq_iff_eq] at h
  obtain ⟨⟨⟨⟨⟨⟨⟨h1, h2⟩, h3⟩, h4⟩, h5⟩, h6⟩, h7⟩, h8⟩ := h
  exact ⟨⟨h1, h2, h3, h4⟩, ⟨h5, h6, h7, h8⟩⟩
def s1B (K : Frag) (C p : Addr) (f : Str) (i : Nat) : Bool := findIn K (.ref C) f == some (some (.ref p)) && specialIn K (.ref p) "__get__" == some (some (.builtin "member_descriptor.__get__")) && takesIn K (.ref p) == some true && typeIn K (.ref p) == some (.type "member_descriptor") && PySem.W.slotIn K p C == some i && decide (i < 1000)
theorem s1B_ok {K : Frag} {C p : Addr} {f : Str} {i : Nat} (h : s1B K C p f i = true) : SlX.Slot1 K C f p i := by
  unfold s1B at h
  simp only [Bool.and_eq_true, beq_iff_eq, decide_eq_true_eq] at h
  obtain ⟨⟨⟨⟨⟨h1, h2⟩, h3⟩, h4⟩, h5⟩, h6⟩ := h
  exact ⟨h1, h2, h3, h4, h5, h6⟩
def meB (K : Frag) (C g : Addr) (m : Str) : Bool := findIn K (.ref C) m == some (some (.ref g)) && PySem.W.isFn K (.ref g) && keepIn K (.ref g) && PySem.W.fnIn K g
theorem meB_ok {K : Frag} {C g : Addr} {m : Str} (h : meB K C g m = true) : Meth K C m g ∧ PySem.W.fnIn K g = true := by
  unfold meB at h
  simp only [Bool.and_eq_true, beq_iff_eq] at h
  exact ⟨⟨h.1.1.1, h.1.1.2, h.1.2⟩, h.2⟩
def prB (K : Frag) (C p g : Addr) (f : Str) : Bool := findIn K (.ref C) f == some (some (.ref p)) && specialIn K (.ref p) "__get__" == some (some (.builtin "property.__get__")) && takesIn K (.ref p) == some true && ((PySem.W.recIn K p "property").map List.head? == some (some (.ref g)))
theorem head_rest {l : Option (List Value)} {g : Value} (h : (l.map List.head? == some (some g)) = true) : ∃ rest, l = some (g :: rest) := by
  rw [beq_iff_eq] at h
  cases l with
  | none => cases h
  | some l =>
    cases l with
    | nil => cases h
    | cons a r => cases h; exact ⟨r, rfl⟩
theorem prB_ok {K : Frag} {C p g : Addr} {f : Str} (h : prB K C p g f = true) : PropC K C f p g := by
  unfold prB at h
  rw [Bool.and_eq_true, Bool.and_eq_true, Bool.and_eq_true, beq_iff_eq, beq_iff_eq, beq_iff_eq] at h
  exact ⟨h.1.1.1, h.1.1.2, h.1.2, head_rest h.2⟩
def cmB (K : Frag) (C p g : Addr) (m : Str) : Bool := PySem.W.readsIn K C (.type "type") && specialIn K (.ref C) "__getattribute__" == some (some (.builtin "type.__getattribute__")) && PySem.W.fnIn K g && ((PySem.W.recIn K p "classmethod").map List.head? == some (some (.ref g)))
theorem cmB_ok {G : Glo} {c : Nat} {C p g : Addr} {m : Str} (hC : G.ca c = .ref C) (h0 : PySem.W.findCls G.K (.ref C) (.type "type") m = some (.get (.builtin "classmethod.__get__") (.ref p) .none (.ref C))) (h : cmB G.K C p g m = true) : CmC G c m g := by
  unfold cmB at h
  rw [Bool.and_eq_true, Bool.and_eq_true, Bool.and_eq_true, beq_iff_eq] at h
  exact ⟨⟨C, .type "type", p, hC, ⟨h.1.1.1, h.1.1.2⟩, ⟨h0, head_rest h.2, h.1.2⟩⟩⟩
def mkB (K : Frag) (C g : Addr) : Bool := PySem.W.makesIn K C && findIn K (.ref C) "__init__" == some (some (.ref g)) && PySem.W.isFn K (.ref g) && keepIn K (.ref C)
theorem mkB_ok {K : Frag} {C g : Addr} (h : mkB K C g = true) : Mk K C g := by
  unfold mkB at h
  simp only [Bool.and_eq_true, beq_iff_eq] at h
  exact ⟨h.1.1.1, h.1.1.2, h.1.2, h.2⟩
/-- a class's def for a binary operator -/
structure BoF (K : Frag) (C g : Addr) (op : Operator) : Prop where
  sf : PySem.W.selfFirst K C = true
  at_ : findIn K (.ref C) (PySem.dunder op.info.2) = some (some (.ref g))
  fn : PySem.W.isFn K (.ref g) = true
  rv : findIn K (.ref C) (dunderR op.info.2) = some none
  it : ∃ fo ro, findIn K (.type "int") (PySem.dunder op.info.2) = some fo ∧ findIn K (.type "int") (dunderR op.info.2) = some ro
  sb : subIn K (.type "int") (.ref C) = some false
def boB (K : Frag) (C g : Addr) (op : Operator) : Bool := PySem.W.selfFirst K C && findIn K (.ref C) (PySem.dunder op.info.2) == some (some (.ref g)) && PySem.W.isFn K (.ref g) && findIn K (.ref C) (dunderR op.info.2) == some none &&
  (findIn K (.type "int") (PySem.dunder op.info.2)).isSome && (findIn K (.type "int") (dunderR op.info.2)).isSome && subIn K (.type "int") (.ref C) == some false
theorem boB_ok {K : Frag} {C g : Addr} {op : Operator} (h : boB K C g op = true) : BoF K C g op := by
  unfold boB at h
  simp only [Bool.and_eq_true, beq_iff_eq] at h
  obtain ⟨⟨⟨⟨⟨⟨h1, h2⟩, h3⟩, h4⟩, h5⟩, h6⟩, h7⟩ := h
  obtain ⟨fo, e1⟩ := Option.isSome_iff_exists.mp h5
  obtain ⟨ro, e2⟩ := Option.isSome_iff_exists.mp h6
  exact ⟨h1, h2, h3, h4, ⟨fo, ro, e1, e2⟩, h7⟩
structure EqF (K : Frag) (ca : Nat → Value) (C g : Addr) (ts : List Nat) : Prop where
  at_ : findIn K (.ref C) "__eq__" = some (some (.ref g))
  fn : PySem.W.isFn K (.ref g) = true
  ne : findIn K (.ref C) "__ne__" = some (some (.builtin "object.__ne__"))
  mr : mroIn K C (.type "object") = some true
  nf : ∀ t ∈ ts, PySem.W.notFirst K C (ca t) = true
def eqB (K : Frag) (ca : Nat → Value) (C g : Addr) (ts : List Nat) : Bool := findIn K (.ref C) "__eq__" == some (some (.ref g)) && PySem.W.isFn K (.ref g) && findIn K (.ref C) "__ne__" == some (some (.builtin "object.__ne__")) && mroIn K C (.type "object") == some true && ts.all fun t => PySem.W.notFirst K C (ca t)
theorem eqB_ok {K : Frag} {ca : Nat → Value} {C g : Addr} {ts : List Nat} (h : eqB K ca C g ts = true) : EqF K ca C g ts := by
  unfold eqB at h
  simp only [Bool.and_eq_true, beq_iff_eq, List.all_eq_true] at h
  exact ⟨h.1.1.1.1, h.1.1.1.2, h.1.1.2, h.1.2, h.2⟩
section
variable {G : Glo} {X : Cx}
theorem boOk {op : Operator} {c : Nat} {C g : Addr} {f : MF} (hC : G.ca c = .ref C) (b : BoF G.K C g op) (h : CallM G X (.ref g) f) : BoOk G X op c f := ⟨C, g, hC, b.sf, b.at_, b.fn, b.rv, b.it, b.sb, h⟩
theorem eqOk {c k : Nat} {C g : Addr} {f : MF} {ts : List Nat} (hC : G.ca c = .ref C) (b : EqF G.K G.ca C g ts) (F : FnG G X.prog X.w X.mg X.base k g f) (hr : Room (k + 1) X.A) (hg : X.A.guards = some []) : EqOk G X ts c f := ⟨C, g, k, hC, b.at_, b.fn, b.ne, b.mr, b.nf, F, hr, hg⟩
theorem ngOk {c : Nat} {C g : Addr} {f : MF} (hC : G.ca c = .ref C) (b : Meth G.K C "__neg__" g) (h : CallM G X (.ref g) f) : NgOk G X c f := ⟨C, g, hC, b.at_, b.fn, h⟩
theorem giOk {c k : Nat} {C g : Addr} {f : MF} (hC : G.ca c = .ref C) (b : Meth G.K C "__getitem__" g) (fi : PySem.W.fnIn G.K g = true) (F : FnG G X.prog X.w X.mg X.base k g f) (hr : Room (k + 1) X.A) (hg : X.A.guards = some []) : GiOk G X c f := ⟨C, g, k, hC, b.at_, b.fn, fi, F, hr, hg⟩
theorem soOk {c k : Nat} {C g : Addr} {f : MF} (hC : G.ca c = .ref C) (b : Meth G.K C "__str__" g) (F : FnG G X.prog X.w X.mg X.base k g f) (hr : Room (k + 2) X.A) (hg : X.A.guards = some []) : SoOk G X c f := ⟨C, g, k, hC, b.at_, b.fn, F, hr, hg⟩
theorem meOk {m : Str} {c : Nat} {C g : Addr} {f : MF} (hC : G.ca c = .ref C) (sc : SlX.SCls G.K C) (b : Meth G.K C m g) (h : CallM G X (.ref g) f) : MeOk G X m c f := ⟨C, g, hC, sc, b, h⟩
theorem atSl {f : Str} {c i : Nat} {C p : Addr} (hC : G.ca c = .ref C) (sc : SlX.SCls G.K C) (b : SlX.Slot1 G.K C f p i) : AtOk G X f c (.slot i) := ⟨C, p, hC, sc, b⟩
theorem atPr {f : Str} {c k : Nat} {C p g : Addr} {m : MF} (hC : G.ca c = .ref C) (sc : SlX.SCls G.K C) (b : PropC G.K C f p g) (F : FnG G X.prog X.w X.mg X.base k g m) (hr : Room (k + 1) X.A) (hg : X.A.guards = some []) : AtOk G X f c (.prop m) := ⟨C, p, g, k, hC, sc, b, F, hr, hg⟩
theorem stSl {f : Str} {c i : Nat} {C p : Addr} (hC : G.ca c = .ref C) (sc : SlX.SCls G.K C) (b : SlX.Slot1 G.K C f p i) : ∃ C p, G.ca c = .ref C ∧ SlX.SCls G.K C ∧ SlX.Slot1 G.K C f p i := ⟨C, p, hC, sc, b⟩
end
/-! ### bindings -/
theorem Fun_d {K : Frag} {x qual : Str} {st : Stmt} {f : Addr} {fd : FuncData} (F : Fun K x qual st f fd) : FunD K x qual (defArgs st) (defBody st) (defScope st) [] [] f fd := by
  obtain ⟨oc, od, kV, doc, pm, an, cdv, ct, osl, e, lk, hcd⟩ := F.ex
  exact ⟨⟨oc, od, .none, kV, doc, pm, an, cdv, ct, osl, e, lk, hcd, .inl ⟨rfl, rfl⟩, .inl rfl⟩, F.kp⟩
section
variable {G : Glo} {fd : FuncData} {ps : List Str}
theorem bnd_all (hb : Binds G.K fd ps []) : BnD G fd ps ps.length [] (fun ds _ => ds) := fun s us ws vs zs hK hn hz r rz => by
  have := hb s us hK (by rw [List.append_nil, ← r.length]; exact hn)
  rw [List.append_nil] at this
  cases rz with
  | nil => exact ⟨us, vs, this, r, fun _ _ _ _ h _ => h⟩
  | cons _ _ => cases hz
theorem RelDs.app {ρ : Rho} {H : Hp} {l m : List D} {xs ys : List V} (h : RelDs G ρ H l xs) (h2 : RelDs G ρ H m ys) : RelDs G ρ H (l ++ m) (xs ++ ys) := h.append h2
/-- the defaults stand behind -/
theorem bnd_dfl {n : Nat} {dvs : List V} (hx : ∃ ds, Vals dvs ds ∧ Binds G.K fd ps ds) (hn : n + dvs.length = ps.length) (cs : List D) (hc : ∀ ρ H, RelDs G ρ H cs dvs) : BnD G fd ps n [] (fun ds _ => ds ++ cs) := fun s us ws vs zs hK hl hz r rz => by
  obtain ⟨ds, rv, hb⟩ := hx
  have := hb s us hK (by rw [List.length_append, ← r.length, ← rv.length, hl]; exact hn)
  cases rz with
  | nil => exact ⟨us ++ ds, vs ++ dvs, this, r.append rv, fun ρ H _ _ h _ => h.append (hc ρ H)⟩
  | cons _ _ => cases hz
theorem bnd_kw {n : Nat} {ks : List Str} {g : List Value → List Value → List Value} {gV : List V → List V → List V} {gd : List D → List D → List D} (hb : KBn G.K fd ps n ks g gV) (hr : ∀ ρ H ds es vs zs, vs.length = n → zs.length = ks.length → RelDs G ρ H ds vs → RelDs G ρ H es zs → RelDs G ρ H (gd ds es) (gV vs zs)) : BnD G fd ps n ks gd := fun s us ws vs zs hK hl hz r rz =>
  ⟨g us ws, gV vs zs, hb.to s us ws hK (by rw [← r.length]; exact hl) (by rw [← rz.length]; exact hz), hb.rel r rz, fun ρ H ds es h h2 => hr ρ H ds es vs zs hl hz h h2⟩
end
theorem FnB.g' {G : Glo} {P : Program} {w : World} {mg : Str → Option Value} {base : Heap} {k n np : Nat} {f : Addr} {fd : FuncData} {ps : List Str} {b : MS} (F : FnB G P w mg base k f fd ps (mkF n np b)) (hb : Binds G.K fd ps []) (hp : ps.length = np) : FnG G P w mg base k f (mkF n np b) := F.g hb fun ds S h => by rw [mkF_len ds S h, hp]
/-- a module's text -/
theorem glob_str {K : Frag} {h : Heap} {mg : Str → Option Value} {G : Glo} {x : Str} {l : List Nat} {t : Tok} {y : Str} (X : K.In h) (Gn : h.Ns mainGlobals mg) (e : PySem.W.nsIn K mainGlobals x = some (some (.str y t))) (hy : y = ⟨l.toArray⟩) : ∃ u v, mg x = some u ∧ RelV v u ∧ ∀ ρ H, RelD G ρ H (.str l) v :=
  ⟨_, .str y, PySem.W.mg_of X Gn e, ⟨t, rfl⟩, fun _ _ => by simp only [RelD, hy]⟩
theorem loose_str {lv : List (Str × PySem.W.WData)} {mg : Str → Option Value} {h : Heap} {G : Glo} {x y : Str} {l : List Nat} (L : PySem.W.LooseAre lv mg h) (hm : (x, PySem.W.WData.str y) ∈ lv) (hy : y = ⟨l.toArray⟩) : ∃ u v, mg x = some u ∧ RelV v u ∧ ∀ ρ H, RelD G ρ H (.str l) v := by
  obtain ⟨v, a, b⟩ := L.val _ hm
  cases b
  exact ⟨_, .str y, a, ⟨_, rfl⟩, fun _ _ => by simp only [RelD, hy]⟩
/-- a def with keyword-only defaults -/
theorem funD_kw {K : Frag} {x qual : Str} {st : Stmt} {f : Addr} {kws : List (Str × V)} {oc kV doc pm cdv ct : Value} {od an : Option Addr} {osl : Array (Option Value)} (l : K.lookup f = some ⟨oc, od, .func (PySem.W.fnOf x qual (defArgs st) (defBody st) (defScope st) .none kV doc pm an cdv ct), osl⟩) (c : PySem.W.codeIn K cdv qual = true) (q : keepIn K (.ref f) = true) (hk : KwdV K kV kws) :
    FunD K x qual (defArgs st) (defBody st) (defScope st) [] kws f (PySem.W.fnOf x qual (defArgs st) (defBody st) (defScope st) .none kV doc pm an cdv ct) :=
  ⟨⟨oc, od, .none, kV, doc, pm, an, cdv, ct, osl, rfl, l, c, .inl ⟨rfl, rfl⟩, hk⟩, q⟩
theorem kwd_one {K : Frag} {D : Addr} {x : Str} {v : V} {u : Value} (h : PySem.W.nsIn K D x = some (some u)) (r : RelV v u) : KwdV K (.ref D) [(x, v)] := .inr ⟨D, rfl, fun q hq => by
  have e : q = (x, v) := by simpa using hq
  subst e
  exact ⟨u, h, r⟩⟩
end Y

/-! Zb: % and // by any divisor, a, b, c = x, y, z, list(d.values()), min/max with default=, classmethods with keywords, try. -/
namespace Y
open PySem PySem.Spec PyProof.Rows L2
def bModG : D → D → Sto → Res D
  | .int i, .int j, S => if j ≠ 0 then .ok (.int (i.fmod j)) S else .stuck
  | _, _, _ => .stuck
def bDivG : D → D → Sto → Res D
  | .int i, .int j, S => if j ≠ 0 ∧ j.natAbs.log2 < 9000 then .ok (.int (i.fdiv j)) S else .stuck
  | _, _, _ => .stuck
section
variable {G : Glo} {X : Cx} {ρ : Rho} {H : Hp}
theorem om_modG : OpM G X (binaryOp .Mod) bModG := .of op_modN fun kk ρ H S x y d e Q W rp rd re q => by
  unfold bModG at q
  split at q
  · rename_i i j
    simp only [RelD] at rd re
    split at q
    · rename_i h
      exact ⟨i, j, rd, re, h, q.ok rp rel_int⟩
    · exact q.elim
  · exact q.elim
theorem op_fdivWN : OpR X (binaryOp .FloorDiv) (rI (fun _ j => j ≠ 0 ∧ j.natAbs.log2 < 9000) fun i j => .int (i.fdiv j)) := opI fun i j _ _ _ _ _ hc q => floordiv_int hc.1 q (.inl (PyProof.noPylong_of_log2 hc.2))
theorem om_divG : OpM G X (binaryOp .FloorDiv) bDivG := .of op_fdivWN fun kk ρ H S x y d e Q W rp rd re q => by
  unfold bDivG at q
  split at q
  · rename_i i j
    simp only [RelD] at rd re
    split at q
    · rename_i h
      exact ⟨i, j, rd, re, h, q.ok rp rel_int⟩
    · exact q.elim
  · exact q.elim
def sPar3 (i j l : Nat) (m : MA) : MS := fun sd S => bindS (m sd S) sd fun ds S1 => match ds with
  | [d, e, f] => .nx (((sd.set i (some d)).set j (some e)).set l (some f)) S1
  | _ => .stuck
theorem ps_par3m {i j l : Nat} {tp t2 : Expr} {es : List Expr} {m : MA} {pos : Pos} (h : ∀ t : TA, PA X es t → PS X (.Assign [tp] t2 pos) (tPar3 i j l t)) (ha : PAm G X es m) : PSm G X (.Assign [tp] t2 pos) (sPar3 i j l m) := fun W ok => PS_imp (h _ (ha W ok)) fun E σ H ⟨sd, S, ρ, hs, hr, h⟩ =>
  ⟨sd, S, ρ, hs, hr, AftS.bind h hs fun ρ1 H1 v d S1 le r1 rd h1 => by
    match d, rd, h1 with
    | [], rd, h1 => exact h1.elim
    | [_], rd, h1 => exact h1.elim
    | [_, _], rd, h1 => exact h1.elim
    | [d, e, f], rd, h1 =>
      simp only [RelDs] at rd
      obtain ⟨v1, _, rfl, r2, v2, _, rfl, r3, v3, _, rfl, r4, rfl⟩ := rd
      exact ⟨v1, v2, v3, rfl, h1 ρ1 H1 _ Le.refl r1 ((((hs.mono le).set r2 i).set r3 j).set r4 l)⟩
    | _ :: _ :: _ :: _ :: _, rd, h1 => exact h1.elim⟩
/-! ### list(d.values()) -/
theorem pe_listValues {e : Expr} {te : TE} {p apos cpos pos : Pos} (hc : X.calm = true) (he : PE X e te) (hg : Gl X "list") (hm : X.mg "list" = none) (hv : bootBuiltins "list" = some (.type "list")) (hbase : attributeBase e "values" X.env (eval e X.env) = eval e X.env := by rfl) (hline : (apos.endLine == cpos.line) = true := by rfl)
    (hs : starEach [.Call (.Attribute e "values" apos) [] [] cpos] X.env = (false, eval (.Call (.Attribute e "values" apos) [] [] cpos) X.env) :: starEach [] X.env := by rfl) :
    PE X (.Call (.Name "list" p) [.Call (.Attribute e "values" apos) [] [] cpos] [] pos) (fun σ H Q => te σ H fun x H1 => ∃ (d : Addr) (kvs : List (Key × V)), x = .ref d ∧ H1 d = some (.dK kvs) ∧ ∀ q, H1 q = none → Q (.ref q) (L2.upd H1 q (.lst (kvs.map (·.2))))) := by
  refine ⟨fun pins s σ H Q I hq => ?_⟩
  refine wpAny_Call_Name_kw (ld_blt I hg hm hv ?_)
  refine PyProof.Rows.callWith_type1 ?_ hs rfl
  rw [hs]
  show wpAny _ _ (spliced ((false, eval (.Call (.Attribute e "values" apos) [] [] cpos) X.env) :: backTo pos (starEach [] X.env))) _ _ s
  refine Calls.spliced_cons ?_
  refine wpAny_Call_method (T := "dict") (id := "dict.values") hbase rfl hline PySem.F.plainAttrs_dict PySem.F.slot_dict_values PySem.F.type_dict_values (thn (he.run pins s σ H _ I hq) fun u s1 ⟨x, H1, I1, rx, d, kvs, ex, hd, q⟩ => ?_)
  subst ex
  obtain rfl : u = Value.ref d := rx
  obtain ⟨hz, hs0, vs, kv, hdo⟩ := I1.hok d _ hd
  obtain ⟨ep, hat⟩ := hdo.dictAt
  have lk : kvs.length = vs.length := Paired.length kv
  have I2 : Inv X pins σ H1 { s1 with heap := s1.heap.push { cls := .type "dict_values", data := .fields #[.ref d] } } := I1.kept (t' := s1.toks) fun b ob q => Heap.get?_push_of_some _ q
  refine ⟨hdo.typeIs, hdo.mapOf.noDict, ?_⟩
  show wpAny _ _ (callWith cpos (.builtin "dict.values") [.ref d] [] []) _ X.xe s1
  refine method_meetsIn PySem.F.slot_dict_values PySem.F.entry_dict_values rfl (PySem.evalArgs_none ⟨rfl, hdo.typeIs, PySem.F.args_dict_values_1 _, _, meets_dict_values (mixKind X.prog X.w) d hs0, ⟨vs, hdo⟩, ?_⟩)
  refine Calls.spliced_nil ?_
  refine PySem.W.kdl_call (PySem.W.kdl_values (knd := mixKind X.prog X.w) (d := d) (kvs := vs) (ep := ep)) (I1.ok.hd hc) ⟨⟨_, Heap.get?_push_size _ rfl, rfl, rfl⟩, hat.push _⟩ (by omega) fun h' tk acc' c' hkeep hS hacc => ?_
  refine ⟨.ref _, L2.upd H1 _ (.lst (kvs.map (·.2))), I2.laid hkeep (Nat.le_refl _) (show ObjOk X.prog X.w _ _ _ (.lst (kvs.map (·.2))) from ⟨?_, acc'.toList, c', ?_, ?_⟩), rfl, q _ (I2.hok.fresh (Nat.le_refl _))⟩
  · rw [List.length_map]; exact hz
  · have el : acc'.toList.length = acc'.size := by simp
    refine vals_of_at (by rw [List.length_map, el, hacc.1, lk]) fun j x w h1 h2 => ?_
    obtain ⟨k, hky⟩ := hacc.2 j w (by rw [← Array.getElem?_toList]; exact h2)
    rw [List.getElem?_map] at h1
    obtain ⟨q1, e1, e2⟩ := Option.map_eq_some_iff.mp h1
    obtain ⟨qv, g1, g2, g3⟩ := LiI.paired_get kv e1
    rw [hky] at g1
    cases g1
    rw [← e2]
    exact g3
  · rw [Array.toArray_toList]; exact hS
def fValues (d : D) (S : Sto) : Res D := match d with
  | .loc n => (match S.get n with
    | some (.dct 0 l) => if isK l then .ok (.loc S.n) (S.new (.lst (l.map (·.2)))) else .stuck
    | _ => .stuck)
  | _ => .stuck
theorem vals_relD : ∀ {l : List (D × D)} {kvs : List (Key × V)}, PairK keyD G ρ H l kvs → RelDs G ρ H (l.map (·.2)) (kvs.map (·.2))
  | [], kvs, h => by cases h; simp only [List.map_nil, RelDs]
  | p :: r, kvs, h => by
    obtain ⟨k, v, zs, rfl, h1, h2, h3⟩ := h
    exact .cons h2 (vals_relD h3)
theorem pm_listValues {e : Expr} {m : ME} {p pos apos cpos : Pos} (hc : X.calm = true) (he : PEm G X e m) (hg : Gl X "list") (hm : X.mg "list" = none) (hv : bootBuiltins "list" = some (.type "list") := by decide +kernel) (hbase : attributeBase e "values" X.env (eval e X.env) = eval e X.env := by rfl) (hline : (apos.endLine == cpos.line) = true := by rfl)
    (hs : starEach [.Call (.Attribute e "values" apos) [] [] cpos] X.env = (false, eval (.Call (.Attribute e "values" apos) [] [] cpos) X.env) :: starEach [] X.env := by rfl) :
    PEm G X (.Call (.Name "list" p) [.Call (.Attribute e "values" apos) [] [] cpos] [] pos) (mUn fValues m) := fun W ok => PE_imp (pe_listValues hc (he W ok) hg hm hv hbase hline hs) fun σ H Q ⟨sd, S, ρ, hs, hr, h⟩ =>
  ⟨sd, S, ρ, hs, hr, Aft.bind h fun ρ1 H1 x d S1 le1 r1 rd h1 => by
    unfold fValues at h1
    split at h1
    · rename_i n
      split at h1
      · rename_i l el
        split at h1
        · rename_i hk
          simp only [RelD] at rd
          obtain ⟨a, en, rfl⟩ := rd
          obtain ⟨kvs, hH, pk⟩ := dct0_at r1 el en hk
          refine ⟨a, kvs, rfl, hH, fun q hq => ?_⟩
          have le : Le G ρ1 H1 (ext ρ1 S1.n q) (L2.upd H1 q (.lst (kvs.map (·.2)))) := (Le.ext (r1.top _ (Nat.le_refl _))).trans (Le.same (same_new hq))
          exact h1 _ _ _ le (r1.new hq ⟨_, upd_same, vals_relD (pk.mono le)⟩) (RelD.loc' ext_same)
        · exact h1.elim
      · exact h1.elim
    · exact h1.elim⟩
/-! ### min(d, default=x), max(d, default=x) -/
theorem moved_one {s s' : Shared} {o : Obj} (m : Moved [s.heap.objs.size] (fun a b => b = a) { s with heap := s.heap.push o } s') : ∃ h' tk, s' = { s with heap := h', toks := tk } ∧ ∀ b u, s.heap.get? b = some u → h'.get? b = some u := by
  have k : ∀ b u, s.heap.get? b = some u → s'.heap.get? b = some u := fun b u e => m.heap b u (fun hb => by
    have e1 := List.mem_singleton.mp hb
    have e2 := Heap.lt_size e
    rw [e1] at e2
    exact Nat.lt_irrefl _ e2) (Heap.get?_push_of_some _ e)
  have h1 := m.gens
  have h2 := m.drawn
  have h3 := m.os
  cases s'
  cases h1
  cases h2
  cases h3
  exact ⟨_, _, rfl, k⟩
theorem call_minKD (hc : X.calm = true) : CallRK X (.builtin "min") [Str.ofString "default"] (fun vs zs H Q => ∃ (a : Addr) (kvs : List (Key × V)) (is : List Int) (z : V), vs = [V.ref a] ∧ zs = [z] ∧ H a = some (.dK kvs) ∧ kvs.map (·.1) = is.map Sum.inl ∧ (is = [] → Q z H) ∧ (is ≠ [] → ∀ m, m ∈ is → (∀ j ∈ is, m ≤ j) → Q (.int m) H)) := by
  intro pins s σ H vs zs us ws Q I r rz h
  obtain ⟨a, kvs, is, z, rfl, rfl, ha, hv, q0, q⟩ := h
  rw [Vals.ref1 r]
  obtain ⟨w1, rfl, rw1⟩ := vals1 rz
  obtain ⟨_, hsys, vs, rel, dof⟩ := dk_of I.hok ha
  obtain ⟨ep, dat⟩ := dof.dictAt
  obtain ⟨ob, es, ho, hex, hdat, hko, hpr, hnd⟩ := id dat
  have hlt : a < s.heap.objs.size := Heap.lt_size ho
  have hkeys : vs.map (·.1) = is.map Sum.inl := (KV.keys rel).symm.trans hv
  have hlv : vs.length = is.length := by simpa using congrArg List.length hkeys
  have hval : ∀ (i : Nat) (v : Value), (∃ k x, vs[i]? = some (k, x) ∧ (mixKind X.prog X.w).is k v = true) → ∃ t, v = Value.int (is.getD i 0) t := fun i v ⟨k, x, hk, hkey⟩ => by
    have e1 : (vs.map (·.1))[i]? = some k := by rw [List.getElem?_map, hk] <;> rfl
    rw [hkeys, List.getElem?_map] at e1
    obtain ⟨j, hj, e2⟩ := Option.map_eq_some_iff.mp e1
    subst e2
    obtain ⟨t, e3⟩ := Value.isInt_shape (k := j) (v := v) (show Value.isInt j v = true from hkey)
    exact ⟨t, by rw [e3, List.getD_eq_getElem?_getD, hj] <;> rfl⟩
  have none0 : ∀ (b : Addr) (o : Obj), (⟨#[], {}⟩ : Heap).get? b = some o → False := fun b o e => absurd (Heap.lt_size e) (Nat.not_lt_zero _)
  refine call_min_walkD (wpAny_pyIter_dict (knd := mixKind X.prog X.w) hsys dat ?_)
  refine ⟨_, _, _, _, _, _, _, ⟨#[], {}⟩, _, rfl, Walks.toS (Walks.dictKeys (knd := mixKind X.prog X.w) (A := X.A.in1) (I.ok.hd hc) s.heap.objs.size a (Nat.ne_of_lt hlt) vs ep),
    ⟨⟨_, Heap.get?_push_size _ rfl, rfl, rfl⟩, dat.keep fun b u e => Heap.get?_push_of_some _ e⟩, fun b hb => ?_, fun b o e => (none0 b o e).elim, fun b o e => (none0 b o e).elim, fun hz s' m => ?_, fun hp => ⟨fun i j vi vj s1 Q E _ h1 h2 h3 => CmpOf.ints_lt (fun i => is.getD i 0) hval i j vi vj s1 Q E h1 h2 h3, fun v s' hP m => ?_⟩⟩
  · show b < (s.heap.push _).objs.size
    rw [Heap.size_push]
    rcases List.mem_cons.mp hb with e | hb
    · rw [e]; exact Nat.lt_succ_self _
    · rw [List.mem_singleton.mp hb]; exact Nat.lt_succ_of_lt hlt
  · obtain ⟨h', tk, rfl, hk'⟩ := moved_one m
    exact ⟨z, H, I.kept (t' := tk) hk', rw1, q0 (List.eq_nil_of_length_eq_zero (by omega))⟩
  · obtain ⟨h', tk, rfl, hk'⟩ := moved_one m
    obtain ⟨t, rfl⟩ := hval _ v hP
    obtain ⟨b1, b2⟩ := argBest_lt (fun i => is.getD i 0) (vs.length - 1)
    have hne : is ≠ [] := fun z => by rw [z] at hlv; rw [hlv] at hp; exact absurd hp (Nat.lt_irrefl _)
    have hpos : 0 < is.length := List.length_pos_iff.mpr hne
    refine ⟨.int _, H, I.kept (t' := tk) hk', ⟨t, rfl⟩, q hne _ ?_ fun j hj => ?_⟩
    · have hb : argBest (fun i j => decide (is.getD i 0 < is.getD j 0)) (vs.length - 1) < is.length := by omega
      rw [List.getD_eq_getElem?_getD, List.getElem?_eq_getElem hb]
      exact List.getElem_mem hb
    · obtain ⟨i, hi, e⟩ := List.mem_iff_getElem.mp hj
      have e2 : is.getD i 0 = j := by rw [List.getD_eq_getElem?_getD, List.getElem?_eq_getElem hi, ← e] <;> rfl
      rw [← e2]
      exact b2 i (by omega)
theorem call_maxKD (hc : X.calm = true) : CallRK X (.builtin "max") [Str.ofString "default"] (fun vs zs H Q => ∃ (a : Addr) (kvs : List (Key × V)) (is : List Int) (z : V), vs = [V.ref a] ∧ zs = [z] ∧ H a = some (.dK kvs) ∧ kvs.map (·.1) = is.map Sum.inl ∧ (is = [] → Q z H) ∧ (is ≠ [] → ∀ m, m ∈ is → (∀ j ∈ is, j ≤ m) → Q (.int m) H)) := by
  intro pins s σ H vs zs us ws Q I r rz h
  obtain ⟨a, kvs, is, z, rfl, rfl, ha, hv, q0, q⟩ := h
  rw [Vals.ref1 r]
  obtain ⟨w1, rfl, rw1⟩ := vals1 rz
  obtain ⟨_, hsys, vs, rel, dof⟩ := dk_of I.hok ha
  obtain ⟨ep, dat⟩ := dof.dictAt
  obtain ⟨ob, es, ho, hex, hdat, hko, hpr, hnd⟩ := id dat
  have hlt : a < s.heap.objs.size := Heap.lt_size ho
  have hkeys : vs.map (·.1) = is.map Sum.inl := (KV.keys rel).symm.trans hv
  have hlv : vs.length = is.length := by simpa using congrArg List.length hkeys
  have hval : ∀ (i : Nat) (v : Value), (∃ k x, vs[i]? = some (k, x) ∧ (mixKind X.prog X.w).is k v = true) → ∃ t, v = Value.int (is.getD i 0) t := fun i v ⟨k, x, hk, hkey⟩ => by
    have e1 : (vs.map (·.1))[i]? = some k := by rw [List.getElem?_map, hk] <;> rfl
    rw [hkeys, List.getElem?_map] at e1
    obtain ⟨j, hj, e2⟩ := Option.map_eq_some_iff.mp e1
    subst e2
    obtain ⟨t, e3⟩ := Value.isInt_shape (k := j) (v := v) (show Value.isInt j v = true from hkey)
    exact ⟨t, by rw [e3, List.getD_eq_getElem?_getD, hj] <;> rfl⟩
  have none0 : ∀ (b : Addr) (o : Obj), (⟨#[], {}⟩ : Heap).get? b = some o → False := fun b o e => absurd (Heap.lt_size e) (Nat.not_lt_zero _)
  refine call_max_walkD (wpAny_pyIter_dict (knd := mixKind X.prog X.w) hsys dat ?_)
  refine ⟨_, _, _, _, _, _, _, ⟨#[], {}⟩, _, rfl, Walks.toS (Walks.dictKeys (knd := mixKind X.prog X.w) (A := X.A.in1) (I.ok.hd hc) s.heap.objs.size a (Nat.ne_of_lt hlt) vs ep),
    ⟨⟨_, Heap.get?_push_size _ rfl, rfl, rfl⟩, dat.keep fun b u e => Heap.get?_push_of_some _ e⟩, fun b hb => ?_, fun b o e => (none0 b o e).elim, fun b o e => (none0 b o e).elim, fun hz s' m => ?_, fun hp => ⟨fun i j vi vj s1 Q E _ h1 h2 h3 => CmpOf.ints_gt (fun i => is.getD i 0) hval i j vi vj s1 Q E h1 h2 h3, fun v s' hP m => ?_⟩⟩
  · show b < (s.heap.push _).objs.size
    rw [Heap.size_push]
    rcases List.mem_cons.mp hb with e | hb
    · rw [e]; exact Nat.lt_succ_self _
    · rw [List.mem_singleton.mp hb]; exact Nat.lt_succ_of_lt hlt
  · obtain ⟨h', tk, rfl, hk'⟩ := moved_one m
    exact ⟨z, H, I.kept (t' := tk) hk', rw1, q0 (List.eq_nil_of_length_eq_zero (by omega))⟩
  · obtain ⟨h', tk, rfl, hk'⟩ := moved_one m
    obtain ⟨t, rfl⟩ := hval _ v hP
    obtain ⟨b1, b2⟩ := argBest_gt (fun i => is.getD i 0) (vs.length - 1)
    have hne : is ≠ [] := fun z => by rw [z] at hlv; rw [hlv] at hp; exact absurd hp (Nat.lt_irrefl _)
    have hpos : 0 < is.length := List.length_pos_iff.mpr hne
    refine ⟨.int _, H, I.kept (t' := tk) hk', ⟨t, rfl⟩, q hne _ ?_ fun j hj => ?_⟩
    · have hb : argBest (fun i j => decide (is.getD i 0 > is.getD j 0)) (vs.length - 1) < is.length := by omega
      rw [List.getD_eq_getElem?_getD, List.getElem?_eq_getElem hb]
      exact List.getElem_mem hb
    · obtain ⟨i, hi, e⟩ := List.mem_iff_getElem.mp hj
      have e2 : is.getD i 0 = j := by rw [List.getD_eq_getElem?_getD, List.getElem?_eq_getElem hi, ← e] <;> rfl
      rw [← e2]
      exact b2 i (by omega)
def fMinD (ds es : List D) (S : Sto) : Res D := match ds, es with
  | [.loc n], [e] => (match S.get n with
    | some (.dct 0 l) => (match intKeys l with
      | some [] => .ok e S
      | some (x :: r) => .ok (.int (minI (x :: r))) S
      | none => .stuck)
    | _ => .stuck)
  | _, _ => .stuck
theorem pm_minD {e k : Expr} {m mk : ME} {kp : Pos} {p pos : Pos} (hc : X.calm = true) (he : PEm G X e m) (hk : PEm G X k mk) (hg : Gl X "min") (hm : X.mg "min" = none) (hv : bootBuiltins "min" = some (.builtin "min") := by decide +kernel)
    (h1 : starEach [e] X.env = (false, eval e X.env) :: starEach [] X.env := by rfl)
    (h2 : backTo pos (starEach [e] X.env) = (false, eval e X.env) :: backTo pos (starEach [] X.env) := by rfl) (hpl : (backTo pos (starEach [e] X.env)).any (·.1) = false := by rfl)
    (hall : (backToKw pos (keywordEach [⟨some "default", k, kp⟩] X.env)).all (·.1.isSome) = true := by rfl) (hnone : (backToKw pos (keywordEach [⟨some "default", k, kp⟩] X.env)).any (·.1.isNone) = false := by rfl) (hks : (backToKw pos (keywordEach [⟨some "default", k, kp⟩] X.env)).filterMap (·.1) = [Str.ofString "default"] := by rfl) :
    PEm G X (.Call (.Name "min" p) [e] [⟨some "default", k, kp⟩] pos) (mCallK fMinD (mCons m mNil) (mCons mk mNil)) := fun W ok => PE_imp (pe_callBK (call_minKD hc) hg hm hv (pa_consm he pa_nilm h1 W ok) (pk_consm hk pk_nilm W ok) (by decide) (by decide) h2 hpl hall hnone hks) fun σ H Q ⟨sd, S, ρ, hs, hr, h⟩ =>
  ⟨sd, S, ρ, hs, hr, Aft.bind h fun ρ1 H1 xs ds S1 le1 r1 rd h1 => ⟨sd, S1, ρ1, hs.mono le1, r1, Aft.bind h1 fun ρ2 H2 ys es S2 le2 r2 re h2 => by
    have rd := RelDs.mono le2 rd
    unfold fMinD at h2
    split at h2
    · rename_i n e
      simp only [RelDs] at rd re
      obtain ⟨v, _, rfl, rd, rfl⟩ := rd
      obtain ⟨z, _, rfl, re, rfl⟩ := re
      split at h2
      · rename_i l el
        simp only [RelD] at rd
        obtain ⟨a, en, rfl⟩ := rd
        split at h2
        · rename_i ek
          obtain ⟨kvs, hH, pk⟩ := dct0_at r2 el en (intKeys_isK ek)
          exact ⟨a, kvs, [], z, rfl, rfl, hH, intKeys_rel ek pk, fun _ => h2.ok r2 re, fun z => absurd rfl z⟩
        · rename_i x r' ek
          obtain ⟨kvs, hH, pk⟩ := dct0_at r2 el en (intKeys_isK ek)
          refine ⟨a, kvs, x :: r', z, rfl, rfl, hH, intKeys_rel ek pk, fun z => by simp at z, fun _ m h1 h3 => ?_⟩
          obtain ⟨k1, k2⟩ := minI_ok (l := x :: r') (by simp)
          have e2 : m = minI (x :: r') := by
            have a1 := h3 _ k1
            have a2 := k2 _ h1
            omega
          rw [e2]
          exact h2.ok r2 rel_int
        · exact h2.elim
      · exact h2.elim
    · exact h2.elim⟩⟩
def fMaxD (ds es : List D) (S : Sto) : Res D := match ds, es with
  | [.loc n], [e] => (match S.get n with
    | some (.dct 0 l) => (match intKeys l with
      | some [] => .ok e S
      | some (x :: r) => .ok (.int (maxI (x :: r))) S
      | none => .stuck)
    | _ => .stuck)
  | _, _ => .stuck
theorem pm_maxD {e k : Expr} {m mk : ME} {kp : Pos} {p pos : Pos} (hc : X.calm = true) (he : PEm G X e m) (hk : PEm G X k mk) (hg : Gl X "max") (hm : X.mg "max" = none) (hv : bootBuiltins "max" = some (.builtin "max") := by decide +kernel)
    (h1 : starEach [e] X.env = (false, eval e X.env) :: starEach [] X.env := by rfl)
    (h2 : backTo pos (starEach [e] X.env) = (false, eval e X.env) :: backTo pos (starEach [] X.env) := by rfl) (hpl : (backTo pos (starEach [e] X.env)).any (·.1) = false := by rfl)
    (hall : (backToKw pos (keywordEach [⟨some "default", k, kp⟩] X.env)).all (·.1.isSome) = true := by rfl) (hnone : (backToKw pos (keywordEach [⟨some "default", k, kp⟩] X.env)).any (·.1.isNone) = false := by rfl) (hks : (backToKw pos (keywordEach [⟨some "default", k, kp⟩] X.env)).filterMap (·.1) = [Str.ofString "default"] := by rfl) :
    PEm G X (.Call (.Name "max" p) [e] [⟨some "default", k, kp⟩] pos) (mCallK fMaxD (mCons m mNil) (mCons mk mNil)) := fun W ok => PE_imp (pe_callBK (call_maxKD hc) hg hm hv (pa_consm he pa_nilm h1 W ok) (pk_consm hk pk_nilm W ok) (by decide) (by decide) h2 hpl hall hnone hks) fun σ H Q ⟨sd, S, ρ, hs, hr, h⟩ =>
  ⟨sd, S, ρ, hs, hr, Aft.bind h fun ρ1 H1 xs ds S1 le1 r1 rd h1 => ⟨sd, S1, ρ1, hs.mono le1, r1, Aft.bind h1 fun ρ2 H2 ys es S2 le2 r2 re h2 => by
    have rd := RelDs.mono le2 rd
    unfold fMaxD at h2
    split at h2
    · rename_i n e
      simp only [RelDs] at rd re
      obtain ⟨v, _, rfl, rd, rfl⟩ := rd
      obtain ⟨z, _, rfl, re, rfl⟩ := re
      split at h2
      · rename_i l el
        simp only [RelD] at rd
        obtain ⟨a, en, rfl⟩ := rd
        split at h2
        · rename_i ek
          obtain ⟨kvs, hH, pk⟩ := dct0_at r2 el en (intKeys_isK ek)
          exact ⟨a, kvs, [], z, rfl, rfl, hH, intKeys_rel ek pk, fun _ => h2.ok r2 re, fun z => absurd rfl z⟩
        · rename_i x r' ek
          obtain ⟨kvs, hH, pk⟩ := dct0_at r2 el en (intKeys_isK ek)
          refine ⟨a, kvs, x :: r', z, rfl, rfl, hH, intKeys_rel ek pk, fun z => by simp at z, fun _ m h1 h3 => ?_⟩
          obtain ⟨k1, k2⟩ := maxI_ok (l := x :: r') (by simp)
          have e2 : m = maxI (x :: r') := by
            have a1 := h3 _ k1
            have a2 := k2 _ h1
            omega
          rw [e2]
          exact h2.ok r2 rel_int
        · exact h2.elim
      · exact h2.elim
    · exact h2.elim⟩⟩
end
end Y

/-! Zc: classmethods with keywords, try .. except C: .. -/
namespace Y
open PySem PySem.Spec PyProof.Rows L2
section
variable {G : Glo} {X : Cx} {ρ : Rho} {H : Hp}
def mCmethK (c : Nat) (f : MK) (a k : MA) : ME := fun sd S => (a sd S).bind fun ds S1 => (k sd S1).bind fun es S2 => f (.cls c :: ds) es S2
theorem pm_cmethK {x m : Str} {g C : Addr} {c k n : Nat} {fd : FuncData} {ps : List Str} {gd : List D → List D → List D} {f : MF} {e : Expr} {es : List Expr} {kws : List Keyword} {ks : List Str} {ma mk : MA} {np apos pos : Pos} {pl : Sem Bool} (hC : G.ca c = .ref C) (hx : Gl X x) (hm : X.mg x = some (.ref C)) (cm : CmC G c m g) (F : FnB G X.prog X.w X.mg X.base k g fd ps f) (B : BnD G fd ps n ks gd) (hr : Room k X.A) (hg : X.A.guards = some []) (ha : PAm G X (e :: es) ma) (hkw : PKm G X kws mk)
    (hdb : (x == ("__debug__" : Str)) = false := by decide) (hst : starEach (e :: es) X.env = (false, eval e X.env) :: starEach es X.env := by rfl)
    (hpl : ((backTo pos (starEach (e :: es) X.env)).any (·.1) || (backToKw pos (keywordEach kws X.env)).any (·.1.isNone)) = false := by rfl)
    (hall : (backToKw pos (keywordEach kws X.env)).all (·.1.isSome) = true := by rfl) (hks : (backToKw pos (keywordEach kws X.env)).filterMap (·.1) = ks := by rfl)
    (hv : eval (.Call (.Attribute (.Name x np) m apos) (e :: es) kws pos) X.env = (do
      let ov ← eval (.Name x np) X.env
      standAt apos.atName
      let (f, first) ← holding [ov] (getMethod ov m pl)
      callWith pos f first (backTo pos (starEach (e :: es) X.env)) (backToKw pos (keywordEach kws X.env))) := by rfl) :
    PEm G X (.Call (.Attribute (.Name x np) m apos) (e :: es) kws pos) (mCmethK c (mkK n ks.length gd f) ma mk) := fun W ok => by
  refine ⟨fun pins s σ H Q I h => ?_⟩
  obtain ⟨sd, S, ρ, hs, hr', h⟩ := h
  obtain ⟨C', mc, p, hC', cr, ct⟩ := cm.ex
  rw [hC] at hC'
  cases hC'
  rw [ok.kk] at cr ct
  refine PySem.W.methodCall_KW (pl := pl) (thn ((pe_glob (v := .ref C) hx hm rfl hdb).run pins s σ H _ I (show tC (.ref C) σ H (fun v H1 => v = .ref C ∧ H1 = H) from ⟨rfl, rfl⟩)) fun u s1 ⟨v, H1, I1, rv, e1, e2⟩ => ?_) hv
  subst e1 e2
  cases rv
  refine ClX.getmethcm_ok I1 cr ct fun s2 I2 => ?_
  have t : ta G ma W σ H1 (fun xs H2 => ∃ ρ2 S2 ds, RelSt G ρ2 H2 sd σ ∧ Rep G ρ2 S2 H2 ∧ RelDs G ρ2 H2 ds xs ∧ Aft G (RelD G) ρ2 H2 ((mk sd S2).bind fun es S3 => mkK n ks.length gd f (.cls c :: ds) es S3) Q (fun c a H' => W c a σ H')) := ⟨sd, S, ρ, hs, hr', Aft.bind h fun ρ1 H1 x d S1 le1 r1 rd h1 => ⟨ρ1, S1, d, hs.mono le1, r1, rd, h1⟩⟩
  refine PySem.W.callWith_of (P := PySem.W.MethP X.K s1.heap.objs.size g (.ref C)) hpl (PySem.W.keeps_M ct.fi) (PyProof.Rows.evalArgs_kw2 hall (thn ((ha W ok).run pos _ s2 σ H1 _ I2 t) fun us s3 ⟨vs, H2, I3, rv, q2⟩ => ?_) hst)
  obtain ⟨ρ2, S2, ds, hs2, rp2, rd2, q2⟩ := q2
  have t2 : ta G mk W σ H2 (fun zs H3 => ∃ ρ3 S3 es, Rep G ρ3 S3 H3 ∧ RelDs G ρ3 H3 ds vs ∧ RelDs G ρ3 H3 es zs ∧ Aft G (RelD G) ρ3 H3 (mkK n ks.length gd f (.cls c :: ds) es S3) Q (fun c a H' => W c a σ H')) := ⟨sd, S2, ρ2, hs2, rp2, Aft.bind q2 fun ρ3 H3 x d S3 le3 r3 rd3 h3 => ⟨ρ3, S3, d, r3, rd2.mono le3, rd3, h3⟩⟩
  refine thn ((hkw W ok).run pos _ s3 σ H2 _ I3 t2) fun ws s4 ⟨zs, H3, I4, rz, q3⟩ => ⟨⟨ClX.pin_at I4, I4.kIn⟩, ?_⟩
  obtain ⟨ρ3, S3, es', rp3, rd3, re3, q3⟩ := q3
  rw [hks]
  exact run_cmK ok hC F B hr hg I4 rv rz rp3 rd3 re3 q3
/-! ### try -/
/-- which exceptions a class takes: by a table -/
structure ExOk (G : Glo) (kx : Nat → Nat → Option Bool) : Prop where
  ans : ∀ t c b, kx t c = some b → PySem.W.exmOne G.K (G.ca t) (G.ca c) = some b
def exB (K : PySem.W.Frag) (ca : Nat → Value) (ts cs : List Nat) (f : Nat → Nat → Bool) : Bool := ts.all fun t => cs.all fun c => PySem.W.exmOne K (ca t) (ca c) == some (f t c)
theorem exOk_of {ts cs : List Nat} {f : Nat → Nat → Bool} (h : exB G.K G.ca ts cs f = true) : ExOk G (kitOf ts cs f) := ⟨fun t c b e => by
  obtain ⟨h1, h2, h3⟩ := kit_has e
  have := List.all_eq_true.mp (List.all_eq_true.mp h t h1) c h2
  rw [beq_iff_eq] at this
  rw [this, h3]⟩
def noEx : SRes → SRes
  | .ex _ _ _ => .stuck
  | .pick t f => .pick t fun r => noEx (f r)
  | .nx sd S => .nx sd S
  | .rt d S => .rt d S
  | .bk sd S => .bk sd S
  | .ct sd S => .ct sd S
  | .stuck => .stuck
def catch1 (kx : Nat → Nat → Option Bool) (c : Nat) (h : MS) : SRes → SRes
  | .ex x sd S => (match kx x.cls c with
    | some true => noEx (h sd S)
    | some false => .ex x sd S
    | none => .stuck)
  | .pick t f => .pick t fun r => catch1 kx c h (f r)
  | .nx sd S => .nx sd S
  | .rt d S => .rt d S
  | .bk sd S => .bk sd S
  | .ct sd S => .ct sd S
  | .stuck => .stuck
def sTry1 (kx : Nat → Nat → Option Bool) (c : Nat) (m h : MS) : MS := fun sd S => catch1 kx c h (m sd S)
theorem AftS.noex {r : SRes} {E : Ends} {W : WX} (h : AftS G ρ H (noEx r) E W) : AftS G ρ H r E Wno := by
  induction r with
  | nx sd S => exact h
  | rt d S => exact h
  | bk sd S => exact h
  | ct sd S => exact h
  | ex x sd S => exact h.elim
  | stuck => exact h
  | pick t f ih => exact fun r hr => ih r (h r hr)
theorem AftS.catch1 {kx : Nat → Nat → Option Bool} {c : Nat} {h : MS} {r : SRes} {D : Ends} {W : WX} (kk : ExOk G kx) (a : AftS G ρ H (catch1 kx c h r) D W) : AftS G ρ H r D (wOnly G.K (G.ca c) (fun _ _ _ => ts G h Wno) W D) := by
  induction r with
  | nx sd S => exact a
  | rt d S => exact a
  | bk sd S => exact a
  | ct sd S => exact a
  | stuck => exact a
  | pick t f ih => exact fun r hr => ih r (a r hr)
  | ex x sd S =>
    intro ρ' H' σ' cls dd le rp rs rx
    have a' : AftS G ρ H (match kx x.cls c with
      | some true => noEx (h sd S)
      | some false => .ex x sd S
      | none => .stuck) D W := a
    cases e : kx x.cls c with
    | none => rw [e] at a'; exact a'.elim
    | some b =>
      rw [e] at a'
      refine ⟨b, by rw [rx.1]; exact kk.ans _ _ _ e, fun hb _ _ => ?_, fun hb => ?_⟩
      · subst hb
        exact ⟨sd, S, ρ', rs, rp, (a'.le le).noex⟩
      · subst hb
        exact a' ρ' H' σ' cls dd le rp rs rx
theorem ps_try1 {x : Str} {c : Nat} {kx : Nat → Nat → Option Bool} {body suite : List Stmt} {b₀ : Stmt} {m h : MS} {np pos pos' : Pos} (kk : ExOk G kx) (hs : X.stack = X.env :: X.outer) (hf : X.env.frame = some X.env.locals) (hc : Names X x (G.ca c))
    (hb : ∀ pn xe, PSsm G (X.tr pn xe) body m) (hsu : ∀ a pn, PSsm G (X.suite a pn) (b₀ :: suite) h) : PSm G X (.Try body [.ExceptHandler (some (.Name x np)) none (b₀ :: suite) pos'] [] [] pos) (sTry1 kx c m h) := fun W ok =>
  PS_imp (ps_try_only (tb := fun W => ts G m W) (ts := fun _ _ _ => ts G h Wno) hs hf hc ok.tk (fun W pn xe tk own => hb pn xe W ⟨tk, own, ok.kk⟩) (fun a oe cls d pn _ _ => hsu a _ Wno ⟨fun u s' ⟨_, _, _, _, _, _, _, _, _, _, _, _, _, _, _, _, w⟩ => w, PassesOwn.never, ok.kk⟩))
    fun E σ H ⟨sd, S, ρ, rs, rp, a⟩ => ⟨sd, S, ρ, rs, rp, by rw [← ok.kk]; exact a.catch1 kk⟩
end
end Y

/-! W0: rows as lists of pairs: sums against a test function. -/
namespace W
abbrev T := List (Int × Int)
def tot (h : Int → Int) : T → Int
  | [] => 0
  | p :: r => p.2 * h p.1 + tot h r
theorem tot_app (h : Int → Int) : ∀ a b : T, tot h (a ++ b) = tot h a + tot h b
  | [], b => by simp [tot]
  | p :: a, b => by simp only [List.cons_append, tot, tot_app h a b]; omega
theorem tot_add (h g : Int → Int) : ∀ a : T, tot (fun x => h x + g x) a = tot h a + tot g a
  | [] => by simp [tot]
  | p :: a => by simp only [tot, tot_add h g a, Int.mul_add]; omega
theorem tot_mul (c : Int) (h : Int → Int) : ∀ a : T, tot (fun x => c * h x) a = c * tot h a
  | [] => by simp [tot]
  | p :: a => by
    simp only [tot, tot_mul c h a, Int.mul_add]
    rw [Int.mul_left_comm]
theorem tot_mulr (c : Int) (h : Int → Int) (a : T) : tot (fun x => h x * c) a = tot h a * c := by
  have : (fun x => h x * c) = fun x => c * h x := by funext x; exact Int.mul_comm _ _
  rw [this, tot_mul, Int.mul_comm]
theorem tot_zero : ∀ a : T, tot (fun _ => 0) a = 0
  | [] => rfl
  | p :: a => by simp [tot, tot_zero a]
theorem tot_swap (k : Int → Int → Int) : ∀ a b : T, tot (fun x => tot (fun y => k x y) b) a = tot (fun y => tot (fun x => k x y) a) b
  | [], b => by simp [tot, tot_zero]
  | p :: a, b => by
    simp only [tot, tot_swap k a b]
    rw [← tot_mul, ← tot_add]
theorem tot_congr {h g : Int → Int} (e : ∀ x, h x = g x) (a : T) : tot h a = tot g a := by rw [show h = g from funext e]
def Eqv (a b : T) : Prop := ∀ h, tot h a = tot h b
/-- dicts -/
def val (t : T) (e : Int) : Int := match t with
  | [] => 0
  | p :: r => if p.1 = e then p.2 else val r e
def has (t : T) (e : Int) : Bool := match t with
  | [] => false
  | p :: r => decide (p.1 = e) || has r e
def put (t : T) (e c : Int) : T := if t.any (fun p => decide (p.1 = e)) then t.map (fun p => if p.1 = e then (p.1, c) else p) else t ++ [(e, c)]
def Nd (t : T) : Prop := (t.map (·.1)).Nodup
def addTo (t : T) (e x : Int) : T := put t e (val t e + x)
def dl (e : Int) (x : Int) : Int := if x = e then 1 else 0
theorem val_none {t : T} {e : Int} (h : t.any (fun p => decide (p.1 = e)) = false) : val t e = 0 := by
  induction t with
  | nil => rfl
  | cons p r ih =>
    rw [List.any_cons, Bool.or_eq_false_iff, decide_eq_false_iff_not] at h
    unfold val
    rw [if_neg h.1]
    exact ih h.2
theorem map_none {t : T} {e c : Int} (h : t.any (fun p => decide (p.1 = e)) = false) : t.map (fun p => if p.1 = e then (p.1, c) else p) = t := by
  induction t with
  | nil => rfl
  | cons p r ih =>
    rw [List.any_cons, Bool.or_eq_false_iff, decide_eq_false_iff_not] at h
    rw [List.map_cons, if_neg h.1, ih h.2]
theorem nd_cons {p : Int × Int} {r : T} (h : Nd (p :: r)) : r.any (fun q => decide (q.1 = p.1)) = false ∧ Nd r := by
  unfold Nd at h ⊢
  rw [List.map_cons, List.nodup_cons] at h
  refine ⟨?_, h.2⟩
  rw [List.any_eq_false]
  intro q hq e
  rw [decide_eq_true_eq] at e
  exact h.1 (List.mem_map.mpr ⟨q, hq, e⟩)
theorem tot_rep (h : Int → Int) (e c : Int) : ∀ {t : T}, Nd t → t.any (fun p => decide (p.1 = e)) = true → tot h (t.map fun p => if p.1 = e then (p.1, c) else p) = tot h t + (c - val t e) * h e
  | [], _, ha => by simp at ha
  | p :: r, hn, ha => by
    obtain ⟨h1, h2⟩ := nd_cons hn
    by_cases hp : p.1 = e
    · subst hp
      rw [List.map_cons, if_pos rfl, map_none h1]
      simp only [tot, val, if_true, Int.sub_mul]
      omega
    · rw [List.any_cons, show decide (p.1 = e) = false from by simpa using hp, Bool.false_or] at ha
      rw [List.map_cons, if_neg hp]
      simp only [tot, val, if_neg hp, tot_rep h e c h2 ha]
      omega
theorem tot_put (h : Int → Int) (e c : Int) {t : T} (hn : Nd t) : tot h (put t e c) = tot h t + (c - val t e) * h e := by
  unfold put
  split
  · rename_i ha
    exact tot_rep h e c hn ha
  · rename_i ha
    rw [Bool.not_eq_true] at ha
    rw [tot_app, val_none ha]
    simp [tot]
theorem tot_addTo (h : Int → Int) (e x : Int) {t : T} (hn : Nd t) : tot h (addTo t e x) = tot h t + x * h e := by
  unfold addTo
  rw [tot_put h e _ hn]
  congr 2
  omega
theorem keys_rep (e c : Int) (t : T) : (t.map fun p => if p.1 = e then (p.1, c) else p).map (·.1) = t.map (·.1) := by
  rw [List.map_map]
  refine List.map_congr_left fun p _ => ?_
  show (if p.1 = e then (p.1, c) else p).1 = p.1
  split <;> rfl
theorem nd_put {t : T} (e c : Int) (hn : Nd t) : Nd (put t e c) := by
  unfold put
  split
  · unfold Nd
    rw [keys_rep]
    exact hn
  · rename_i ha
    rw [Bool.not_eq_true, List.any_eq_false] at ha
    unfold Nd at hn ⊢
    rw [List.map_append, List.nodup_append]
    refine ⟨hn, by simp, fun a h1 b h2 e2 => ?_⟩
    obtain ⟨p, hp, rfl⟩ := List.mem_map.mp h1
    have h2 : b = e := by simpa using h2
    exact ha p hp (by rw [decide_eq_true_eq, e2, h2])
theorem nd_addTo {t : T} (e x : Int) (hn : Nd t) : Nd (addTo t e x) := nd_put _ _ hn
/-- sizes -/
def nrm : T → Nat
  | [] => 0
  | p :: r => p.2.natAbs + nrm r
theorem nrm_app : ∀ a b : T, nrm (a ++ b) = nrm a + nrm b
  | [], b => by simp [nrm]
  | p :: a, b => by simp only [List.cons_append, nrm, nrm_app a b]; omega
theorem nrm_rep (e c : Int) : ∀ {t : T}, Nd t → t.any (fun p => decide (p.1 = e)) = true → nrm (t.map fun p => if p.1 = e then (p.1, c) else p) + (val t e).natAbs = nrm t + c.natAbs
  | [], _, ha => by simp at ha
  | p :: r, hn, ha => by
    obtain ⟨h1, h2⟩ := nd_cons hn
    by_cases hp : p.1 = e
    · subst hp
      rw [List.map_cons, if_pos rfl, map_none h1]
      simp only [nrm, val, if_true]
      omega
    · rw [List.any_cons, show decide (p.1 = e) = false from by simpa using hp, Bool.false_or] at ha
      rw [List.map_cons, if_neg hp]
      have := nrm_rep e c h2 ha
      simp only [nrm, val, if_neg hp]
      omega
theorem nrm_addTo (e x : Int) {t : T} (hn : Nd t) : nrm (addTo t e x) ≤ nrm t + x.natAbs := by
  unfold addTo put
  split
  · rename_i ha
    have := nrm_rep e (val t e + x) hn ha
    have h2 := Int.natAbs_add_le (val t e) x
    omega
  · rename_i ha
    rw [Bool.not_eq_true] at ha
    rw [nrm_app, val_none ha]
    simp [nrm]
theorem val_le (e : Int) : ∀ t : T, (val t e).natAbs ≤ nrm t
  | [] => by simp [val, nrm]
  | p :: r => by
    have := val_le e r
    unfold val nrm
    split <;> omega
theorem mem_le : ∀ {t : T} {p : Int × Int}, p ∈ t → p.2.natAbs ≤ nrm t
  | q :: r, p, h => by
    unfold nrm
    rcases List.mem_cons.mp h with rfl | h
    · omega
    · have := mem_le h
      omega
theorem len_put (t : T) (e c : Int) : (put t e c).length ≤ t.length + 1 := by
  unfold put
  split <;> simp
def EB (t : T) (M : Nat) : Prop := ∀ p ∈ t, p.1.natAbs ≤ M
theorem eb_put {t : T} {M : Nat} {e c : Int} (h : EB t M) (he : e.natAbs ≤ M) : EB (put t e c) M := fun p hp => by
  unfold put at hp
  split at hp
  · obtain ⟨q, hq, rfl⟩ := List.mem_map.mp hp
    split
    · exact h q hq
    · exact h q hq
  · rcases List.mem_append.mp hp with hp | hp
    · exact h p hp
    · have : p = (e, c) := by simpa using hp
      rw [this]
      exact he
/-- sums -/
def summed (t u : T) (m : Int) : T := u.foldl (fun acc p => addTo acc p.1 (m * p.2)) t
theorem summed_ok (m : Int) : ∀ (u : T) {t : T}, Nd t → Nd (summed t u m) ∧ (∀ h, tot h (summed t u m) = tot h t + m * tot h u) ∧ nrm (summed t u m) ≤ nrm t + m.natAbs * nrm u ∧ (summed t u m).length ≤ t.length + u.length ∧ ∀ M, EB t M → EB u M → EB (summed t u m) M
  | [], t, hn => ⟨hn, fun h => by simp [summed, tot], by simp [summed, nrm], by simp [summed], fun M h _ => h⟩
  | p :: u, t, hn => by
    obtain ⟨a, b, c, d, e⟩ := summed_ok m u (nd_addTo p.1 (m * p.2) hn)
    refine ⟨a, fun h => ?_, ?_, ?_, fun M h1 h2 => ?_⟩
    · show tot h (summed (addTo t p.1 (m * p.2)) u m) = _
      rw [b h, tot_addTo h _ _ hn]
      simp only [tot, Int.mul_add, Int.mul_assoc]
      omega
    · show nrm (summed (addTo t p.1 (m * p.2)) u m) ≤ _
      have h1 := nrm_addTo p.1 (m * p.2) hn
      rw [Int.natAbs_mul] at h1
      simp only [nrm, Nat.mul_add]
      omega
    · show (summed (addTo t p.1 (m * p.2)) u m).length ≤ _
      have h1 := len_put t p.1 (val t p.1 + m * p.2)
      have h2 : (addTo t p.1 (m * p.2)).length ≤ t.length + 1 := h1
      rw [List.length_cons]
      omega
    · exact e M (eb_put h1 (h2 p (List.mem_cons_self ..))) fun q hq => h2 q (List.mem_cons_of_mem _ hq)
/-- products -/
def prod1 (acc : T) (p : Int × Int) (u : T) : T := u.foldl (fun acc q => addTo acc (p.1 + q.1) (p.2 * q.2)) acc
def prod (t u : T) (acc : T) : T := t.foldl (fun acc p => prod1 acc p u) acc
theorem prod1_ok (p : Int × Int) : ∀ (u : T) {t : T}, Nd t → Nd (prod1 t p u) ∧ (∀ h, tot h (prod1 t p u) = tot h t + p.2 * tot (fun y => h (p.1 + y)) u) ∧ nrm (prod1 t p u) ≤ nrm t + p.2.natAbs * nrm u ∧ (prod1 t p u).length ≤ t.length + u.length ∧ ∀ M K, EB t M → EB u K → p.1.natAbs + K ≤ M → EB (prod1 t p u) M
  | [], t, hn => ⟨hn, fun h => by simp [prod1, tot], by simp [prod1, nrm], by simp [prod1], fun M K h _ _ => h⟩
  | q :: u, t, hn => by
    obtain ⟨a, b, c, d, e⟩ := prod1_ok p u (nd_addTo (p.1 + q.1) (p.2 * q.2) hn)
    refine ⟨a, fun h => ?_, ?_, ?_, fun M K h1 h2 h3 => ?_⟩
    · show tot h (prod1 (addTo t (p.1 + q.1) (p.2 * q.2)) p u) = _
      rw [b h, tot_addTo h _ _ hn]
      simp only [tot, Int.mul_add, Int.mul_assoc]
      omega
    · show nrm (prod1 (addTo t (p.1 + q.1) (p.2 * q.2)) p u) ≤ _
      have h1 := nrm_addTo (p.1 + q.1) (p.2 * q.2) hn
      rw [Int.natAbs_mul] at h1
      simp only [nrm, Nat.mul_add]
      omega
    · show (prod1 (addTo t (p.1 + q.1) (p.2 * q.2)) p u).length ≤ _
      have h2 : (addTo t (p.1 + q.1) (p.2 * q.2)).length ≤ t.length + 1 := len_put t _ _
      rw [List.length_cons]
      omega
    · refine e M K (eb_put h1 ?_) (fun r hr => h2 r (List.mem_cons_of_mem _ hr)) h3
      have := h2 q (List.mem_cons_self ..)
      omega
theorem prod_ok (u : T) : ∀ (t : T) {acc : T}, Nd acc → Nd (prod t u acc) ∧ (∀ h, tot h (prod t u acc) = tot h acc + tot (fun x => tot (fun y => h (x + y)) u) t) ∧ nrm (prod t u acc) ≤ nrm acc + nrm t * nrm u ∧ (prod t u acc).length ≤ acc.length + t.length * u.length ∧ ∀ M J K, EB acc M → EB t J → EB u K → J + K ≤ M → EB (prod t u acc) M
  | [], acc, hn => ⟨hn, fun h => by simp [prod, tot], by simp [prod, nrm], by simp [prod], fun M J K h _ _ _ => h⟩
  | p :: t, acc, hn => by
    obtain ⟨a1, b1, c1, d1, e1⟩ := prod1_ok p u hn
    obtain ⟨a, b, c, d, e⟩ := prod_ok u t a1
    refine ⟨a, fun h => ?_, ?_, ?_, fun M J K h1 h2 h3 h4 => ?_⟩
    · show tot h (prod t u (prod1 acc p u)) = _
      rw [b h, b1 h]
      simp only [tot]
      omega
    · show nrm (prod t u (prod1 acc p u)) ≤ _
      simp only [nrm, Nat.add_mul]
      omega
    · show (prod t u (prod1 acc p u)).length ≤ _
      rw [List.length_cons, Nat.succ_mul]
      omega
    · refine e M J K (e1 M K h1 h3 ?_) (fun q hq => h2 q (List.mem_cons_of_mem _ hq)) h3 h4
      have := h2 p (List.mem_cons_self ..)
      omega
/-- normal forms -/
structure NF (t : T) : Prop where
  up : (t.map (·.1)).Pairwise (· < ·)
  nz : ∀ p ∈ t, p.2 ≠ 0
theorem NF.nd {t : T} (h : NF t) : Nd t := h.up.imp fun {a b} hab => by omega
theorem NF.tail {p : Int × Int} {t : T} (h : NF (p :: t)) : NF t := ⟨(List.pairwise_cons.mp h.up).2, fun q hq => h.nz q (List.mem_cons_of_mem _ hq)⟩
theorem NF.head {p : Int × Int} {t : T} (h : NF (p :: t)) : ∀ q ∈ t, p.1 < q.1 := fun q hq => (List.pairwise_cons.mp h.up).1 q.1 (List.mem_map.mpr ⟨q, hq, rfl⟩)
theorem tot_dl_none {e : Int} : ∀ {t : T}, (∀ q ∈ t, q.1 ≠ e) → tot (dl e) t = 0
  | [], _ => rfl
  | p :: t, h => by
    have h1 := h p (List.mem_cons_self ..)
    have ih := tot_dl_none (t := t) fun q hq => h q (List.mem_cons_of_mem _ hq)
    simp only [tot, dl, if_neg h1, ih]
    simp
theorem nf_eq : ∀ {a b : T}, NF a → NF b → Eqv a b → a = b
  | [], [], _, _, _ => rfl
  | [], p :: b, _, hb, h => by
    have e := h (dl p.1)
    have z := tot_dl_none (e := p.1) (t := b) fun q hq => by have := hb.head q hq; omega
    simp only [tot, dl, if_true, Int.mul_one] at e
    rw [z] at e
    exact absurd (by omega) (hb.nz p (List.mem_cons_self ..))
  | p :: a, [], ha, _, h => by
    have e := h (dl p.1)
    have z := tot_dl_none (e := p.1) (t := a) fun q hq => by have := ha.head q hq; omega
    simp only [tot, dl, if_true, Int.mul_one] at e
    rw [z] at e
    exact absurd (by omega) (ha.nz p (List.mem_cons_self ..))
  | p :: a, q :: b, ha, hb, h => by
    have za : ∀ e, e ≤ p.1 → tot (dl e) a = 0 := fun e he => tot_dl_none fun r hr => by have := ha.head r hr; omega
    have zb : ∀ e, e ≤ q.1 → tot (dl e) b = 0 := fun e he => tot_dl_none fun r hr => by have := hb.head r hr; omega
    have k : p.1 = q.1 := by
      rcases Int.lt_trichotomy p.1 q.1 with lt | eq | gt
      · have e := h (dl p.1)
        simp only [tot] at e
        rw [za p.1 (Int.le_refl _), zb p.1 (Int.le_of_lt lt)] at e
        simp only [dl, if_true, if_neg (show ¬ q.1 = p.1 by omega)] at e
        exact absurd (by omega) (ha.nz p (List.mem_cons_self ..))
      · exact eq
      · have e := h (dl q.1)
        simp only [tot] at e
        rw [za q.1 (Int.le_of_lt gt), zb q.1 (Int.le_refl _)] at e
        simp only [dl, if_true, if_neg (show ¬ p.1 = q.1 by omega)] at e
        exact absurd (by omega) (hb.nz q (List.mem_cons_self ..))
    have c : p.2 = q.2 := by
      have e := h (dl p.1)
      simp only [tot] at e
      rw [za p.1 (Int.le_refl _), zb p.1 (by omega)] at e
      simp only [dl, if_true, k] at e
      omega
    have pq : p = q := Prod.ext k c
    subst pq
    have := nf_eq ha.tail hb.tail fun g => by
      have e := h g
      simp only [tot] at e
      omega
    rw [this]
end W

/-! Wa: rows (lists of pairs of numbers) as dicts; their normal form; judgements over growing stores. -/
namespace Y
open PySem PySem.Spec PyProof.Rows L2
abbrev TT2 := W.T
def enc (t : W.T) : List (D × D) := t.map fun p => (.int p.1, .int p.2)
section
variable {t u : W.T} {e c : Int}
theorem enc_isK : isK (enc t) = true := by cases t <;> rfl
theorem enc_len : (enc t).length = t.length := by simp [enc]
theorem enc_cons {p : Int × Int} : enc (p :: t) = (.int p.1, .int p.2) :: enc t := rfl
theorem enc_get : getKD (enc t) (.int e) = if t.any (fun p => decide (p.1 = e)) then some (.int (W.val t e)) else none := by
  induction t with
  | nil => rfl
  | cons p r ih =>
    have h0 : getKD (enc (p :: r)) (.int e) = if decide (p.1 = e) then some (.int p.2) else getKD (enc r) (.int e) := rfl
    rw [h0, ih, List.any_cons]
    by_cases h : p.1 = e
    · have hd : decide (p.1 = e) = true := by simpa using h
      rw [hd, Bool.true_or, if_pos rfl, if_pos rfl]
      unfold W.val
      rw [if_pos h]
    · have hd : decide (p.1 = e) = false := by simpa using h
      rw [hd, Bool.false_or, if_neg (by decide)]
      unfold W.val
      rw [if_neg h]
      cases r <;> rfl
theorem enc_any : (enc t).any (fun p => keq p.1 (.int e)) = t.any (fun p => decide (p.1 = e)) := by
  unfold enc
  rw [List.any_map]
  rfl
theorem enc_put : putKD (enc t) (.int e) (.int c) = enc (W.put t e c) := by
  unfold putKD W.put
  rw [enc_any]
  split
  · unfold enc
    rw [List.map_map, List.map_map]
    refine List.map_congr_left fun p _ => ?_
    simp only [Function.comp, keq, keqA]
    by_cases h : p.1 = e
    · simp [h]
    · simp [h]
  · simp [enc]
theorem enc_keys : intKeys (enc t) = some (t.map (·.1)) := by
  induction t with
  | nil => rfl
  | cons p r ih => rw [enc_cons]; simp [intKeys, ih]
theorem enc_at (i : Nat) : (enc t)[i]? = t[i]?.map fun p => (D.int p.1, D.int p.2) := by simp [enc]
end
/-! normal forms -/
def nf (t : W.T) : W.T := ((sortI (t.map (·.1))).filter fun e => decide (W.val t e ≠ 0)).map fun e => (e, W.val t e)
theorem tot_perm (h : Int → Int) {a b : W.T} (p : a.Perm b) : W.tot h a = W.tot h b := by
  induction p with
  | nil => rfl
  | cons x _ ih => simp only [W.tot, ih]
  | swap x y l => simp only [W.tot]; omega
  | trans _ _ i1 i2 => rw [i1, i2]
theorem nrm_perm {a b : W.T} (p : a.Perm b) : W.nrm a = W.nrm b := by
  induction p with
  | nil => rfl
  | cons x _ ih => simp only [W.nrm, ih]
  | swap x y l => simp only [W.nrm]; omega
  | trans _ _ i1 i2 => rw [i1, i2]
theorem val_mem : ∀ {t : W.T}, W.Nd t → ∀ p ∈ t, W.val t p.1 = p.2
  | q :: r, h, p, hp => by
    obtain ⟨h1, h2⟩ := W.nd_cons h
    unfold W.val
    rcases List.mem_cons.mp hp with rfl | hp
    · simp
    · have hne : ¬ q.1 = p.1 := fun e => by
        rw [List.any_eq_false] at h1
        exact h1 p hp (by simp [e])
      rw [if_neg hne]
      exact val_mem h2 p hp
theorem keys_val {t : W.T} (h : W.Nd t) : (t.map (·.1)).map (fun e => (e, W.val t e)) = t := by
  rw [List.map_map]
  have : t.map ((fun e => (e, W.val t e)) ∘ (·.1)) = t.map id := List.map_congr_left fun p hp => by
    simp only [Function.comp, val_mem h p hp]
    rfl
  rw [this, List.map_id]
theorem tot_filter (h : Int → Int) (f : Int → Int) : ∀ l : List Int, W.tot h ((l.filter fun e => decide (f e ≠ 0)).map fun e => (e, f e)) = W.tot h (l.map fun e => (e, f e))
  | [] => rfl
  | x :: l => by
    have ih := tot_filter h f l
    by_cases hx : f x = 0
    · rw [List.filter_cons_of_neg (by simp [hx]), ih, List.map_cons]
      simp [W.tot, hx]
    · rw [List.filter_cons_of_pos (by simp [hx]), List.map_cons, List.map_cons]
      simp only [W.tot, ih]
theorem nrm_filter (f : Int → Int) (q : Int → Bool) : ∀ l : List Int, W.nrm ((l.filter q).map fun e => (e, f e)) ≤ W.nrm (l.map fun e => (e, f e))
  | [] => Nat.le_refl _
  | x :: l => by
    have ih := nrm_filter f q l
    rw [List.filter_cons]
    split
    · rw [List.map_cons, List.map_cons]
      simp only [W.nrm]
      omega
    · rw [List.map_cons]
      simp only [W.nrm]
      omega
theorem nf_perm {t : W.T} (h : W.Nd t) : ((sortI (t.map (·.1))).map fun e => (e, W.val t e)).Perm t := by
  have := (sortI_perm (t.map (·.1))).map fun e => (e, W.val t e)
  rw [keys_val h] at this
  exact this
theorem nf_eqv {t : W.T} (h : W.Nd t) : W.Eqv (nf t) t := fun g => by
  unfold nf
  rw [tot_filter, tot_perm g (nf_perm h)]
theorem nf_nrm {t : W.T} (h : W.Nd t) : W.nrm (nf t) ≤ W.nrm t := by
  have := nrm_filter (W.val t) (fun e => decide (W.val t e ≠ 0)) (sortI (t.map (·.1)))
  rw [nrm_perm (nf_perm h)] at this
  exact this
theorem nf_len (t : W.T) : (nf t).length ≤ t.length := by
  unfold nf
  rw [List.length_map]
  refine Nat.le_trans (List.length_filter_le _ _) ?_
  rw [(sortI_perm _).length_eq, List.length_map]
  exact Nat.le_refl _
theorem nf_keys (t : W.T) : (nf t).map (·.1) = (sortI (t.map (·.1))).filter fun e => decide (W.val t e ≠ 0) := by
  unfold nf
  rw [List.map_map]
  have : ((·.1) ∘ fun e => (e, W.val t e)) = (id : Int → Int) := rfl
  rw [this, List.map_id]
theorem nf_eb {t : W.T} {M : Nat} (h : W.EB t M) : W.EB (nf t) M := fun p hp => by
  have h1 : p.1 ∈ (nf t).map (·.1) := List.mem_map.mpr ⟨p, hp, rfl⟩
  rw [nf_keys, List.mem_filter, (sortI_perm _).mem_iff] at h1
  obtain ⟨q, hq, e⟩ := List.mem_map.mp h1.1
  rw [← e]
  exact h q hq
theorem lt_of_le {l : List Int} (h : l.Pairwise (· ≤ ·)) (n : l.Nodup) : l.Pairwise (· < ·) := by
  have := h.and n
  exact this.imp fun {a b} ⟨h1, h2⟩ => by omega
theorem nf_nf {t : W.T} (h : W.Nd t) : W.NF (nf t) := by
  refine ⟨?_, fun p hp => ?_⟩
  · rw [nf_keys]
    exact (lt_of_le (sortI_sorted _) ((sortI_perm _).nodup_iff.mpr h)).filter _
  · unfold nf at hp
    obtain ⟨e, he, rfl⟩ := List.mem_map.mp hp
    rw [List.mem_filter] at he
    simpa using he.2
theorem nf_id {t : W.T} (h : W.NF t) : nf t = t := W.nf_eq (nf_nf h.nd) h (nf_eqv h.nd)
/-! ### judgements over growing stores -/
def Mono (P : Sto → D → Prop) : Prop := ∀ S S' d, Ext S S' → P S d → P S' d
def isV (v : D) : Sto → D → Prop := fun _ d => d = v
def isDic (t : W.T) : Sto → D → Prop := fun S d => ∃ k, d = .loc k ∧ S.get k = some (.dct 0 (enc t))
theorem mono_v {v : D} : Mono (isV v) := fun _ _ _ _ h => h
theorem mono_dic {t : W.T} : Mono (isDic t) := fun _ _ _ x ⟨k, e, h⟩ => ⟨k, e, x _ _ h⟩
def QE (P : Sto → D → Prop) (m : ME) (sd : SD) (S : Sto) : Prop := ∀ S1, Ext S S1 → ∃ d S2, m sd S1 = .ok d S2 ∧ Ext S1 S2 ∧ P S2 d
def QT (b : Bool) (m : MT) (sd : SD) (S : Sto) : Prop := ∀ S1, Ext S S1 → ∃ S2, m sd S1 = .ok b S2 ∧ Ext S1 S2
def QR (P : Sto → D → Prop) (m : MS) (sd : SD) (S : Sto) : Prop := ∀ S1, Ext S S1 → ∃ d S2, m sd S1 = .rt d S2 ∧ Ext S1 S2 ∧ P S2 d
def F1 (P Q : Sto → D → Prop) (f : MF) : Prop := ∀ S d, P S d → ∃ e S2, f [d] S = .ok e S2 ∧ Ext S S2 ∧ Q S2 e
def F2 (P P' Q : Sto → D → Prop) (f : MF) : Prop := ∀ S d d', P S d → P' S d' → ∃ e S2, f [d, d'] S = .ok e S2 ∧ Ext S S2 ∧ Q S2 e
def F3 (P P' P'' Q : Sto → D → Prop) (f : MF) : Prop := ∀ S d d' d'', P S d → P' S d' → P'' S d'' → ∃ e S2, f [d, d', d''] S = .ok e S2 ∧ Ext S S2 ∧ Q S2 e
section
variable {P P' P'' Q : Sto → D → Prop} {m m1 m2 m3 : ME} {t t1 t2 : MT} {s r : MS} {sd : SD} {S : Sto} {f : MF} {b : Bool}
theorem qe_var {i : Nat} {d : D} (h : P S d) (mo : Mono P) (e : sd[i]? = some (some d)) : QE P (mVar i) sd S := fun S1 x => ⟨d, S1, by unfold mVar; rw [e], Ext.refl, mo _ _ _ x h⟩
theorem qe_c {v : D} : QE (isV v) (mC v) sd S := fun S1 x => ⟨v, S1, rfl, Ext.refl, rfl⟩
theorem QE.ext {S'} (h : QE P m sd S) (x : Ext S S') : QE P m sd S' := fun S1 y => h S1 (x.trans y)
theorem QT.ext {S'} (h : QT b t sd S) (x : Ext S S') : QT b t sd S' := fun S1 y => h S1 (x.trans y)
theorem qe_call1 (h : F1 P Q f) (a : QE P m sd S) : QE Q (mCall f (mCons m mNil)) sd S := fun S1 x => by
  obtain ⟨d, S2, e, x2, p⟩ := a S1 x
  obtain ⟨d3, S3, e3, x3, p3⟩ := h S2 d p
  exact ⟨d3, S3, by rw [mCall1 e, e3], x2.trans x3, p3⟩
theorem qe_call2 (h : F2 P P' Q f) (mo : Mono P) (a : QE P m sd S) (a1 : QE P' m1 sd S) : QE Q (mCall f (mCons m (mCons m1 mNil))) sd S := fun S1 x => by
  obtain ⟨d, S2, e, x2, p⟩ := a S1 x
  obtain ⟨d1, S3, e1, x3, p1⟩ := a1 S2 (x.trans x2)
  obtain ⟨d3, S4, e3, x4, p3⟩ := h S3 d d1 (mo _ _ _ x3 p) p1
  exact ⟨d3, S4, by rw [mCall_ok (mCons_ok e (mCons_ok e1 mNil_ok)), e3], (x2.trans x3).trans x4, p3⟩
theorem qe_call3 (h : F3 P P' P'' Q f) (mo : Mono P) (mo' : Mono P') (a : QE P m sd S) (a1 : QE P' m1 sd S) (a2 : QE P'' m2 sd S) : QE Q (mCall f (mCons m (mCons m1 (mCons m2 mNil)))) sd S := fun S1 x => by
  obtain ⟨d, S2, e, x2, p⟩ := a S1 x
  obtain ⟨d1, S3, e1, x3, p1⟩ := a1 S2 (x.trans x2)
  obtain ⟨d2, S4, e2, x4, p2⟩ := a2 S3 ((x.trans x2).trans x3)
  obtain ⟨d3, S5, e3, x5, p3⟩ := h S4 d d1 d2 (mo _ _ _ (x3.trans x4) p) (mo' _ _ _ x4 p1) p2
  exact ⟨d3, S5, by rw [mCall_ok (mCons_ok e (mCons_ok e1 (mCons_ok e2 mNil_ok))), e3], ((x2.trans x3).trans x4).trans x5, p3⟩
theorem qe_bin {g : D → D → Sto → Res D} (h : ∀ S d d', P S d → P' S d' → ∃ e S2, g d d' S = .ok e S2 ∧ Ext S S2 ∧ Q S2 e) (mo : Mono P) (a : QE P m sd S) (a1 : QE P' m1 sd S) : QE Q (mBin g m m1) sd S := fun S1 x => by
  obtain ⟨d, S2, e, x2, p⟩ := a S1 x
  obtain ⟨d1, S3, e1, x3, p1⟩ := a1 S2 (x.trans x2)
  obtain ⟨d3, S4, e3, x4, p3⟩ := h S3 d d1 (mo _ _ _ x3 p) p1
  exact ⟨d3, S4, by rw [mBin_ok e e1, e3], (x2.trans x3).trans x4, p3⟩
theorem qe_un {g : D → Sto → Res D} (h : ∀ S d, P S d → ∃ e S2, g d S = .ok e S2 ∧ Ext S S2 ∧ Q S2 e) (a : QE P m sd S) : QE Q (mUn g m) sd S := fun S1 x => by
  obtain ⟨d, S2, e, x2, p⟩ := a S1 x
  obtain ⟨d3, S4, e3, x4, p3⟩ := h S2 d p
  exact ⟨d3, S4, by rw [mUn_ok e, e3], x2.trans x4, p3⟩
theorem QE.mono (h : QE P m sd S) (k : ∀ S d, P S d → Q S d) : QE Q m sd S := fun S1 x => let ⟨d, S2, e, y, p⟩ := h S1 x; ⟨d, S2, e, y, k _ _ p⟩
theorem qt_tru (h : QE (isV (.bl b)) m sd S) : QT b (mTru m) sd S := fun S1 x => by
  obtain ⟨d, S2, e, y, p⟩ := h S1 x
  cases p
  exact ⟨S2, by unfold mTru; rw [e]; rfl, y⟩
theorem qt_tst {g : D → D → Sto → Res D} (h : QE (isV (.bl b)) (mBin g m m1) sd S) : QT b (mTst g m m1) sd S := fun S1 x => by
  obtain ⟨d, S2, e, y, p⟩ := h S1 x
  cases p
  exact ⟨S2, mTst_ok e, y⟩
theorem qt_not (h : QT b t sd S) : QT (!b) (tNotM t) sd S := fun S1 x => by
  obtain ⟨S2, e, y⟩ := h S1 x
  exact ⟨S2, by unfold tNotM; rw [e]; rfl, y⟩
theorem qt_orf (h : QT false t sd S) (h1 : QT b t1 sd S) : QT b (tOrM t t1) sd S := fun S1 x => by
  obtain ⟨S2, e, y⟩ := h S1 x
  obtain ⟨S3, e1, y1⟩ := h1 S2 (x.trans y)
  exact ⟨S3, by unfold tOrM; rw [e]; exact e1, y.trans y1⟩
theorem qt_andt (h : QT true t sd S) (h1 : QT b t1 sd S) : QT b (tAndM t t1) sd S := fun S1 x => by
  obtain ⟨S2, e, y⟩ := h S1 x
  obtain ⟨S3, e1, y1⟩ := h1 S2 (x.trans y)
  exact ⟨S3, by unfold tAndM; rw [e]; exact e1, y.trans y1⟩
theorem qt_andf (h : QT false t sd S) : QT false (tAndM t t1) sd S := fun S1 x => by
  obtain ⟨S2, e, y⟩ := h S1 x
  exact ⟨S2, by unfold tAndM; rw [e]; rfl, y⟩
theorem qe_andt (h : QE (isV (.bl true)) m sd S) (h1 : QE P m1 sd S) : QE P (mAndT m m1) sd S := fun S1 x => by
  obtain ⟨d, S2, e, y, p⟩ := h S1 x
  cases p
  obtain ⟨d3, S3, e1, y1, p1⟩ := h1 S2 (x.trans y)
  exact ⟨d3, S3, by unfold mAndT; rw [e]; exact e1, y.trans y1, p1⟩
theorem qe_andf (h : QE (isV (.bl false)) m sd S) : QE (isV (.bl false)) (mAndT m m1) sd S := fun S1 x => by
  obtain ⟨d, S2, e, y, p⟩ := h S1 x
  cases p
  exact ⟨.bl false, S2, by unfold mAndT; rw [e]; rfl, y, rfl⟩
theorem qe_orf (h : QE (isV (.bl false)) m sd S) (h1 : QE P m1 sd S) : QE P (mOrT m m1) sd S := fun S1 x => by
  obtain ⟨d, S2, e, y, p⟩ := h S1 x
  cases p
  obtain ⟨d3, S3, e1, y1, p1⟩ := h1 S2 (x.trans y)
  exact ⟨d3, S3, by unfold mOrT; rw [e]; exact e1, y.trans y1, p1⟩
theorem qe_ort (h : QE (isV (.bl true)) m sd S) : QE (isV (.bl true)) (mOrT m m1) sd S := fun S1 x => by
  obtain ⟨d, S2, e, y, p⟩ := h S1 x
  cases p
  exact ⟨.bl true, S2, by unfold mOrT; rw [e]; rfl, y, rfl⟩
theorem qe_ift (h : QT true t sd S) (h1 : QE P m sd S) : QE P (mIf t m m1) sd S := fun S1 x => by
  obtain ⟨S2, e, y⟩ := h S1 x
  obtain ⟨d3, S3, e1, y1, p1⟩ := h1 S2 (x.trans y)
  exact ⟨d3, S3, by unfold mIf; rw [e]; exact e1, y.trans y1, p1⟩
theorem qe_iff (h : QT false t sd S) (h1 : QE P m1 sd S) : QE P (mIf t m m1) sd S := fun S1 x => by
  obtain ⟨S2, e, y⟩ := h S1 x
  obtain ⟨d3, S3, e1, y1, p1⟩ := h1 S2 (x.trans y)
  exact ⟨d3, S3, by unfold mIf; rw [e]; exact e1, y.trans y1, p1⟩
theorem qr_ret (h : QE P m sd S) : QR P (sRet m) sd S := fun S1 x => by
  obtain ⟨d, S2, e, y, p⟩ := h S1 x
  exact ⟨d, S2, sRet_ok e, y, p⟩
theorem qr_iff (h : QT false t sd S) (k : QR P r sd S) : QR P (sSeq (sIf t s sSkip) r) sd S := fun S1 x => by
  obtain ⟨S2, e, y⟩ := h S1 x
  obtain ⟨d, S3, e1, y1, p1⟩ := k S2 (x.trans y)
  exact ⟨d, S3, by rw [sSeq_nx (sd1 := sd) (S1 := S2) (by rw [sIf_f e]; rfl)]; exact e1, y.trans y1, p1⟩
theorem qr_ift (h : QT true t sd S) (k : QR P s sd S) {s' : MS} : QR P (sSeq (sIf t s s') r) sd S := fun S1 x => by
  obtain ⟨S2, e, y⟩ := h S1 x
  obtain ⟨d, S3, e1, y1, p1⟩ := k S2 (x.trans y)
  exact ⟨d, S3, by rw [sSeq_rt (x := d) (S1 := S3) (by rw [sIf_t e]; exact e1)], y.trans y1, p1⟩
theorem qr_set {i : Nat} (h : QE P' m sd S) (k : ∀ d S', Ext S S' → P' S' d → QR P r (sd.set i (some d)) S') : QR P (sSeq (sSet i m) r) sd S := fun S1 x => by
  obtain ⟨d, S2, e, y, p⟩ := h S1 x
  obtain ⟨d3, S3, e1, y1, p1⟩ := k d S2 (x.trans y) p S2 Ext.refl
  exact ⟨d3, S3, by rw [sSeq_nx (sSet_ok e)]; exact e1, y.trans y1, p1⟩
theorem qr_par {i j : Nat} (mo : Mono P') (h : QE P' m sd S) (h1 : QE P'' m1 sd S) (k : ∀ d d' S', Ext S S' → P' S' d → P'' S' d' → QR P r ((sd.set i (some d)).set j (some d')) S') : QR P (sSeq (sPar i j (mCons m (mCons m1 mNil))) r) sd S := fun S1 x => by
  obtain ⟨d, S2, e, y, p⟩ := h S1 x
  obtain ⟨d1, S3, e1, y1, p1⟩ := h1 S2 (x.trans y)
  obtain ⟨d3, S4, e3, y3, p3⟩ := k d d1 S3 ((x.trans y).trans y1) (mo _ _ _ y1 p) p1 S3 Ext.refl
  refine ⟨d3, S4, ?_, (y.trans y1).trans y3, p3⟩
  rw [sSeq_nx (sd1 := (sd.set i (some d)).set j (some d1)) (S1 := S3) (by unfold sPar; rw [mCons_ok e (mCons_ok e1 mNil_ok)]; rfl)]
  exact e3
theorem f1_of {n : Nat} (h : ∀ S d, P S d → QR Q r (stD n [d]) S) : F1 P Q (mkF n 1 r) := fun S d p => by
  obtain ⟨e, S2, e1, y, q⟩ := h S d p S Ext.refl
  exact ⟨e, S2, by show (r (stD n [d]) S).res = _; rw [e1]; rfl, y, q⟩
theorem f2_of {n : Nat} (h : ∀ S d d', P S d → P' S d' → QR Q r (stD n [d, d']) S) : F2 P P' Q (mkF n 2 r) := fun S d d' p p' => by
  obtain ⟨e, S2, e1, y, q⟩ := h S d d' p p' S Ext.refl
  exact ⟨e, S2, by show (r (stD n [d, d']) S).res = _; rw [e1]; rfl, y, q⟩
theorem f3_of {n : Nat} (h : ∀ S d d' d'', P S d → P' S d' → P'' S d'' → QR Q r (stD n [d, d', d'']) S) : F3 P P' P'' Q (mkF n 3 r) := fun S d d' d'' p p' p'' => by
  obtain ⟨e, S2, e1, y, q⟩ := h S d d' d'' p p' p'' S Ext.refl
  exact ⟨e, S2, by show (r (stD n [d, d', d'']) S).res = _; rw [e1]; rfl, y, q⟩
end
end Y

/-! Wb: loops and comprehensions over lists of pairs, over all stores. -/
namespace Y
open PySem PySem.Spec PyProof.Rows L2
/-- all but the cell f stay -/
structure Off (f : Nat) (S S' : Sto) : Prop where
  n : S'.n = S.n
  c : ∀ j, j ≠ f → S'.get j = S.get j
theorem Off.refl {f : Nat} {S : Sto} : Off f S S := ⟨rfl, fun _ _ => rfl⟩
theorem Off.trans {f : Nat} {S S1 S2 : Sto} (a : Off f S S1) (b : Off f S1 S2) : Off f S S2 := ⟨b.n.trans a.n, fun j h => (b.c j h).trans (a.c j h)⟩
theorem Off.set {f : Nat} {S : Sto} {c : Cell} : Off f S (S.set f c) := ⟨Sto.set_n .., fun j h => Sto.get_set_ne h⟩
theorem Off.ext {S S' : Sto} {c : Cell} (h : Off S.n (S.new c) S') : Ext S S' := fun j x hj => by
  have := Sto.get_lt hj
  rw [h.c j (by omega)]
  exact Ext.new j x hj
theorem forLoop_gen {α : Type} {u : List α} {it : ItD} {g : α → D} {tg : Tg} {b : MS} {J : SD → Prop} {R : List α → Sto → Prop} (look : ∀ pre S, R pre S → ∀ i, itNext it i S = some (u[i]?.map g))
    (step : ∀ pre p post sd S, u = pre ++ p :: post → J sd → R pre S → ∃ sd1 sd2 S2, asg tg (g p) sd = some sd1 ∧ b sd1 S = .nx sd2 S2 ∧ J sd2 ∧ R (pre ++ [p]) S2) :
    ∀ post pre n sd S, u = pre ++ post → post.length < n → J sd → R pre S → ∃ sd' S', forLoop it tg b n pre.length sd S = .nx sd' S' ∧ J sd' ∧ R u S'
  | [], pre, 0, sd, S, hu, hn, hj, hr => by simp at hn
  | [], pre, n + 1, sd, S, hu, hn, hj, hr => by
    refine ⟨sd, S, ?_, hj, by rw [hu, List.append_nil]; exact hr⟩
    unfold forLoop
    rw [look pre S hr]
    have : u[pre.length]? = none := by rw [hu]; simp
    rw [this]
    rfl
  | p :: post, pre, 0, sd, S, hu, hn, hj, hr => by simp at hn
  | p :: post, pre, n + 1, sd, S, hu, hn, hj, hr => by
    obtain ⟨sd1, sd2, S2, e1, e2, j2, r2⟩ := step pre p post sd S hu hj hr
    obtain ⟨sd', S', e3, j3, r3⟩ := forLoop_gen look step post (pre ++ [p]) n sd2 S2 (by rw [hu]; simp) (by simp at hn; omega) j2 r2
    refine ⟨sd', S', ?_, j3, r3⟩
    unfold forLoop
    rw [look pre S hr]
    have : u[pre.length]? = some p := by rw [hu]; simp
    rw [this]
    simp only [Option.map_some, e1, e2, SRes.turn]
    rw [List.length_append] at e3
    exact e3
/-- loops with any numbers -/
theorem forLoop_all {α : Type} {u : List α} {it : ItD} {g : α → D} {tg : Tg} {b : MS} {T : D → Sto → Prop} {R : List α → SD → Sto → Prop} (look : ∀ pre sd S, R pre sd S → ∀ i, itNext it i S = some (u[i]?.map g))
    (step : ∀ pre p post sd S, u = pre ++ p :: post → R pre sd S → ∃ sd1, asg tg (g p) sd = some sd1 ∧ AllS (b sd1 S) (fun sd2 S2 => R (pre ++ [p]) sd2 S2) T) :
    ∀ post pre n sd S, u = pre ++ post → post.length < n → R pre sd S → AllS (forLoop it tg b n pre.length sd S) (fun sd' S' => R u sd' S') T
  | [], pre, 0, sd, S, hu, hn, hr => by simp at hn
  | [], pre, n + 1, sd, S, hu, hn, hr => by
    unfold forLoop
    rw [look pre sd S hr]
    have : u[pre.length]? = none := by rw [hu]; simp
    rw [this]
    refine .nx ?_
    rw [hu, List.append_nil]
    exact hr
  | p :: post, pre, 0, sd, S, hu, hn, hr => by simp at hn
  | p :: post, pre, n + 1, sd, S, hu, hn, hr => by
    obtain ⟨sd1, e1, a⟩ := step pre p post sd S hu hr
    unfold forLoop
    rw [look pre sd S hr]
    have : u[pre.length]? = some p := by rw [hu]; simp
    rw [this]
    simp only [Option.map_some, e1]
    have key : ∀ r : SRes, AllS r (fun sd2 S2 => R (pre ++ [p]) sd2 S2) T → AllS (r.turn (forLoop it tg b n (pre.length + 1))) (fun sd' S' => R u sd' S') T := by
      intro r h
      generalize hN : (fun sd2 S2 => R (pre ++ [p]) sd2 S2) = N at h
      induction h with
      | nx h =>
        subst hN
        have := forLoop_all look step post (pre ++ [p]) n _ _ (by rw [hu]; simp) (by simp at hn; omega) h
        rw [List.length_append] at this
        exact this
      | rt h => exact .rt h
      | pick h ih => exact .pick fun k hk => ih k hk (fun pre' p' post' sd S hu hr => step pre' p' post' sd S hu hr) a hN
    exact key _ a
/-- iterating a dict of pairs -/
structure DIt (u : W.T) (k : Nat) (sd : SD) (mi : MI) (it : ItD) (g : Int × Int → D) : Prop where
  go : ∀ lk S, S.get k = some (.dct (lk + 1) (enc u)) → mi sd S = .ok it S
  nx : ∀ lk S i, S.get k = some (.dct lk (enc u)) → itNext it i S = some (u[i]?.map g)
  ln : ∀ lk S, S.get k = some (.dct lk (enc u)) → itLen it S = u.length
theorem dit_i {u : W.T} {k : Nat} {sd : SD} {m : ME} (h : ∀ S lk, S.get k = some (.dct lk (enc u)) → m sd S = .ok (.loc k) S) : DIt u k sd (mItM itDi m) (.di k) fun p => .tup [.int p.1, .int p.2] := by
  refine ⟨fun lk S e => ?_, fun lk S i e => ?_, fun lk S e => ?_⟩
  · unfold mItM
    rw [h S _ e]
    simp only [Res.bind, itDi, e, enc_isK, if_true]
  · simp only [itNext, e, enc_at, Option.map_map]
    rfl
  · simp only [itLen, e, enc_len]
theorem dit_k {u : W.T} {k : Nat} {sd : SD} {m : ME} (h : ∀ S lk, S.get k = some (.dct lk (enc u)) → m sd S = .ok (.loc k) S) : DIt u k sd (mIt m) (.dk k) fun p => .int p.1 := by
  refine ⟨fun lk S e => ?_, fun lk S i e => ?_, fun lk S e => ?_⟩
  · unfold mIt
    rw [h S _ e]
    simp only [Res.bind, itOf, e]
  · simp only [itNext, e, enc_at, Option.map_map]
    rfl
  · simp only [itLen, e, enc_len]
theorem var_at {i : Nat} {d : D} {sd : SD} {S : Sto} (h : sd[i]? = some (some d)) : mVar i sd S = .ok d S := by unfold mVar; rw [h]
/-- a locked loop that changes one cell -/
theorem lock_for {u : W.T} {k f : Nat} {md : ME} {mi : MI} {it : ItD} {g : Int × Int → D} {tg : Tg} {b : MS} {J : SD → Prop} {acc : W.T → W.T} {S0 : Sto} {sd : SD} {lk : Nat}
    (hk : S0.get k = some (.dct lk (enc u))) (hf : S0.get f = some (.dct 0 (enc (acc [])))) (hne : f ≠ k) (hm : md sd S0 = .ok (.loc k) S0) (di : DIt u k sd mi it g) (hj : J sd)
    (step : ∀ pre p post sd S, u = pre ++ p :: post → J sd → S.get f = some (.dct 0 (enc (acc pre))) → (∃ l, S.get k = some (.dct (l + 1) (enc u))) → (∀ j, j ≠ f → j ≠ k → S.get j = S0.get j) → S.n = S0.n →
      ∃ sd1 sd2 S2, asg tg (g p) sd = some sd1 ∧ b sd1 S = .nx sd2 S2 ∧ J sd2 ∧ S2.get f = some (.dct 0 (enc (acc (pre ++ [p])))) ∧ Off f S S2) :
    ∃ sd' S', sLock md (sFor mi tg b) sd S0 = .nx sd' S' ∧ J sd' ∧ S'.get f = some (.dct 0 (enc (acc u))) ∧ Off f S0 S' := by
  have run : ∀ l S, S.get k = some (.dct (l + 1) (enc u)) → S.get f = some (.dct 0 (enc (acc []))) → (∀ j, j ≠ f → j ≠ k → S.get j = S0.get j) → S.n = S0.n →
      ∃ sd' S', sFor mi tg b sd S = .nx sd' S' ∧ J sd' ∧ S'.get f = some (.dct 0 (enc (acc u))) ∧ Off f S S' := by
    intro l S e1 e2 e3 e4
    unfold sFor
    rw [di.go l S e1]
    show ∃ sd' S', forLoop it tg b (itLen it S + 1) 0 sd S = .nx sd' S' ∧ _
    rw [di.ln _ S e1]
    exact forLoop_gen (J := J) (R := fun pre S2 => S2.get f = some (.dct 0 (enc (acc pre))) ∧ Off f S S2) (u := u) (it := it) (g := g)
      (fun pre S2 ⟨h1, h2⟩ i => di.nx _ S2 i (by rw [h2.c k (fun z => hne z.symm)]; exact e1))
      (fun pre p post sd S2 hu hj ⟨h1, h2⟩ => by
        obtain ⟨sd1, sd2, S3, q1, q2, q3, q4, q5⟩ := step pre p post sd S2 hu hj h1 ⟨l, by rw [h2.c k (fun z => hne z.symm)]; exact e1⟩ (fun j z1 z2 => (h2.c j z1).trans (e3 j z1 z2)) (h2.n.trans e4)
        exact ⟨sd1, sd2, S3, q1, q2, q3, q4, h2.trans q5⟩) u [] (u.length + 1) sd S rfl (Nat.lt_succ_self _) hj ⟨e2, Off.refl⟩
  unfold sLock
  rw [hm]
  simp only [hk]
  cases lk with
  | zero =>
    obtain ⟨sd', S', r1, r2, r3, r4⟩ := run 0 (S0.set k (.dct 1 (enc u))) (Sto.get_set_self hk) (by rw [Sto.get_set_ne hne]; exact hf) (fun j _ z => Sto.get_set_ne z) (Sto.set_n ..)
    have gk : S'.get k = some (.dct 1 (enc u)) := by rw [r4.c k (fun z => hne z.symm)]; exact Sto.get_set_self hk
    refine ⟨sd', S'.set k (.dct 0 (enc u)), ?_, r2, by rw [Sto.get_set_ne hne]; exact r3, by rw [Sto.set_n, r4.n, Sto.set_n], fun j hj => ?_⟩
    · simp only [r1, unlkS, gk]
    · by_cases z : j = k
      · subst z
        rw [Sto.get_set_self gk, hk]
      · rw [Sto.get_set_ne z, r4.c j hj, Sto.get_set_ne z]
  | succ l =>
    obtain ⟨sd', S', r1, r2, r3, r4⟩ := run l S0 hk hf (fun j _ _ => rfl) rfl
    exact ⟨sd', S', r1, r2, r3, r4⟩
/-- comprehensions of parts that change nothing -/
theorem lc_pure {α : Type} {u : List α} {it : ItD} {g : α → D} {tg : Tg} {q : MT} {e : ME} {sd : SD} {dl : Nat} {p : α → Bool} {f : α → D} {R : Sto → Prop} (hset : ∀ S l, R S → R (S.set dl (.lst l))) (look : ∀ S, R S → ∀ i, itNext it i S = some (u[i]?.map g))
    (hq : ∀ a ∈ u, ∃ sd1, asg tg (g a) sd = some sd1 ∧ (∀ S, R S → q sd1 S = .ok (p a) S) ∧ ∀ S, R S → p a = true → e sd1 S = .ok (f a) S) : ∀ (n i : Nat) (acc : List D) (S : Sto), R S → S.get dl = some (.lst acc) → acc.length + u.length ≤ 16777216 + i → i ≤ u.length → u.length < n + i →
    lcLoop it tg q e sd dl n i S = .ok (.loc dl) (S.set dl (.lst (acc ++ ((u.drop i).filter p).map f)))
  | 0, i, acc, S, hR, hd, hl, hi, hn => by omega
  | n + 1, i, acc, S, hR, hd, hl, hi, hn => by
    unfold lcLoop
    rw [look S hR i]
    by_cases h : i < u.length
    · have e1 : u[i]? = some u[i] := List.getElem?_eq_getElem h
      have hm : u[i] ∈ u := List.getElem_mem h
      have dr : u.drop i = u[i] :: u.drop (i + 1) := List.drop_eq_getElem_cons h
      obtain ⟨sd1, a1, a2, a3⟩ := hq _ hm
      simp only [e1, Option.map_some, a1, a2 S hR, Res.bindX]
      cases hp : p u[i] with
      | true =>
        have e2 := a3 S hR hp
        have g2 : (S.set dl (.lst (acc ++ [f u[i]]))).get dl = some (.lst (acc ++ [f u[i]])) := Sto.get_set_self hd
        have ih := lc_pure hset look hq n (i + 1) (acc ++ [f u[i]]) (S.set dl (.lst (acc ++ [f u[i]]))) (hset _ _ hR) g2 (by simp; omega) h (by omega)
        simp only [e2, Res.bindX, hd, if_true]
        rw [if_pos (by omega), ih, Sto.set_set, dr, List.filter_cons, hp]
        simp
      | false =>
        have ih := lc_pure hset look hq n (i + 1) acc S hR hd (by omega) h (by omega)
        simp only [Bool.false_eq_true, if_false]
        rw [ih, dr, List.filter_cons, hp]
        simp
    · have e1 : u[i]? = none := List.getElem?_eq_none (by omega)
      have dr : u.drop i = [] := List.drop_eq_nil_of_le (by omega)
      simp only [e1, Option.map_none]
      rw [dr]
      simp only [List.filter_nil, List.map_nil, List.append_nil]
      rw [Sto.set_get hd]
theorem dc_pure {α : Type} {u : List α} {it : ItD} {g : α → D} {tg : Tg} {q : MT} {ek ev : ME} {sd : SD} {dl : Nat} {p : α → Bool} {fk fv : α → Int} {R : Sto → Prop} (hset : ∀ S l, R S → R (S.set dl (.dct 0 l))) (look : ∀ S, R S → ∀ i, itNext it i S = some (u[i]?.map g))
    (hq : ∀ a ∈ u, ∃ sd1, asg tg (g a) sd = some sd1 ∧ (∀ S, R S → q sd1 S = .ok (p a) S) ∧ ∀ S, R S → p a = true → ek sd1 S = .ok (.int (fk a)) S ∧ ev sd1 S = .ok (.int (fv a)) S) : ∀ (n i : Nat) (acc : W.T) (S : Sto), R S → S.get dl = some (.dct 0 (enc acc)) → acc.length + u.length ≤ 16777216 + i → i ≤ u.length → u.length < n + i →
    dcLoop it tg q ek ev sd dl n i S = .ok (.loc dl) (S.set dl (.dct 0 (enc (((u.drop i).filter p).foldl (fun acc a => W.put acc (fk a) (fv a)) acc))))
  | 0, i, acc, S, hR, hd, hl, hi, hn => by omega
  | n + 1, i, acc, S, hR, hd, hl, hi, hn => by
    unfold dcLoop
    rw [look S hR i]
    by_cases h : i < u.length
    · have e1 : u[i]? = some u[i] := List.getElem?_eq_getElem h
      have hm : u[i] ∈ u := List.getElem_mem h
      have dr : u.drop i = u[i] :: u.drop (i + 1) := List.drop_eq_getElem_cons h
      obtain ⟨sd1, a1, a2, a3⟩ := hq _ hm
      simp only [e1, Option.map_some, a1, a2 S hR, Res.bindX]
      cases hp : p u[i] with
      | true =>
        obtain ⟨e2, e3⟩ := a3 S hR hp
        have g2 : (S.set dl (.dct 0 (enc (W.put acc (fk u[i]) (fv u[i]))))).get dl = some (.dct 0 (enc (W.put acc (fk u[i]) (fv u[i])))) := Sto.get_set_self hd
        have hlp := W.len_put acc (fk u[i]) (fv u[i])
        have ih := dc_pure hset look hq n (i + 1) (W.put acc (fk u[i]) (fv u[i])) _ (hset _ _ hR) g2 (by omega) h (by omega)
        have c : (decide ((enc acc).length < 16777216) && atomB (.int (fk u[i])) && isK (enc acc)) = true := by
          rw [enc_isK, enc_len, Bool.and_true, Bool.and_eq_true, decide_eq_true_eq]
          exact ⟨by omega, rfl⟩
        simp only [e2, e3, Res.bindX, hd, if_true]
        rw [if_pos c, enc_put, ih, Sto.set_set, dr, List.filter_cons, hp]
        simp
      | false =>
        have ih := dc_pure hset look hq n (i + 1) acc S hR hd (by omega) h (by omega)
        simp only [Bool.false_eq_true, if_false]
        rw [ih, dr, List.filter_cons, hp]
        simp
    · have e1 : u[i]? = none := List.getElem?_eq_none (by omega)
      have dr : u.drop i = [] := List.drop_eq_nil_of_le (by omega)
      simp only [e1, Option.map_none]
      rw [dr]
      simp only [List.filter_nil, List.foldl_nil]
      rw [Sto.set_get hd]
/-- new keys -/
theorem put_new {t : W.T} {e c : Int} (h : e ∉ t.map (·.1)) : W.put t e c = t ++ [(e, c)] := by
  unfold W.put
  rw [if_neg]
  intro hc
  obtain ⟨p, hp, e1⟩ := List.any_eq_true.mp hc
  exact h (List.mem_map.mpr ⟨p, hp, by simpa using e1⟩)
theorem fold_put {α : Type} {fk fv : α → Int} : ∀ (l : List α) (t : W.T), (l.map fk).Nodup → (∀ a ∈ l, fk a ∉ t.map (·.1)) → l.foldl (fun acc a => W.put acc (fk a) (fv a)) t = t ++ l.map fun a => (fk a, fv a)
  | [], t, _, _ => by simp
  | a :: l, t, hn, hd => by
    rw [List.map_cons, List.nodup_cons] at hn
    rw [List.foldl_cons, put_new (hd a (List.mem_cons_self ..)), fold_put l _ hn.2, List.map_cons, List.append_assoc]
    · rfl
    · intro b hb hc
      rw [List.map_append, List.mem_append] at hc
      rcases hc with hc | hc
      · exact hd b (List.mem_cons_of_mem _ hb) hc
      · have : fk b = fk a := by simpa using hc
        exact hn.1 (this ▸ List.mem_map.mpr ⟨b, hb, rfl⟩)
theorem merge_enc {t : W.T} (h : W.Nd t) : mergeKD (enc t) = enc t := by
  have key : ∀ (l acc : W.T), (enc l).foldl (fun acc p => putKD acc p.1 p.2) (enc acc) = enc (l.foldl (fun acc p => W.put acc p.1 p.2) acc) := by
    intro l
    induction l with
    | nil => intro acc; rfl
    | cons p l ih =>
      intro acc
      rw [enc_cons, List.foldl_cons, List.foldl_cons, enc_put, ih]
  have := key t []
  unfold mergeKD
  rw [show ([] : List (D × D)) = enc [] from rfl, this]
  have e := fold_put (α := Int × Int) (fk := fun p => p.1) (fv := fun p => p.2) t [] h (by simp)
  rw [e]
  simp
theorem pairs_enc : ∀ (t : W.T), pairsD (t.map fun p => D.tup [.int p.1, .int p.2]) = some (enc t)
  | [] => rfl
  | p :: t => by
    rw [List.map_cons]
    simp only [pairsD, atomB, if_true, pairs_enc t]
    rfl
theorem filter_true {α : Type} (l : List α) : l.filter (fun _ => true) = l := by
  induction l with
  | nil => rfl
  | cons a l ih => rw [List.filter_cons, if_pos rfl, ih]
/-- a comprehension over a dict -/
theorem lock_lcG {u : W.T} {k : Nat} {md : ME} {mi : MI} {it : ItD} {g : Int × Int → D} {tg : Tg} {e : ME} {vs : List Nat} {sd : SD} {S0 : Sto} {f : Int × Int → D} (hk : S0.get k = some (.dct 0 (enc u))) (hm : md sd S0 = .ok (.loc k) S0) (nx : ∀ lk S i, S.get k = some (.dct lk (enc u)) → itNext it i S = some (u[i]?.map g)) (ln : ∀ lk S, S.get k = some (.dct lk (enc u)) → itLen it S = u.length) (hgo : mi sd (S0.set k (.dct 1 (enc u))) = .ok it (S0.set k (.dct 1 (enc u))))
    (he : ∀ a ∈ u, ∃ sd1, asg tg (g a) (wipeD sd vs) = some sd1 ∧ ∀ S, S.get k = some (.dct 1 (enc u)) → e sd1 S = .ok (f a) S) (hl : u.length ≤ 16777216) :
    ∃ r S', mLock md (mLc mi tg tYesM e vs) sd S0 = .ok (.loc r) S' ∧ Ext S0 S' ∧ S'.get r = some (.lst (u.map f)) := by
  have hlt0 := Sto.get_lt hk
  have g4 : (S0.set k (.dct 1 (enc u))).get k = some (.dct 1 (enc u)) := Sto.get_set_self hk
  have n4 : (S0.set k (.dct 1 (enc u))).n = S0.n := Sto.set_n ..
  have eS : ∀ j c, j ≠ k → S0.get j = some c → (S0.set k (.dct 1 (enc u))).get j = some c := fun j c z h => by rw [Sto.get_set_ne z]; exact h
  have run : ∀ S4 : Sto, mi sd S4 = .ok it S4 → S4.get k = some (.dct 1 (enc u)) → mLc mi tg tYesM e vs sd S4 = .ok (.loc S4.n) ((S4.new (.lst [])).set S4.n (.lst (u.map f))) := by
    intro S4 hgo g4
    have hlt : k < S4.n := Sto.get_lt g4
    unfold mLc
    rw [hgo]
    simp only [Res.bind]
    rw [ln 1 S4 g4]
    have := lc_pure (u := u) (it := it) (g := g) (tg := tg) (q := tYesM) (e := e) (sd := wipeD sd vs) (dl := S4.n) (p := fun _ => true) (f := f)
      (R := fun S => S.get k = some (.dct 1 (enc u))) (fun S l a => by rw [Sto.get_set_ne (by omega)]; exact a) (fun S a i => nx 1 S i a)
      (fun p hp => let ⟨sd1, h1, h2⟩ := he p hp; ⟨sd1, h1, fun S _ => rfl, fun S a _ => h2 S a⟩) (u.length + 1) 0 [] (S4.new (.lst [])) (Ext.new _ _ g4) Sto.get_new_self (by simpa using hl) (Nat.zero_le _) (Nat.lt_succ_self _)
    rw [List.drop_zero, filter_true, List.nil_append] at this
    exact this
  unfold mLock
  rw [hm]
  simp only [hk]
  rw [run _ hgo g4]
  have g5 : (((S0.set k (.dct 1 (enc u))).new (.lst [])).set (S0.set k (.dct 1 (enc u))).n (.lst (u.map f))).get k = some (.dct 1 (enc u)) := by
    rw [Sto.get_set_ne (by omega)]
    exact Ext.new _ _ g4
  refine ⟨(S0.set k (.dct 1 (enc u))).n, (((S0.set k (.dct 1 (enc u))).new (.lst [])).set (S0.set k (.dct 1 (enc u))).n (.lst (u.map f))).set k (.dct 0 (enc u)), ?_, fun j c hj => ?_, ?_⟩
  · unfold unlkE
    rw [g5]
    rfl
  · by_cases z : j = k
    · subst z
      rw [hk] at hj
      cases hj
      exact Sto.get_set_self g5
    · have := Sto.get_lt hj
      rw [Sto.get_set_ne z, Sto.get_set_ne (by omega)]
      exact Ext.new _ _ (eS j c z hj)
  · rw [Sto.get_set_ne (by omega)]
    exact Sto.get_set_self Sto.get_new_self
/-- a comprehension over a dict -/
theorem lock_lc {u : W.T} {k : Nat} {md : ME} {mi : MI} {it : ItD} {g : Int × Int → D} {tg : Tg} {e : ME} {vs : List Nat} {sd : SD} {S0 : Sto} {f : Int × Int → D} (hk : S0.get k = some (.dct 0 (enc u))) (hm : md sd S0 = .ok (.loc k) S0) (di : DIt u k sd mi it g)
    (he : ∀ a ∈ u, ∃ sd1, asg tg (g a) (wipeD sd vs) = some sd1 ∧ ∀ S, S.get k = some (.dct 1 (enc u)) → e sd1 S = .ok (f a) S) (hl : u.length ≤ 16777216) :
    ∃ r S', mLock md (mLc mi tg tYesM e vs) sd S0 = .ok (.loc r) S' ∧ Ext S0 S' ∧ S'.get r = some (.lst (u.map f)) :=
  lock_lcG hk hm di.nx di.ln (di.go 0 _ (Sto.get_set_self hk)) he hl
/-! numbers -/
theorem eqDat_int {S : Sto} {a b : Int} : eqDat S (.int a) (.int b) = some (decide (a = b)) := by
  show (if SeqAt.shaped (.int a) && SeqAt.shaped (.int b) then some (PyData.eqv (.int a) (.int b)) else none) = _
  have h1 : ∀ a : Int, SeqAt.shaped (.int a) = true := fun _ => rfl
  rw [h1, h1]
  show some (PyData.eqv (.int a) (.int b)) = _
  have : PyData.eqv (.int a) (.int b) = decide (a = b) := by
    first
      | rfl
      | simp [PyData.eqv]
  rw [this]
theorem cNeG_int {S : Sto} {a b : Int} : cNeG (.int a) (.int b) S = .ok (.bl (decide (a ≠ b))) S := by
  show cNe (.int a) (.int b) S = _
  unfold cNe
  rw [eqDat_int]
  simp
theorem cEqG_int {S : Sto} {a b : Int} : cEqG (.int a) (.int b) S = .ok (.bl (decide (a = b))) S := by
  show cEq (.int a) (.int b) S = _
  unfold cEq
  rw [eqDat_int]
theorem ixG_enc {S : Sto} {k : Nat} {lk : Nat} {t : W.T} {e : Int} (h : S.get k = some (.dct lk (enc t))) (m : e ∈ t.map (·.1)) : ixG (.loc k) (.int e) S = .ok (.int (W.val t e)) S := by
  have ha : t.any (fun p => decide (p.1 = e)) = true := by
    obtain ⟨p, hp, z⟩ := List.mem_map.mp m
    exact List.any_eq_true.mpr ⟨p, hp, by simpa using z⟩
  simp only [ixG, isDct, dGet, h, if_true, enc_isK, atomB, enc_get, ha]
theorem dGet_enc {S : Sto} {k : Nat} {lk : Nat} {t : W.T} {e : Int} (h : S.get k = some (.dct lk (enc t))) : dGet (.loc k) (.int e) S = some (if t.any (fun p => decide (p.1 = e)) then some (.int (W.val t e)) else none) := by
  simp only [dGet, h, if_true, enc_isK, atomB, enc_get]
theorem get2_enc {S : Sto} {k : Nat} {lk : Nat} {t : W.T} {e : Int} {o kk : ME} {sd : SD} (h : S.get k = some (.dct lk (enc t))) (ho : o sd S = .ok (.loc k) S) (hk : kk sd S = .ok (.int e) S) : mGet2 o kk (mC (.int 0)) sd S = .ok (.int (W.val t e)) S := by
  unfold mGet2
  simp only [ho, hk, Res.bind, isDct, h, if_true, mC, dGet_enc h]
  cases ha : t.any (fun p => decide (p.1 = e)) with
  | true => simp
  | false => simp [W.val_none ha]
theorem stI_enc {S : Sto} {k : Nat} {t : W.T} {e c : Int} (h : S.get k = some (.dct 0 (enc t))) (hl : t.length < 16777216) : stI (.loc k) (.int e) (.int c) S = some (S.set k (.dct 0 (enc (W.put t e c)))) := by
  have : (decide ((enc t).length < 16777216) && okKey (enc t) (.int e)) = true := by
    rw [enc_len, Bool.and_eq_true, decide_eq_true_eq]
    refine ⟨hl, ?_⟩
    unfold okKey
    rw [enc_isK]
    rfl
  simp only [stI, h, this, if_true, enc_put]
end Y

/-! Wc: == of lists of pairs and of dicts of numbers; dict(..), items. -/
namespace Y
open PySem PySem.Spec PyProof.Rows L2
def pyP (t : W.T) : List PyData := t.map fun p => .tuple [.int p.1, .int p.2]
def tupP (t : W.T) : List D := t.map fun p => .tup [.int p.1, .int p.2]
theorem items_enc (t : W.T) : itemsD (enc t) = tupP t := by
  unfold itemsD enc tupP
  rw [List.map_map]
  rfl
theorem allP_tup (S : Sto) (n : Nat) : ∀ t : W.T, allP (toPy S (n + 2)) (tupP t) = some (pyP t)
  | [] => rfl
  | p :: t => by
    have ih := allP_tup S n t
    show (match toPy S (n + 2) (.tup [.int p.1, .int p.2]), allP (toPy S (n + 2)) (tupP t) with
      | some x, some xs => some (x :: xs)
      | _, _ => none) = _
    rw [ih]
    rfl
theorem toPy_lst {S : Sto} {k : Nat} {t : W.T} (h : S.get k = some (.lst (tupP t))) : toPy S 12 (.loc k) = some (.list (pyP t)) := by
  show (match S.get k with
      | some (.lst l) => (allP (toPy S 11) l).map PyData.list
      | _ => none) = _
  rw [h]
  simp only [allP_tup S 9 t]
  rfl
theorem lay_pyP : ∀ t : W.T, PyData.canLayAll0 (pyP t) = true
  | [] => rfl
  | p :: t => by
    show (PyData.canLay0 (.tuple [.int p.1, .int p.2]) && PyData.canLayAll0 (pyP t)) = true
    rw [lay_pyP t]
    rfl
theorem dep_pyP : ∀ t : W.T, PyData.depthAll (pyP t) ≤ 2
  | [] => by simp [pyP, PyData.depthAll]
  | p :: t => by
    have ih := dep_pyP t
    have : PyData.depthAll (pyP (p :: t)) = max (PyData.depth (.tuple [.int p.1, .int p.2])) (PyData.depthAll (pyP t)) := rfl
    rw [this]
    have h2 : PyData.depth (.tuple [.int p.1, .int p.2]) ≤ 2 := by simp [PyData.depth, PyData.depthAll]
    omega
theorem eqv_pyP : ∀ t : W.T, PyData.eqvAll (pyP t) (pyP t) = true
  | [] => by simp [pyP, PyData.eqvAll]
  | p :: t => by
    have ih := eqv_pyP t
    show (PyData.eqv (.tuple [.int p.1, .int p.2]) (.tuple [.int p.1, .int p.2]) && PyData.eqvAll (pyP t) (pyP t)) = true
    rw [ih]
    simp [PyData.eqv, PyData.eqvAll]
theorem sh_pyP (t : W.T) : SeqAt.shaped (.list (pyP t)) = true := by
  unfold SeqAt.shaped
  rw [Bool.and_eq_true, decide_eq_true_eq]
  refine ⟨lay_pyP t, ?_⟩
  have : PyData.depth (.list (pyP t)) = PyData.depthAll (pyP t) + 1 := by simp [PyData.depth]
  have := dep_pyP t
  omega
theorem eq_lists {S : Sto} {a b : Nat} {t : W.T} (h1 : S.get a = some (.lst (tupP t))) (h2 : S.get b = some (.lst (tupP t))) : cEqG (.loc a) (.loc b) S = .ok (.bl true) S := by
  have : isDct (.loc a) S = false := by simp only [isDct, h1]
  unfold cEqG
  rw [this]
  show cEq (.loc a) (.loc b) S = _
  unfold cEq eqDat
  rw [toPy_lst h1, toPy_lst h2]
  have ev : PyData.eqv (.list (pyP t)) (.list (pyP t)) = true := by
    have : PyData.eqv (.list (pyP t)) (.list (pyP t)) = PyData.eqvAll (pyP t) (pyP t) := by simp [PyData.eqv]
    rw [this, eqv_pyP]
  simp only [sh_pyP, Bool.and_self, if_true, ev]
theorem hits_enc {S : Sto} : ∀ (u t : W.T), (∀ p ∈ u, W.val t p.1 = p.2 ∧ t.any (fun q => decide (q.1 = p.1)) = true) → eqHits S (enc t) (enc u) = some true
  | [], t, _ => rfl
  | p :: u, t, h => by
    obtain ⟨h1, h2⟩ := h p (List.mem_cons_self ..)
    have ih := hits_enc (S := S) u t fun q hq => h q (List.mem_cons_of_mem _ hq)
    rw [enc_cons]
    unfold eqHits
    simp only [enc_get, h2, if_true, h1, eqDat_int, ih, decide_true, Bool.and_self]
theorem eq_dcts {S : Sto} {a b : Nat} {t : W.T} (hn : W.Nd t) (h1 : S.get a = some (.dct 0 (enc t))) (h2 : S.get b = some (.dct 0 (enc t))) : cEqG (.loc a) (.loc b) S = .ok (.bl true) S := by
  have hi : isDct (.loc a) S = true := by simp only [isDct, h1]
  unfold cEqG
  rw [hi]
  have d1 : dctK (.loc a) S = some (enc t) := by simp only [dctK, h1, enc_isK, if_true]
  have d2 : dctK (.loc b) S = some (enc t) := by simp only [dctK, h2, enc_isK, if_true]
  have e : eqDcts S (.loc a) (.loc b) = some true := by
    unfold eqDcts
    rw [d1, d2]
    simp only [if_true]
    exact hits_enc t t fun p hp => ⟨val_mem hn p hp, List.any_eq_true.mpr ⟨p, hp, by simp⟩⟩
  rw [e]
  rfl
/-- == {} -/
theorem eq_dct0 {S : Sto} {a b : Nat} {t : W.T} (h1 : S.get a = some (.dct 0 (enc t))) (h2 : S.get b = some (.dct 0 [])) : eqDcts S (.loc a) (.loc b) = some (decide (t = [])) := by
  have d1 : dctK (.loc a) S = some (enc t) := by simp only [dctK, h1, enc_isK, if_true]
  have d2 : dctK (.loc b) S = some [] := by simp only [dctK, h2, isK, if_true]
  unfold eqDcts
  rw [d1, d2]
  cases t with
  | nil => rfl
  | cons p t => rfl
theorem cEq_dct0 {S : Sto} {a b : Nat} {t : W.T} (h1 : S.get a = some (.dct 0 (enc t))) (h2 : S.get b = some (.dct 0 [])) : cEqG (.loc a) (.loc b) S = .ok (.bl (decide (t = []))) S := by
  have hi : isDct (.loc a) S = true := by simp only [isDct, h1]
  unfold cEqG
  rw [hi, eq_dct0 h1 h2]
  rfl
theorem cNe_dct0 {S : Sto} {a b : Nat} {t : W.T} (h1 : S.get a = some (.dct 0 (enc t))) (h2 : S.get b = some (.dct 0 [])) : cNeG (.loc a) (.loc b) S = .ok (.bl (!decide (t = []))) S := by
  have hi : isDct (.loc a) S = true := by simp only [isDct, h1]
  unfold cNeG
  rw [hi, eq_dct0 h1 h2]
  rfl
/-- dicts that differ -/
theorem hits_miss {S : Sto} : ∀ (u t : W.T), (∃ p ∈ u, t.any (fun q => decide (q.1 = p.1)) = false) → eqHits S (enc t) (enc u) = some false
  | [], t, ⟨p, h, _⟩ => by simp at h
  | p :: u, t, ⟨q, hq, hm⟩ => by
    rw [enc_cons]
    unfold eqHits
    cases ha : t.any (fun q => decide (q.1 = p.1)) with
    | false =>
      simp only [enc_get, ha]
      rfl
    | true =>
      rcases List.mem_cons.mp hq with rfl | hq
      · rw [hm] at ha
        cases ha
      · have ih := hits_miss (S := S) u t ⟨q, hq, hm⟩
        simp only [enc_get, ha, if_true, eqDat_int, ih, Bool.and_false]
theorem fDict_d {S : Sto} {k lk : Nat} {t : W.T} (h : S.get k = some (.dct lk (enc t))) : fDict [.loc k] S = .ok (.loc S.n) (S.new (.dct 0 (enc t))) := by simp only [fDict, h, enc_isK, if_true]
theorem fDict_l {S : Sto} {k : Nat} {t : W.T} (h : S.get k = some (.lst (tupP t))) (hn : W.Nd t) : fDict [.loc k] S = .ok (.loc S.n) (S.new (.dct 0 (enc t))) := by
  simp only [fDict, h]
  rw [show tupP t = t.map fun p => D.tup [.int p.1, .int p.2] from rfl, pairs_enc]
  simp only [merge_enc hn]
theorem fItems_d {S : Sto} {k : Nat} {t : W.T} (h : S.get k = some (.dct 0 (enc t))) : fItems (.loc k) S = .ok (.loc S.n) (S.new (.lst (tupP t))) := by simp only [fItems, h, enc_isK, if_true, items_enc]
section
variable {m a b o i v : ME} {t : MT} {sd : SD} {S S1 S2 S3 S4 : Sto} {x y d od id : D} {k : Bool}
theorem bind_ok {α β : Type} {a : α} {S : Sto} {k : α → Sto → Res β} : (Res.ok a S).bind k = k a S := rfl
theorem mAndT_t (e : a sd S = .ok (.bl true) S1) : mAndT a b sd S = b sd S1 := by unfold mAndT; rw [e]; rfl
theorem mAndT_f (e : a sd S = .ok (.bl false) S1) : mAndT a b sd S = .ok (.bl false) S1 := by unfold mAndT; rw [e]; rfl
theorem mTru_b (e : m sd S = .ok (.bl k) S1) : mTru m sd S = .ok k S1 := by unfold mTru; rw [e]; rfl
theorem tNot_ok (e : t sd S = .ok k S1) : tNotM t sd S = .ok (!k) S1 := by unfold tNotM; rw [e]; rfl
theorem sStI_ok {f : D → D → D → Sto → Option Sto} (e1 : v sd S = .ok d S1) (e2 : o sd S1 = .ok od S2) (e3 : i sd S2 = .ok id S3) (e4 : f od id d S3 = some S4) : sStI f o i v sd S = .nx sd S4 := by
  unfold sStI
  rw [e1]
  simp only [bindS]
  rw [e2]
  simp only [bindS]
  rw [e3]
  simp only [bindS, e4]
theorem sStA_ok {tab : List (Nat × Nat)} {c j : Nat} (e1 : v sd S = .ok d S1) (e2 : o sd S1 = .ok od S2) (e3 : clsD od S2 = some c) (e4 : tab.lookup c = some j) (e5 : setD od j d S2 = some S3) : sStA tab o v sd S = .nx sd S3 := by
  unfold sStA
  rw [e1]
  simp only [bindS]
  rw [e2]
  simp only [bindS, e3, e4, e5]
end
/-- sizes -/
theorem log_small {n : Nat} (h : n < 2 ^ 2000) : n.log2 < 2000 := by
  by_cases z : n = 0
  · subst z
    simp
  · exact (Nat.log2_lt z).mpr h
theorem mulOk_1 {i j : Int} (h : i.natAbs < 18446744073709551616) : mulOk i j = true := by unfold mulOk; simp [h]
theorem mulOk_2 {i j : Int} (h : i.natAbs < 2 ^ 2000) (h2 : j.natAbs < 2 ^ 2000) : mulOk i j = true := by
  unfold mulOk
  have := log_small h
  have := log_small h2
  rw [Bool.or_eq_true, decide_eq_true_eq, decide_eq_true_eq]
  right
  omega
end Y

/-! Wd: the ring of rows. -/
namespace Y
open W (Nd NF Eqv EB nrm tot summed prod)
def addR (t u : W.T) (m : Int) : W.T := nf (summed t u m)
def mulR (t u : W.T) : W.T := nf (prod t u [])
def negR (t : W.T) : W.T := nf (summed [] t (-1))
theorem nd_nil : Nd [] := .nil
theorem nf_nil : NF [] := ⟨.nil, by simp⟩
section
variable {t u v : W.T} {m : Int}
theorem addR_nf (h : Nd t) : NF (addR t u m) := nf_nf (W.summed_ok m u h).1
theorem mulR_nf : NF (mulR t u) := nf_nf (W.prod_ok u t nd_nil).1
theorem negR_nf : NF (negR t) := nf_nf (W.summed_ok (-1) t nd_nil).1
theorem addR_tot (h : Nd t) (g : Int → Int) : tot g (addR t u m) = tot g t + m * tot g u := by
  rw [addR, nf_eqv (W.summed_ok m u h).1 g, (W.summed_ok m u h).2.1 g]
theorem mulR_tot (g : Int → Int) : tot g (mulR t u) = tot (fun x => tot (fun y => g (x + y)) u) t := by
  rw [mulR, nf_eqv (W.prod_ok u t nd_nil).1 g, (W.prod_ok u t nd_nil).2.1 g]
  simp [tot]
theorem negR_tot (g : Int → Int) : tot g (negR t) = - tot g t := by
  rw [negR, nf_eqv (W.summed_ok (-1) t nd_nil).1 g, (W.summed_ok (-1) t nd_nil).2.1 g]
  simp [tot]
/-- sizes -/
structure Bk (i : Nat) (t : W.T) : Prop where
  nd : Nd t
  one : 1 ≤ i
  len : t.length ≤ 12 ^ i
  eb : EB t (20 * i)
  nr : nrm t ≤ 10 ^ (25 * i)
theorem add_le_mul {a b : Nat} (ha : 2 ≤ a) (hb : 2 ≤ b) : a + b ≤ a * b := by
  rcases Nat.le_total a b with h | h
  · have : 2 * b ≤ a * b := Nat.mul_le_mul_right _ ha
    omega
  · have : a * 2 ≤ a * b := Nat.mul_le_mul_left _ hb
    omega
theorem pow2_le {b i : Nat} (hb : 2 ≤ b) (hi : 1 ≤ i) : 2 ≤ b ^ i := Nat.le_trans hb (by
  have := Nat.pow_le_pow_right (n := b) (by omega) hi
  simpa using this)
theorem eb_mono {t : W.T} {M N : Nat} (h : EB t M) (hn : M ≤ N) : EB t N := fun p hp => Nat.le_trans (h p hp) hn
theorem Bk.up {i j : Nat} (h : Bk i t) (hij : i ≤ j) : Bk j t :=
  ⟨h.nd, Nat.le_trans h.one hij, Nat.le_trans h.len (Nat.pow_le_pow_right (by decide) hij), eb_mono h.eb (by omega), Nat.le_trans h.nr (Nat.pow_le_pow_right (by decide) (by omega))⟩
theorem Bk.add {i j : Nat} (h : Bk i t) (k : Bk j u) (hm : m.natAbs ≤ 1) : Bk (i + j) (addR t u m) := by
  obtain ⟨a, b, c, d, e⟩ := W.summed_ok m u h.nd
  have hi := h.one
  have hj := k.one
  refine ⟨(nf_nf a).nd, by omega, Nat.le_trans (nf_len _) (Nat.le_trans d ?_), nf_eb (e _ (eb_mono h.eb (by omega)) (eb_mono k.eb (by omega))), Nat.le_trans (nf_nrm a) (Nat.le_trans c ?_)⟩
  · rw [Nat.pow_add]
    exact Nat.le_trans (Nat.add_le_add h.len k.len) (add_le_mul (pow2_le (by decide) hi) (pow2_le (by decide) hj))
  · rw [Nat.mul_add, Nat.pow_add]
    have h3 : m.natAbs * nrm u ≤ 1 * nrm u := Nat.mul_le_mul_right _ hm
    rw [Nat.one_mul] at h3
    exact Nat.le_trans (Nat.add_le_add h.nr (Nat.le_trans h3 k.nr)) (add_le_mul (pow2_le (by decide) (by omega)) (pow2_le (by decide) (by omega)))
theorem Bk.mul {i j : Nat} (h : Bk i t) (k : Bk j u) : Bk (i + j) (mulR t u) := by
  obtain ⟨a, b, c, d, e⟩ := W.prod_ok u t nd_nil
  have hi := h.one
  refine ⟨(nf_nf a).nd, by omega, Nat.le_trans (nf_len _) (Nat.le_trans d ?_), nf_eb (e _ (20 * i) (20 * j) (by intro p hp; cases hp) h.eb k.eb (by omega)), Nat.le_trans (nf_nrm a) (Nat.le_trans c ?_)⟩
  · rw [Nat.pow_add, List.length_nil, Nat.zero_add]
    exact Nat.mul_le_mul h.len k.len
  · rw [Nat.mul_add, Nat.pow_add]
    show 0 + _ ≤ _
    rw [Nat.zero_add]
    exact Nat.mul_le_mul h.nr k.nr
theorem Bk.neg {i : Nat} (h : Bk i t) : Bk i (negR t) := by
  obtain ⟨a, b, c, d, e⟩ := W.summed_ok (-1) t nd_nil
  refine ⟨(nf_nf a).nd, h.one, Nat.le_trans (nf_len _) (Nat.le_trans d ?_), nf_eb (e _ (by intro p hp; cases hp) h.eb), Nat.le_trans (nf_nrm a) (Nat.le_trans c ?_)⟩
  · simpa using h.len
  · show 0 + 1 * _ ≤ _
    simpa using h.nr
theorem Bk.nf {i : Nat} (h : Bk i t) : Bk i (nf t) := ⟨(nf_nf h.nd).nd, h.one, Nat.le_trans (nf_len _) h.len, nf_eb h.eb, Nat.le_trans (nf_nrm h.nd) h.nr⟩
theorem Bk.e4 {i : Nat} (h : Bk i t) (hi : i ≤ 6) : EB t 10000 := eb_mono h.eb (by omega)
theorem Bk.l {i : Nat} (h : Bk i t) (hi : i ≤ 6) : t.length < 16777216 := Nat.lt_of_le_of_lt (h.up hi).len (by decide)
set_option exponentiation.threshold 3000 in
theorem Bk.n {i : Nat} (h : Bk i t) (hi : i ≤ 6) : nrm t < 2 ^ 2000 := Nat.lt_of_le_of_lt (h.up hi).nr (by decide)
theorem bk_one {n : Int} (h : n.natAbs ≤ 10 ^ 25) : Bk 1 [(0, n)] := ⟨by simp [Nd], Nat.le_refl _, by simp, fun p hp => by
  have : p = (0, n) := by simpa using hp
  rw [this]
  simp, by simpa [nrm] using h⟩
/-! equalities -/
theorem tot_cong {g k : Int → Int} (e : ∀ x, g x = k x) : tot g t = tot k t := W.tot_congr e t
theorem nf_eq' (ha : NF t) (hb : NF u) (h : ∀ g, tot g t = tot g u) : t = u := W.nf_eq ha hb h
theorem add_comm' (ht : Nd t) (hu : Nd u) : addR t u 1 = addR u t 1 := nf_eq' (addR_nf ht) (addR_nf hu) fun g => by rw [addR_tot ht, addR_tot hu]; omega
theorem mul_comm' : mulR t u = mulR u t := nf_eq' mulR_nf mulR_nf fun g => by
  rw [mulR_tot, mulR_tot, W.tot_swap]
  exact tot_cong fun x => tot_cong fun y => by rw [Int.add_comm]
theorem add_assoc' (ht : Nd t) (hu : Nd u) : addR (addR t u 1) v 1 = addR t (addR u v 1) 1 := nf_eq' (addR_nf (addR_nf ht).nd) (addR_nf ht) fun g => by
  rw [addR_tot (addR_nf ht).nd, addR_tot ht, addR_tot ht, addR_tot hu]
  omega
theorem mul_assoc' : mulR (mulR t u) v = mulR t (mulR u v) := nf_eq' mulR_nf mulR_nf fun g => by
  rw [mulR_tot, mulR_tot, mulR_tot]
  exact tot_cong fun x => by
    rw [mulR_tot]
    exact tot_cong fun y => tot_cong fun z => by rw [Int.add_assoc]
theorem mul_add' (hu : Nd u) : mulR t (addR u v 1) = addR (mulR t u) (mulR t v) 1 := nf_eq' mulR_nf (addR_nf mulR_nf.nd) fun g => by
  rw [mulR_tot, addR_tot mulR_nf.nd, mulR_tot, mulR_tot, Int.one_mul, ← W.tot_add]
  exact tot_cong fun x => by rw [addR_tot hu, Int.one_mul]
theorem sub_neg' (ht : Nd t) : addR t u (-1) = addR t (negR u) 1 := nf_eq' (addR_nf ht) (addR_nf ht) fun g => by
  rw [addR_tot ht, addR_tot ht, negR_tot]
  omega
theorem sub_self' (ht : Nd t) : addR t t (-1) = [] := nf_eq' (addR_nf ht) nf_nil fun g => by
  rw [addR_tot ht]
  simp only [tot]
  omega
theorem mul_nil' : mulR t [] = [] := nf_eq' mulR_nf nf_nil fun g => by
  rw [mulR_tot]
  simp only [tot]
  exact W.tot_zero t
theorem nil_mul' : mulR [] t = [] := nf_eq' mulR_nf nf_nil fun g => by
  rw [mulR_tot]
  rfl
theorem add_zero' (ht : NF t) : addR t [(0, 0)] 1 = t := nf_eq' (addR_nf ht.nd) ht fun g => by
  rw [addR_tot ht.nd]
  simp [tot]
theorem mul_one' (ht : NF t) : mulR t [(0, 1)] = t := nf_eq' mulR_nf ht fun g => by
  rw [mulR_tot]
  exact tot_cong fun x => by simp [tot]
theorem mul_m1' : mulR t [(0, -1)] = negR t := nf_eq' mulR_nf negR_nf fun g => by
  rw [mulR_tot, negR_tot]
  have : tot (fun x => tot (fun y => g (x + y)) [(0, -1)]) t = tot (fun x => (-1) * g x) t := tot_cong fun x => by simp [tot]
  rw [this, W.tot_mul]
  omega
theorem neg_neg' (ht : NF t) : negR (negR t) = t := nf_eq' negR_nf ht fun g => by rw [negR_tot, negR_tot]; omega
theorem add_nf' (ht : Nd t) (hu : Nd u) : addR t (nf u) m = addR t u m := nf_eq' (addR_nf ht) (addR_nf ht) fun g => by rw [addR_tot ht, addR_tot ht, nf_eqv hu]
theorem mul_nf' (hu : Nd u) : mulR t (nf u) = mulR t u := nf_eq' mulR_nf mulR_nf fun g => by
  rw [mulR_tot, mulR_tot]
  exact tot_cong fun x => nf_eqv hu _
/-! leading terms -/
theorem tot_mem {g k : Int → Int} : ∀ {t : W.T}, (∀ p ∈ t, g p.1 = k p.1) → tot g t = tot k t
  | [], _ => rfl
  | p :: t, h => by
    simp only [tot]
    rw [h p (List.mem_cons_self ..), tot_mem fun q hq => h q (List.mem_cons_of_mem _ hq)]
theorem tot_mem0 {g : Int → Int} {t : W.T} (h : ∀ p ∈ t, g p.1 = 0) : tot g t = 0 := by
  rw [tot_mem (k := fun _ => 0) h, W.tot_zero]
theorem tot_dl {e : Int} : ∀ {t : W.T}, Nd t → ∀ p ∈ t, p.1 = e → tot (W.dl e) t = p.2
  | q :: t, h, p, hp, he => by
    obtain ⟨h1, h2⟩ := W.nd_cons h
    rw [List.any_eq_false] at h1
    rcases List.mem_cons.mp hp with rfl | hp
    · have : tot (W.dl e) t = 0 := W.tot_dl_none fun r hr z => h1 r hr (by simp [z, he])
      simp only [tot, this, W.dl, he, if_true]
      omega
    · have hne : ¬ q.1 = e := fun z => h1 p hp (by simp [z, he])
      simp only [tot, W.dl, if_neg hne, tot_dl h2 p hp he]
      simp only [Int.mul_zero, Int.zero_add]
theorem mem_of_tot {e : Int} {t : W.T} (h : tot (W.dl e) t ≠ 0) : e ∈ t.map (·.1) := by
  refine Classical.byContradiction fun hn => h (W.tot_dl_none fun q hq z => hn (List.mem_map.mpr ⟨q, hq, z⟩))
theorem corner {M N : Int} (ht : NF t) (hu : NF u) (hM : M ∈ t.map (·.1)) (hN : N ∈ u.map (·.1)) (h : ∀ x ∈ t.map (·.1), ∀ y ∈ u.map (·.1), x + y = M + N → x = M ∧ y = N) : M + N ∈ (mulR t u).map (·.1) := by
  obtain ⟨p, hp, ep⟩ := List.mem_map.mp hM
  obtain ⟨q, hq, eq⟩ := List.mem_map.mp hN
  refine mem_of_tot ?_
  rw [mulR_tot]
  have e1 : tot (fun x => tot (fun y => W.dl (M + N) (x + y)) u) t = tot (fun x => W.dl M x * tot (W.dl N) u) t := tot_mem fun r hr => by
    have hx : r.1 ∈ t.map (·.1) := List.mem_map.mpr ⟨r, hr, rfl⟩
    by_cases z : r.1 = M
    · simp only [W.dl, z, if_true, Int.one_mul]
      exact tot_cong fun y => by
        by_cases w : y = N
        · simp [w, W.dl]
        · have : ¬ M + y = M + N := by omega
          simp [w, this, W.dl]
    · simp only [W.dl, if_neg z, Int.zero_mul]
      exact tot_mem0 fun s hs => by
        have : ¬ r.1 + s.1 = M + N := fun w => z (h _ hx _ (List.mem_map.mpr ⟨s, hs, rfl⟩) w).1
        simp [this]
  rw [e1, W.tot_mulr, tot_dl ht.nd p hp ep, tot_dl hu.nd q hq eq]
  exact Int.mul_ne_zero (ht.nz p hp) (hu.nz q hq)
theorem keys_mul {e : Int} (h : e ∈ (mulR t u).map (·.1)) : ∃ x ∈ t.map (·.1), ∃ y ∈ u.map (·.1), x + y = e := by
  refine Classical.byContradiction fun hn => ?_
  obtain ⟨p, hp, ep⟩ := List.mem_map.mp h
  have h1 := tot_dl mulR_nf.nd p hp ep
  have z : tot (fun x => tot (fun y => W.dl e (x + y)) u) t = 0 := tot_mem0 fun r hr => tot_mem0 fun s hs => by
    have : ¬ r.1 + s.1 = e := fun w => hn ⟨_, List.mem_map.mpr ⟨r, hr, rfl⟩, _, List.mem_map.mpr ⟨s, hs, rfl⟩, w⟩
    simp [W.dl, this]
  rw [mulR_tot, z] at h1
  exact mulR_nf.nz p hp h1.symm
theorem keys_ne (h : t ≠ []) : t.map (·.1) ≠ [] := by simpa using h
theorem max_unique {l : List Int} {M : Int} (h : M ∈ l) (h2 : ∀ x ∈ l, x ≤ M) : maxI l = M := by
  obtain ⟨a, b⟩ := maxI_ok (l := l) (by intro z; rw [z] at h; cases h)
  have := b M h
  have := h2 _ a
  omega
theorem min_unique {l : List Int} {M : Int} (h : M ∈ l) (h2 : ∀ x ∈ l, M ≤ x) : minI l = M := by
  obtain ⟨a, b⟩ := minI_ok (l := l) (by intro z; rw [z] at h; cases h)
  have := b M h
  have := h2 _ a
  omega
theorem max_mul (ht : NF t) (hu : NF u) (h1 : t ≠ []) (h2 : u ≠ []) : maxI ((mulR t u).map (·.1)) = maxI (t.map (·.1)) + maxI (u.map (·.1)) ∧ minI ((mulR t u).map (·.1)) = minI (t.map (·.1)) + minI (u.map (·.1)) ∧ mulR t u ≠ [] := by
  obtain ⟨a1, a2⟩ := maxI_ok (keys_ne h1)
  obtain ⟨b1, b2⟩ := maxI_ok (keys_ne h2)
  obtain ⟨c1, c2⟩ := minI_ok (keys_ne h1)
  obtain ⟨d1, d2⟩ := minI_ok (keys_ne h2)
  have cM := corner ht hu a1 b1 fun x hx y hy e => by
    have := a2 x hx
    have := b2 y hy
    omega
  have cm := corner ht hu c1 d1 fun x hx y hy e => by
    have := c2 x hx
    have := d2 y hy
    omega
  refine ⟨max_unique cM fun e he => ?_, min_unique cm fun e he => ?_, fun z => ?_⟩
  · obtain ⟨x, hx, y, hy, rfl⟩ := keys_mul he
    have := a2 x hx
    have := b2 y hy
    omega
  · obtain ⟨x, hx, y, hy, rfl⟩ := keys_mul he
    have := c2 x hx
    have := d2 y hy
    omega
  · rw [z] at cM
    cases cM
theorem mul_eq_nil (ht : NF t) (hu : NF u) : mulR t u = [] ↔ t = [] ∨ u = [] := by
  constructor
  · intro h
    refine Classical.byContradiction fun hn => ?_
    rw [not_or] at hn
    exact (max_mul ht hu hn.1 hn.2).2.2 h
  · rintro (rfl | rfl)
    · exact nil_mul'
    · exact mul_nil'
/-! values at 1 and -1 -/
def sg (v : Int) (e : Int) : Int := if e % 2 = 0 then 1 else v
theorem sg_add {x y : Int} : sg (-1) (x + y) = sg (-1) x * sg (-1) y := by
  unfold sg
  split <;> split <;> split <;> omega
theorem at1_mul : tot (sg 1) (mulR t u) = tot (sg 1) t * tot (sg 1) u := by
  have h : ∀ x, sg 1 x = 1 := fun x => by unfold sg; split <;> rfl
  rw [mulR_tot]
  have : tot (fun x => tot (fun y => sg 1 (x + y)) u) t = tot (fun x => sg 1 x * tot (sg 1) u) t := tot_cong fun x => by
    rw [h, Int.one_mul]
    exact tot_cong fun y => by rw [h, h]
  rw [this, W.tot_mulr]
end
end Y

/-! We: the law in two parts (a loop, then code that needs none of its names); loops and comprehensions with any numbers. -/
namespace Y
open PySem PySem.Spec PyProof.Rows L2
theorem tl_none {G : Glo} {ρ : Rho} {H : Hp} {σ : L2.St} {sd : SD} {S : Sto} {n : Nat} (hs : RelSt G ρ H sd σ) (hr : Rep G ρ S H) (hl : sd.length = n) : ∃ ρ', RelSt G ρ' H (List.replicate n none) σ ∧ Rep G ρ' ⟨0, []⟩ H := by
  refine (Weak.cut (sd := sd) (sd' := List.replicate n none) (S := S) (S' := ⟨0, []⟩) (by rw [List.length_replicate, hl]) (fun i d q => ?_) (fun j c q => ?_)) G ρ H σ hs hr
  · rw [List.getElem?_replicate] at q
    split at q <;> cases q
  · simp [Sto.get] at q
theorem fn_two {G : Glo} {P : Program} {w : World} {mg : Str → Option Value} {base : Heap} {x qual : Str} {st : Stmt} {f : Addr} {fd : FuncData} {N ps : List Str} {k nn : Nat} {m1 m2 : MS} (F : Fun G.K x qual st f fd) (Sc : FnScope N ps (defScope st)) (hp : ps.length = 1) (hb : Binds G.K fd ps [])
    (body : ∀ (cdv : Value) (A : Around) (outer : List Env) (s : Shared) (H : Hp) (E : XK), Room k (A.deeper (envOfC qual (defScope st) s.heap.objs.size f cdv)) → (A.deeper (envOfC qual (defScope st) s.heap.objs.size f cdv)).guards = some [] →
      ∃ st1 rest, defBody st = st1 :: rest ∧ PSm G (cxOf (L2.CX P w) P w G.K mg base N qual (defScope st) f cdv A outer s H E) st1 m1 ∧ PSsm G (cxOf (L2.CX P w) P w G.K mg base N qual (defScope st) f cdv A outer s H E) rest m2)
    (h1 : ∀ ns : List Int, ns.length ≤ nn → AllS (m1 (some (.scr ns) :: List.replicate (N.length - 1) none) ⟨0, []⟩) (fun sd _ => sd.length = N.length) fun d _ => d = .bl true)
    (h2 : AllS (m2 (List.replicate N.length none) ⟨0, []⟩) (fun _ _ => False) fun d _ => d = .bl true) : FnT G P w mg base (k + 1) nn f :=
  fn_top F Sc hp hb fun cdv A outer s H W ns hn hr hg ok => by
    obtain ⟨st1, rest, e, b1, b2⟩ := body cdv A outer s H (fun _ _ _ => False) hr hg
    rw [e]
    refine ⟨_, pss_cons (b1 W ok) (b2 W ok), fun E σ H ⟨ρ, hs, hr⟩ hE => ?_⟩
    have ret : ∀ (d : D) (S1 : Sto), d = .bl true → ∀ ρ' H' v, Rep G ρ' S1 H' → RelD G ρ' H' d v → E.rt v H' := fun d S1 e ρ' H' v _ rd => by
      subst e
      simp only [RelD] at rd
      subst rd
      exact hE H'
    refine ⟨_, _, ρ, hs, hr, (h1 ns hn).aft (fun sd S1 hl ρ' H' σ' r1 r2 => ?_) ret⟩
    obtain ⟨ρ2, a, b⟩ := tl_none r2 r1 hl
    exact ⟨_, _, ρ2, a, b, h2.aft (fun _ _ z => z.elim) ret⟩
/-! loops -/
theorem AllR.bindX {α β : Type} {r : Res α} {k : α → Sto → Res β} {P : β → Sto → Prop} (h : AllR r fun a S => AllR (k a S) P) : AllR (r.bindX k) P := by
  generalize hq : (fun a S => AllR (k a S) P) = q at h
  induction h with
  | ok h => subst hq; exact h
  | pick h ih => exact .pick fun j hj => ih j hj hq
theorem AllR.of {α : Type} {r : Res α} {a : α} {S : Sto} {P : α → Sto → Prop} (e : r = .ok a S) (h : P a S) : AllR r P := by rw [e]; exact .ok h
theorem AllS.ofn {r : SRes} {sd : SD} {S : Sto} {N : SD → Sto → Prop} {T : D → Sto → Prop} (e : r = .nx sd S) (h : N sd S) : AllS r N T := by rw [e]; exact .nx h
theorem rng_next {n i : Nat} {S : Sto} : itNext (.rng 0 1 n) i S = some ((List.range n)[i]?.map fun k : Nat => D.int k) := by
  simp only [itNext]
  by_cases h : i < n
  · rw [if_pos h, List.getElem?_range h]
    simp
  · rw [if_neg h, List.getElem?_eq_none (by simpa using Nat.le_of_not_lt h)]
    rfl
/-- for x in range(n) -/
theorem for_rng {a : MA} {tg : Tg} {b : MS} {T : D → Sto → Prop} {R : Nat → SD → Sto → Prop} {sd : SD} {S : Sto} {B : Nat} (ha : AllR (a sd S) fun l S1 => ∃ n : Nat, l = [.int n] ∧ n ≤ B ∧ R 0 sd S1) (hB : B < 4611686018427387904)
    (step : ∀ i sd S, i < B → R i sd S → ∃ sd1, asg tg (.int i) sd = some sd1 ∧ AllS (b sd1 S) (fun sd2 S2 => R (i + 1) sd2 S2) T) : AllS (sFor (mIts itRng1 a) tg b sd S) (fun sd' S' => ∃ n ≤ B, R n sd' S') T := by
  unfold sFor mIts
  refine AllS.bind (AllR.bind (ha.mono fun l S1 ⟨n, e, hn, h0⟩ => ?_))
  subst e
  have er : itRng1 [.int n] S1 = .ok (.rng 0 1 n) S1 := by
    simp only [itRng1]
    rw [if_pos (by omega)]
    simp
  refine AllR.of er ?_
  show AllS (forLoop (.rng 0 1 n) tg b (n + 1) 0 sd S1) _ T
  have := forLoop_all (u := List.range n) (it := .rng 0 1 n) (g := fun k : Nat => D.int k) (tg := tg) (b := b) (T := T) (R := fun pre sd S => R pre.length sd S) (fun pre sd S _ i => rng_next)
    (fun pre p post sd S hu hr => by
      have hp : p = pre.length := by
        have h1 : (List.range n)[pre.length]? = some p := by rw [hu]; simp
        rw [List.getElem?_eq_some_iff] at h1
        obtain ⟨_, h2⟩ := h1
        simpa using h2.symm
      have hlt : pre.length < n := by
        have h3 : (List.range n).length = pre.length + (post.length + 1) := by rw [hu]; simp
        rw [List.length_range] at h3
        omega
      obtain ⟨sd1, e1, h1⟩ := step pre.length sd S (by omega) hr
      rw [hp]
      refine ⟨sd1, e1, h1.mono (fun sd2 S2 h => ?_) fun _ _ h => h⟩
      rw [List.length_append]
      exact h) (List.range n) [] (n + 1) sd S1 rfl (by simp) h0
  refine this.mono (fun sd' S' h => ⟨n, hn, ?_⟩) fun _ _ h => h
  rw [List.length_range] at h
  exact h
/-- [.. for x in ..] with parts that make things -/
theorem lc_all {α : Type} {u : List α} {it : ItD} {g : α → D} {tg : Tg} {e : ME} {sd : SD} {dl : Nat} {P : List D → Sto → Prop} (hu : u.length ≤ 16777216) (look : ∀ acc S, P acc S → S.get dl = some (.lst acc) → ∀ i, itNext it i S = some (u[i]?.map g))
    (step : ∀ a ∈ u, ∀ acc S, P acc S → S.get dl = some (.lst acc) → ∃ sd1, asg tg (g a) sd = some sd1 ∧ AllR (e sd1 S) fun y S2 => S2.get dl = some (.lst acc) ∧ P (acc ++ [y]) (S2.set dl (.lst (acc ++ [y])))) :
    ∀ (n i : Nat) (acc : List D) (S : Sto), P acc S → S.get dl = some (.lst acc) → acc.length = i → i ≤ u.length → u.length < n + i → AllR (lcLoop it tg tYesM e sd dl n i S) fun d S' => d = .loc dl ∧ ∃ acc', acc'.length = u.length ∧ S'.get dl = some (.lst acc') ∧ P acc' S'
  | 0, i, acc, S, hP, hd, hl, hi, hn => by omega
  | n + 1, i, acc, S, hP, hd, hl, hi, hn => by
    unfold lcLoop
    rw [look acc S hP hd i]
    by_cases h : i < u.length
    · have e1 : u[i]? = some u[i] := List.getElem?_eq_getElem h
      obtain ⟨sd1, a1, a2⟩ := step u[i] (List.getElem_mem h) acc S hP hd
      simp only [e1, Option.map_some, a1, tYesM, Res.bindX, if_true]
      refine AllR.bindX (a2.mono fun y S2 ⟨h1, h2⟩ => ?_)
      simp only [h1]
      rw [if_pos (by omega)]
      exact lc_all hu look step n (i + 1) (acc ++ [y]) _ h2 (Sto.get_set_self h1) (by simp; omega) h (by omega)
    · have e1 : u[i]? = none := List.getElem?_eq_none (by omega)
      simp only [e1, Option.map_none]
      exact .ok ⟨rfl, acc, by omega, hd, hP⟩
end Y

/-! Wf: long division of rows from the low end. -/
namespace Y
open W (Nd NF Eqv EB nrm tot summed prod)
def lowK (t : W.T) : Int := minI (t.map (·.1))
def highK (t : W.T) : Int := maxI (t.map (·.1))
/-- no step is left: there is no quotient -/
def Bad (t u l : W.T) : Prop := (W.val l (lowK l)).fmod (W.val u (lowK u)) ≠ 0 ∨ lowK l - lowK u > highK t - highK u
def quo (u l : W.T) : Int := (W.val l (lowK l)).fdiv (W.val u (lowK u))
def shiftR (s : Int) (u : W.T) : W.T := u.map fun p => (p.1 + s, p.2)
def nextL (u l : W.T) : W.T := addR l (mulR [(lowK l - lowK u, quo u l)] u) (-1)
inductive DivR (t u : W.T) : W.T → W.T → Option W.T → Nat → Prop
  | done {f : W.T} : DivR t u [] f (some f) 0
  | fail {l f : W.T} (h : l ≠ []) (b : Bad t u l) : DivR t u l f none 0
  | step {l f : W.T} {r : Option W.T} {n : Nat} (h : l ≠ []) (b : ¬ Bad t u l) (k : DivR t u (nextL u l) (W.put f (lowK l - lowK u) (quo u l)) r n) : DivR t u l f r (n + 1)
section
variable {t u l : W.T}
theorem lowK_mem (h : t ≠ []) : lowK t ∈ t.map (·.1) := (minI_ok (keys_ne h)).1
theorem lowK_le (h : t ≠ []) {e : Int} (he : e ∈ t.map (·.1)) : lowK t ≤ e := (minI_ok (keys_ne h)).2 e he
theorem highK_le (h : t ≠ []) {e : Int} (he : e ∈ t.map (·.1)) : e ≤ highK t := (maxI_ok (keys_ne h)).2 e he
theorem highK_mem (h : t ≠ []) : highK t ∈ t.map (·.1) := (maxI_ok (keys_ne h)).1
theorem val_ne (h : NF t) {e : Int} (he : e ∈ t.map (·.1)) : W.val t e ≠ 0 := by
  obtain ⟨p, hp, rfl⟩ := List.mem_map.mp he
  rw [val_mem h.nd p hp]
  exact h.nz p hp
theorem tot_val (h : Nd t) {e : Int} : tot (W.dl e) t = W.val t e := by
  by_cases he : e ∈ t.map (·.1)
  · obtain ⟨p, hp, rfl⟩ := List.mem_map.mp he
    rw [tot_dl h p hp rfl, val_mem h p hp]
  · rw [W.tot_dl_none fun q hq z => he (List.mem_map.mpr ⟨q, hq, z⟩), W.val_none]
    rw [List.any_eq_false]
    intro q hq z
    exact he (List.mem_map.mpr ⟨q, hq, by simpa using z⟩)
theorem nextL_tot (h : Nd l) (g : Int → Int) : tot g (nextL u l) = tot g l - quo u l * tot (fun y => g (lowK l - lowK u + y)) u := by
  unfold nextL
  rw [addR_tot h, mulR_tot]
  simp only [tot]
  omega
theorem quo_mul (b : ¬ Bad t u l) (h : W.val u (lowK u) ≠ 0) : quo u l * W.val u (lowK u) = W.val l (lowK l) := by
  unfold Bad at b
  rw [not_or, Decidable.not_not] at b
  unfold quo
  have := Int.mul_fdiv_add_fmod (W.val l (lowK l)) (W.val u (lowK u))
  rw [b.1, Int.mul_comm] at this
  omega
/-- the least exponent rises -/
theorem nextL_keys (hl : NF l) (hu : NF u) (ne : l ≠ []) (nu : u ≠ []) (b : ¬ Bad t u l) : ∀ e ∈ (nextL u l).map (·.1), lowK l < e := by
  intro e he
  have nn : NF (nextL u l) := addR_nf hl.nd
  have hv := val_ne nn he
  rw [← tot_val nn.nd, nextL_tot hl.nd] at hv
  refine Classical.byContradiction fun hlt => hv ?_
  have hle : e ≤ lowK l := by omega
  have hz : ∀ y ∈ u.map (·.1), lowK l - lowK u + y = e → e = lowK l ∧ y = lowK u := fun y hy q => by
    have := lowK_le nu hy
    omega
  by_cases q : e = lowK l
  · subst q
    rw [tot_val hl.nd]
    have : tot (fun y => W.dl (lowK l) (lowK l - lowK u + y)) u = tot (W.dl (lowK u)) u := tot_mem fun p hp => by
      by_cases z : p.1 = lowK u
      · simp [W.dl, z]
      · have : ¬ lowK l - lowK u + p.1 = lowK l := by omega
        simp [W.dl, z, this]
    rw [this, tot_val hu.nd, quo_mul b (val_ne hu (lowK_mem nu))]
    omega
  · have h1 : tot (W.dl e) l = 0 := W.tot_dl_none fun p hp z => by
      have := lowK_le ne (List.mem_map.mpr ⟨p, hp, rfl⟩)
      omega
    have h2 : tot (fun y => W.dl e (lowK l - lowK u + y)) u = 0 := tot_mem0 fun p hp => by
      have : ¬ lowK l - lowK u + p.1 = e := fun z => q (hz p.1 (List.mem_map.mpr ⟨p, hp, rfl⟩) z).1
      simp [W.dl, this]
    rw [h1, h2]
    omega
theorem div_ex (hu : NF u) (nu : u ≠ []) : ∀ (m : Nat) (l f : W.T), NF l → (l ≠ [] → highK t - highK u + lowK u - lowK l < m) → ∃ r n, DivR t u l f r n ∧ n ≤ m
  | 0, l, f, hl, hm => by
    by_cases ne : l = []
    · subst ne
      exact ⟨_, 0, .done, Nat.le_refl _⟩
    · have := hm ne
      exact ⟨none, 0, .fail ne (.inr (by omega)), Nat.le_refl _⟩
  | m + 1, l, f, hl, hm => by
    by_cases ne : l = []
    · subst ne
      exact ⟨_, 0, .done, Nat.zero_le _⟩
    · by_cases b : Bad t u l
      · exact ⟨none, 0, .fail ne b, Nat.zero_le _⟩
      · have nk := nextL_keys (t := t) hl hu ne nu b
        have h2 := hm ne
        obtain ⟨r, n, h, hn⟩ := div_ex hu nu m (nextL u l) (W.put f (lowK l - lowK u) (quo u l)) (addR_nf hl.nd) fun ne' => by
          have := nk _ (lowK_mem ne')
          omega
        exact ⟨r, n + 1, .step ne b h, by omega⟩
/-- sizes -/
theorem quo_le (nu : u ≠ []) (hu : NF u) (b : ¬ Bad t u l) : (quo u l).natAbs ≤ nrm l := by
  have h1 := W.val_le (lowK l) l
  have h2 := val_ne hu (lowK_mem nu)
  have h3 := congrArg Int.natAbs (quo_mul b h2)
  rw [Int.natAbs_mul] at h3
  have h4 : 0 < (W.val u (lowK u)).natAbs := by omega
  have h5 := Nat.le_mul_of_pos_right (quo u l).natAbs h4
  omega
theorem nextL_nrm (hl : NF l) (nu : u ≠ []) (hu : NF u) (b : ¬ Bad t u l) : nrm (nextL u l) ≤ nrm l * (nrm u + 1) := by
  have q := quo_le nu hu b
  obtain ⟨a1, _, c1, _, _⟩ := W.prod_ok u [(lowK l - lowK u, quo u l)] nd_nil
  obtain ⟨a2, _, c2, _, _⟩ := W.summed_ok (-1) (mulR [(lowK l - lowK u, quo u l)] u) hl.nd
  have h1 : nrm (nextL u l) ≤ _ := nf_nrm a2
  have h2 : nrm (mulR [(lowK l - lowK u, quo u l)] u) ≤ _ := nf_nrm a1
  have h3 : (quo u l).natAbs * nrm u ≤ nrm l * nrm u := Nat.mul_le_mul_right _ q
  simp only [nrm, Nat.add_zero, Nat.zero_add] at c1
  have h4 : ((-1 : Int)).natAbs = 1 := rfl
  rw [h4, Nat.one_mul] at c2
  rw [Nat.mul_succ]
  omega
theorem nextL_len (hl : NF l) : (nextL u l).length ≤ l.length + u.length := by
  obtain ⟨a1, _, _, c1, _⟩ := W.prod_ok u [(lowK l - lowK u, quo u l)] nd_nil
  obtain ⟨a2, _, _, c2, _⟩ := W.summed_ok (-1) (mulR [(lowK l - lowK u, quo u l)] u) hl.nd
  have h1 : (nextL u l).length ≤ _ := nf_len _
  have h2 : (mulR [(lowK l - lowK u, quo u l)] u).length ≤ _ := nf_len _
  simp only [List.length_nil, List.length_cons, Nat.zero_add, Nat.one_mul] at c1
  omega
theorem nextL_eb {M : Nat} (hl : NF l) (ne : l ≠ []) (nu : u ≠ []) (b : ¬ Bad t u l) (h1 : EB l M) (h2 : highK t ≤ M) : EB (nextL u l) M := by
  intro p hp
  have nn : NF (nextL u l) := addR_nf hl.nd
  have he : p.1 ∈ (nextL u l).map (·.1) := List.mem_map.mpr ⟨p, hp, rfl⟩
  have hv := val_ne nn he
  rw [← tot_val nn.nd, nextL_tot hl.nd] at hv
  unfold Bad at b
  rw [not_or] at b
  by_cases q : p.1 ∈ l.map (·.1)
  · obtain ⟨r, hr, e⟩ := List.mem_map.mp q
    rw [← e]
    exact h1 r hr
  · have z1 : tot (W.dl p.1) l = 0 := W.tot_dl_none fun r hr z => q (List.mem_map.mpr ⟨r, hr, z⟩)
    rw [z1] at hv
    have : ∃ y ∈ u.map (·.1), lowK l - lowK u + y = p.1 := by
      refine Classical.byContradiction fun hn => hv ?_
      have : tot (fun y => W.dl p.1 (lowK l - lowK u + y)) u = 0 := tot_mem0 fun r hr => by
        have : ¬ lowK l - lowK u + r.1 = p.1 := fun z => hn ⟨_, List.mem_map.mpr ⟨r, hr, rfl⟩, z⟩
        simp [W.dl, this]
      rw [this]
      omega
    obtain ⟨y, hy, e⟩ := this
    have y1 := lowK_le nu hy
    have y2 := highK_le nu hy
    obtain ⟨r, hr, er⟩ := List.mem_map.mp (lowK_mem ne)
    have := h1 r hr
    omega
theorem mulOk_p {i j : Int} {a c : Nat} (h1 : i.natAbs < 2 ^ a) (h2 : j.natAbs < 2 ^ c) (h : a + c ≤ 999000) : mulOk i j = true := by
  have lg : ∀ {n k : Nat}, n < 2 ^ k → n.log2 ≤ k := fun {n k} h => by
    by_cases z : n = 0
    · subst z
      simp
    · exact Nat.le_of_lt ((Nat.log2_lt z).mpr h)
  unfold mulOk
  have := lg h1
  have := lg h2
  rw [Bool.or_eq_true, decide_eq_true_eq, decide_eq_true_eq]
  right
  omega
/-- the sizes that n more steps keep to -/
structure Sz (t u l : W.T) (n a c M : Nat) : Prop where
  nl : NF l
  nu : NF u
  ne : u ≠ []
  ln : l.length + (n + 1) * u.length < 1000000
  na : nrm l < 2 ^ a
  nc : nrm u + 1 ≤ 2 ^ c
  ac : a + (n + 1) * c ≤ 900000
  eb : EB l M
  hi : highK t ≤ M
  c9 : c ≤ 8000
theorem Sz.next {n a c M : Nat} (z : Sz t u l (n + 1) a c M) (ne : l ≠ []) (b : ¬ Bad t u l) : Sz t u (nextL u l) n (a + c) c M := by
  refine ⟨addR_nf z.nl.nd, z.nu, z.ne, ?_, ?_, z.nc, ?_, nextL_eb z.nl ne z.ne b z.eb z.hi, z.hi, z.c9⟩
  · have h1 := nextL_len (u := u) z.nl
    have h2 := z.ln
    rw [Nat.succ_mul (n + 1)] at h2
    omega
  · rw [Nat.pow_add]
    refine Nat.lt_of_le_of_lt (nextL_nrm z.nl z.ne z.nu b) ?_
    exact Nat.lt_of_lt_of_le (Nat.mul_lt_mul_of_pos_right z.na (Nat.succ_pos _)) (Nat.mul_le_mul_left _ z.nc)
  · have h2 := z.ac
    rw [Nat.succ_mul (n + 1)] at h2
    omega
theorem Sz.log {n a c M : Nat} (z : Sz t u l n a c M) (e : Int) : (W.val u e).natAbs.log2 < 9000 := by
  have h1 := W.val_le e u
  have h2 := z.nc
  have h3 := z.c9
  by_cases q : (W.val u e).natAbs = 0
  · rw [q]
    simp
  · have : (W.val u e).natAbs.log2 < c := (Nat.log2_lt q).mpr (by omega)
    omega
theorem Sz.mul {n a c M : Nat} (z : Sz t u l n a c M) {i j : Int} (hi : i.natAbs ≤ nrm l) (hj : j.natAbs ≤ nrm u) : mulOk i j = true := by
  have h1 := z.na
  have h2 := z.nc
  have h3 := z.ac
  rw [Nat.succ_mul] at h3
  exact mulOk_p (a := a) (c := c) (by omega) (by omega) (by omega)
theorem Sz.len {n a c M : Nat} (z : Sz t u l n a c M) : l.length + u.length < 1000000 := by
  have h1 := z.ln
  rw [Nat.succ_mul] at h1
  omega
theorem shift_len {s : Int} : (shiftR s u).length = u.length := by simp [shiftR]
theorem shift_mem {s : Int} {p : Int × Int} (h : p ∈ shiftR s u) : p.2.natAbs ≤ nrm u := by
  obtain ⟨q, hq, rfl⟩ := List.mem_map.mp h
  show q.2.natAbs ≤ nrm u
  exact W.mem_le hq
/-- what the program keeps of the rest: the same terms, in some order -/
structure Like (r l : W.T) : Prop where
  nd : Nd r
  nz : ∀ p ∈ r, p.2 ≠ 0
  eq : nf r = l
theorem Like.perm {r : W.T} (h : Like r l) : l.Perm r := by
  have p := nf_perm h.nd
  have e : nf r = (sortI (r.map (·.1))).map fun e => (e, W.val r e) := by
    unfold nf
    congr 1
    refine List.filter_eq_self.mpr fun e he => ?_
    have he := (sortI_perm _).mem_iff.mp he
    obtain ⟨q, hq, rfl⟩ := List.mem_map.mp he
    rw [val_mem h.nd q hq]
    simpa using h.nz q hq
  rw [← h.eq, e]
  exact p
theorem Like.refl {r : W.T} (h : NF r) : Like r r := ⟨h.nd, h.nz, nf_id h⟩
theorem perm_min {a b : List Int} (p : a.Perm b) (h : a ≠ []) : minI a = minI b := by
  obtain ⟨h1, h2⟩ := minI_ok h
  exact (min_unique (p.mem_iff.mp h1) fun x hx => h2 x (p.mem_iff.mpr hx)).symm
theorem Like.low {r : W.T} (h : Like r l) (ne : l ≠ []) : lowK r = lowK l := (perm_min (h.perm.map (fun p : Int × Int => p.1)) (keys_ne ne)).symm
theorem Like.val {r : W.T} (h : Like r l) (hl : NF l) (e : Int) : W.val r e = W.val l e := by rw [← tot_val h.nd, ← tot_val hl.nd, tot_perm _ h.perm]
theorem Like.nil {r : W.T} (h : Like r l) : r = [] ↔ l = [] := by
  have := h.perm.length_eq
  constructor
  · rintro rfl
    exact List.eq_nil_of_length_eq_zero (by simpa using this)
  · rintro rfl
    exact List.eq_nil_of_length_eq_zero (by simpa using this.symm)
theorem nd_shift {s : Int} (h : Nd u) : Nd (shiftR s u) := by
  unfold Nd shiftR at *
  rw [List.map_map]
  have e : (u.map ((·.1) ∘ fun p => (p.1 + s, p.2))) = (u.map (·.1)).map (· + s) := by rw [List.map_map]; rfl
  rw [e]
  exact List.Pairwise.map _ (fun a b hab z => hab (by omega)) h
theorem tot_shift {s : Int} (g : Int → Int) : ∀ u : W.T, tot g (shiftR s u) = tot (fun y => g (s + y)) u
  | [] => rfl
  | p :: u => by
    have ih := tot_shift (s := s) g u
    show p.2 * g (p.1 + s) + tot g (shiftR s u) = _
    rw [ih, Int.add_comm p.1 s]
    rfl
def nzR (t : W.T) : W.T := t.filter fun p => decide (p.2 ≠ 0)
theorem nd_nzR (h : Nd t) : Nd (nzR t) := by
  unfold Nd nzR at *
  exact h.sublist (List.filter_sublist.map _)
theorem tot_nzR (g : Int → Int) : ∀ t : W.T, tot g (nzR t) = tot g t
  | [] => rfl
  | p :: t => by
    have ih := tot_nzR g t
    unfold nzR at *
    by_cases h : p.2 = 0
    · rw [List.filter_cons_of_neg (by simp [h]), ih]
      simp [tot, h]
    · rw [List.filter_cons_of_pos (by simp [h])]
      simp only [tot, ih]
theorem Like.next {r : W.T} (h : Like r l) (hl : NF l) (hu : Nd u) (ne : l ≠ []) : Like (nzR (summed r (shiftR (lowK l - lowK u) u) (-quo u l))) (nextL u l) := by
  obtain ⟨a, b, _⟩ := W.summed_ok (-quo u l) (shiftR (lowK l - lowK u) u) h.nd
  refine ⟨nd_nzR a, fun p hp => ?_, ?_⟩
  · unfold nzR at hp
    rw [List.mem_filter] at hp
    simpa using hp.2
  · refine nf_eq' (nf_nf (nd_nzR a)) (addR_nf hl.nd) fun g => ?_
    rw [nf_eqv (nd_nzR a), tot_nzR, b, nextL_tot hl.nd, tot_shift, ← tot_perm g h.perm, Int.neg_mul]
    omega
end
end Y

/-! Wg: dict comprehensions over dicts of numbers. -/
namespace Y
open PySem PySem.Spec PyProof.Rows L2
section
variable {u : W.T} {k : Nat} {md : ME} {mi : MI} {it : ItD} {g : Int × Int → D} {tg : Tg} {q : MT} {ek ev : ME} {vs : List Nat} {sd : SD} {S0 : Sto} {p : Int × Int → Bool} {fk fv : Int × Int → Int}
def putAll (p : Int × Int → Bool) (fk fv : Int × Int → Int) (u : W.T) : W.T := (u.filter p).foldl (fun acc a => W.put acc (fk a) (fv a)) []
theorem dc_run {S4 : Sto} (hgo : mi sd S4 = .ok it S4) (nx : ∀ lk S i, S.get k = some (.dct lk (enc u)) → itNext it i S = some (u[i]?.map g)) (ln : ∀ lk S, S.get k = some (.dct lk (enc u)) → itLen it S = u.length) (g4 : S4.get k = some (.dct 1 (enc u)))
    (he : ∀ a ∈ u, ∃ sd1, asg tg (g a) (wipeD sd vs) = some sd1 ∧ ∀ S, S.get k = some (.dct 1 (enc u)) → q sd1 S = .ok (p a) S ∧ ek sd1 S = .ok (.int (fk a)) S ∧ ev sd1 S = .ok (.int (fv a)) S) (hl : u.length ≤ 16777216) :
    mDc mi tg q ek ev vs sd S4 = .ok (.loc S4.n) ((S4.new (.dct 0 [])).set S4.n (.dct 0 (enc (putAll p fk fv u)))) := by
  have hlt : k < S4.n := Sto.get_lt g4
  unfold mDc
  rw [hgo]
  simp only [Res.bind]
  rw [ln 1 S4 g4]
  have := dc_pure (u := u) (it := it) (g := g) (tg := tg) (q := q) (ek := ek) (ev := ev) (sd := wipeD sd vs) (dl := S4.n) (p := p) (fk := fk) (fv := fv)
    (R := fun S => S.get k = some (.dct 1 (enc u))) (fun S l a => by rw [Sto.get_set_ne (by omega)]; exact a) (fun S a i => nx 1 S i a)
    (fun a ha => let ⟨sd1, h1, h2⟩ := he a ha; ⟨sd1, h1, fun S x => (h2 S x).1, fun S x _ => (h2 S x).2⟩) (u.length + 1) 0 [] (S4.new (.dct 0 [])) (Ext.new _ _ g4) Sto.get_new_self (by simpa using hl) (Nat.zero_le _) (Nat.lt_succ_self _)
  rw [List.drop_zero] at this
  exact this
theorem lock_dc (hk : S0.get k = some (.dct 0 (enc u))) (hm : md sd S0 = .ok (.loc k) S0) (nx : ∀ lk S i, S.get k = some (.dct lk (enc u)) → itNext it i S = some (u[i]?.map g)) (ln : ∀ lk S, S.get k = some (.dct lk (enc u)) → itLen it S = u.length) (hgo : mi sd (S0.set k (.dct 1 (enc u))) = .ok it (S0.set k (.dct 1 (enc u))))
    (he : ∀ a ∈ u, ∃ sd1, asg tg (g a) (wipeD sd vs) = some sd1 ∧ ∀ S, S.get k = some (.dct 1 (enc u)) → q sd1 S = .ok (p a) S ∧ ek sd1 S = .ok (.int (fk a)) S ∧ ev sd1 S = .ok (.int (fv a)) S) (hl : u.length ≤ 16777216) :
    ∃ r S', mLock md (mDc mi tg q ek ev vs) sd S0 = .ok (.loc r) S' ∧ (∀ i, sLock md (sSet i (mDc mi tg q ek ev vs)) sd S0 = .nx (sd.set i (some (.loc r))) S') ∧ Ext S0 S' ∧ S'.get r = some (.dct 0 (enc (putAll p fk fv u))) ∧ r = S0.n := by
  have hlt0 := Sto.get_lt hk
  have g4 : (S0.set k (.dct 1 (enc u))).get k = some (.dct 1 (enc u)) := Sto.get_set_self hk
  have n4 : (S0.set k (.dct 1 (enc u))).n = S0.n := Sto.set_n ..
  have run := dc_run hgo nx ln g4 he hl
  have g5 : (((S0.set k (.dct 1 (enc u))).new (.dct 0 [])).set (S0.set k (.dct 1 (enc u))).n (.dct 0 (enc (putAll p fk fv u)))).get k = some (.dct 1 (enc u)) := by
    rw [Sto.get_set_ne (by omega)]
    exact Ext.new _ _ g4
  refine ⟨(S0.set k (.dct 1 (enc u))).n, (((S0.set k (.dct 1 (enc u))).new (.dct 0 [])).set (S0.set k (.dct 1 (enc u))).n (.dct 0 (enc (putAll p fk fv u)))).set k (.dct 0 (enc u)), ?_, fun i => ?_, fun j c hj => ?_, ?_, n4⟩
  · unfold mLock
    rw [hm]
    simp only [hk]
    rw [run]
    unfold unlkE
    rw [g5]
    rfl
  · unfold sLock
    rw [hm]
    simp only [hk]
    rw [sSet_ok run]
    unfold unlkS
    rw [g5]
    rfl
  · by_cases z : j = k
    · subst z
      rw [hk] at hj
      cases hj
      exact Sto.get_set_self g5
    · have := Sto.get_lt hj
      rw [Sto.get_set_ne z, Sto.get_set_ne (by omega)]
      refine Ext.new _ _ ?_
      rw [Sto.get_set_ne z]
      exact hj
  · rw [Sto.get_set_ne (by omega)]
    exact Sto.get_set_self Sto.get_new_self
theorem lock_dcV (hk : S0.get k = some (.dct 0 (enc u))) (hm : ∀ S lk, S.get k = some (.dct lk (enc u)) → md sd S = .ok (.loc k) S)
    (he : ∀ a ∈ u, ∃ sd1, asg tg (.tup [.int a.1, .int a.2]) (wipeD sd vs) = some sd1 ∧ ∀ S, S.get k = some (.dct 1 (enc u)) → q sd1 S = .ok (p a) S ∧ ek sd1 S = .ok (.int (fk a)) S ∧ ev sd1 S = .ok (.int (fv a)) S) (hl : u.length ≤ 16777216) :
    ∃ r S', mLock md (mDc (mItM itDi md) tg q ek ev vs) sd S0 = .ok (.loc r) S' ∧ (∀ i, sLock md (sSet i (mDc (mItM itDi md) tg q ek ev vs)) sd S0 = .nx (sd.set i (some (.loc r))) S') ∧ Ext S0 S' ∧ S'.get r = some (.dct 0 (enc (putAll p fk fv u))) ∧ r = S0.n :=
  let di := dit_i (u := u) (k := k) (sd := sd) (m := md) hm
  lock_dc hk (hm S0 0 hk) di.nx di.ln (di.go 0 _ (Sto.get_set_self hk)) he hl
theorem putAll_all (hn : (u.map fk).Nodup) : putAll (fun _ => true) fk fv u = u.map fun a => (fk a, fv a) := by
  unfold putAll
  rw [filter_true, fold_put u [] hn (by simp), List.nil_append]
theorem putAll_nz (h : W.Nd u) : putAll (fun a => decide (a.2 ≠ 0)) (fun a => a.1) (fun a => a.2) u = nzR u := by
  unfold putAll
  have hn : ((u.filter fun a => decide (a.2 ≠ 0)).map fun a => a.1).Nodup := nd_nzR h
  rw [fold_put _ [] hn (by simp), List.nil_append]
  unfold nzR
  simp
end
end Y

/-! Wh: rows with their exponents led elsewhere: turned, spread, shifted. -/
namespace Y
open W (Nd NF Eqv EB nrm tot summed prod)
def mapK (φ : Int → Int) (u : W.T) : W.T := u.map fun p => (φ p.1, p.2)
def ledR (φ : Int → Int) (u : W.T) : W.T := nf (mapK φ u)
section
variable {φ ψ : Int → Int} {t u : W.T}
theorem mapK_nd (inj : ∀ x y, φ x = φ y → x = y) (h : Nd u) : Nd (mapK φ u) := by
  unfold Nd mapK at *
  rw [List.map_map]
  have e : (u.map ((·.1) ∘ fun p => (φ p.1, p.2))) = (u.map (·.1)).map φ := by rw [List.map_map]; rfl
  rw [e]
  exact List.Pairwise.map _ (fun a b hab z => hab (inj a b z)) h
theorem mapK_tot (g : Int → Int) : ∀ u : W.T, tot g (mapK φ u) = tot (fun x => g (φ x)) u
  | [] => rfl
  | p :: u => by
    have ih := mapK_tot g u
    show p.2 * g (φ p.1) + tot g (mapK φ u) = _
    rw [ih]
    rfl
theorem mapK_nrm : ∀ u : W.T, nrm (mapK φ u) = nrm u
  | [] => rfl
  | p :: u => by
    show p.2.natAbs + nrm (mapK φ u) = _
    rw [mapK_nrm u]
    rfl
theorem mapK_len : (mapK φ u).length = u.length := by simp [mapK]
theorem mapK_congr (h : ∀ x, φ x = ψ x) : mapK φ u = mapK ψ u := by rw [show φ = ψ from funext h]
theorem mapK_eb {M N : Nat} (h : EB u M) (hb : ∀ x : Int, x.natAbs ≤ M → (φ x).natAbs ≤ N) : EB (mapK φ u) N := fun p hp => by
  obtain ⟨q, hq, rfl⟩ := List.mem_map.mp hp
  exact hb q.1 (h q hq)
theorem ledR_nf (inj : ∀ x y, φ x = φ y → x = y) (h : Nd u) : NF (ledR φ u) := nf_nf (mapK_nd inj h)
theorem ledR_tot (inj : ∀ x y, φ x = φ y → x = y) (h : Nd u) (g : Int → Int) : tot g (ledR φ u) = tot (fun x => g (φ x)) u := by
  unfold ledR
  rw [nf_eqv (mapK_nd inj h), mapK_tot]
theorem neg_inj' : ∀ x y : Int, -x = -y → x = y := fun x y h => by omega
theorem led_led (h : NF u) : ledR (fun x => -x) (ledR (fun x => -x) u) = u := nf_eq' (ledR_nf neg_inj' (ledR_nf neg_inj' h.nd).nd) h fun g => by
  rw [ledR_tot neg_inj' (ledR_nf neg_inj' h.nd).nd, ledR_tot neg_inj' h.nd]
  exact tot_cong fun x => by rw [Int.neg_neg]
theorem led_mul (ht : Nd t) (hu : Nd u) : ledR (fun x => -x) (mulR t u) = mulR (ledR (fun x => -x) t) (ledR (fun x => -x) u) := nf_eq' (ledR_nf neg_inj' mulR_nf.nd) mulR_nf fun g => by
  rw [ledR_tot neg_inj' mulR_nf.nd, mulR_tot, mulR_tot, ledR_tot neg_inj' ht]
  refine tot_cong fun x => ?_
  rw [ledR_tot neg_inj' hu]
  exact tot_cong fun y => by congr 1; omega
theorem led_add (inj : ∀ x y, φ x = φ y → x = y) (ht : Nd t) (hu : Nd u) : ledR φ (addR t u 1) = addR (ledR φ t) (ledR φ u) 1 := nf_eq' (ledR_nf inj (addR_nf ht).nd) (addR_nf (ledR_nf inj ht).nd) fun g => by
  rw [ledR_tot inj (addR_nf ht).nd, addR_tot ht, addR_tot (ledR_nf inj ht).nd, ledR_tot inj ht, ledR_tot inj hu]
theorem led_bk {i j M N : Nat} (inj : ∀ x y, φ x = φ y → x = y) (h : Bk i u) (he : EB u M) (hij : i ≤ j) (hb : ∀ x : Int, x.natAbs ≤ M → (φ x).natAbs ≤ N) (hN : N ≤ 20 * j) : Bk j (ledR φ u) := by
  have hm := mapK_nd inj h.nd
  refine ⟨(nf_nf hm).nd, Nat.le_trans h.one hij, ?_, nf_eb (eb_mono (mapK_eb he hb) hN), ?_⟩
  · refine Nat.le_trans (nf_len _) ?_
    rw [mapK_len]
    exact (h.up hij).len
  · refine Nat.le_trans (nf_nrm hm) ?_
    rw [mapK_nrm]
    exact (h.up hij).nr
end
end Y

/-! Wi: loops whose names and cells go together. -/
namespace Y
open PySem PySem.Spec PyProof.Rows L2
theorem forLoop_det {α : Type} {u : List α} {it : ItD} {g : α → D} {tg : Tg} {b : MS} {R : List α → SD → Sto → Prop} (look : ∀ pre sd S, R pre sd S → ∀ i, itNext it i S = some (u[i]?.map g))
    (step : ∀ pre p post sd S, u = pre ++ p :: post → R pre sd S → ∃ sd1 sd2 S2, asg tg (g p) sd = some sd1 ∧ b sd1 S = .nx sd2 S2 ∧ R (pre ++ [p]) sd2 S2) :
    ∀ post pre n sd S, u = pre ++ post → post.length < n → R pre sd S → ∃ sd' S', forLoop it tg b n pre.length sd S = .nx sd' S' ∧ R u sd' S'
  | [], pre, 0, sd, S, hu, hn, hr => by simp at hn
  | [], pre, n + 1, sd, S, hu, hn, hr => by
    refine ⟨sd, S, ?_, by rw [hu, List.append_nil]; exact hr⟩
    unfold forLoop
    rw [look pre sd S hr]
    have : u[pre.length]? = none := by rw [hu]; simp
    rw [this]
    rfl
  | p :: post, pre, 0, sd, S, hu, hn, hr => by simp at hn
  | p :: post, pre, n + 1, sd, S, hu, hn, hr => by
    obtain ⟨sd1, sd2, S2, e1, e2, r2⟩ := step pre p post sd S hu hr
    obtain ⟨sd', S', e3, r3⟩ := forLoop_det look step post (pre ++ [p]) n sd2 S2 (by rw [hu]; simp) (by simp at hn; omega) r2
    refine ⟨sd', S', ?_, r3⟩
    unfold forLoop
    rw [look pre sd S hr]
    have : u[pre.length]? = some p := by rw [hu]; simp
    rw [this]
    simp only [Option.map_some, e1, e2, SRes.turn]
    rw [List.length_append] at e3
    exact e3
/-- for x in range(n), told exactly -/
theorem for_rng_det {a : MA} {tg : Tg} {b : MS} {R : Nat → SD → Sto → Prop} {sd : SD} {S S1 : Sto} {n : Nat} (ha : a sd S = .ok [.int n] S1) (hn : (n : Int) < 4611686018427387904) (h0 : R 0 sd S1)
    (step : ∀ i sd S, i < n → R i sd S → ∃ sd1 sd2 S2, asg tg (.int i) sd = some sd1 ∧ b sd1 S = .nx sd2 S2 ∧ R (i + 1) sd2 S2) : ∃ sd' S', sFor (mIts itRng1 a) tg b sd S = .nx sd' S' ∧ R n sd' S' := by
  have er : itRng1 [.int n] S1 = .ok (.rng 0 1 n) S1 := by
    simp only [itRng1]
    rw [if_pos (by omega)]
    simp
  obtain ⟨sd', S', e, r⟩ := forLoop_det (u := List.range n) (it := .rng 0 1 n) (g := fun k : Nat => D.int k) (tg := tg) (b := b) (R := fun pre sd S => R pre.length sd S) (fun pre sd S _ i => rng_next)
    (fun pre p post sd S hu hr => by
      have hp : p = pre.length := by
        have h1 : (List.range n)[pre.length]? = some p := by rw [hu]; simp
        rw [List.getElem?_eq_some_iff] at h1
        obtain ⟨_, h2⟩ := h1
        simpa using h2.symm
      have hlt : pre.length < n := by
        have h3 : (List.range n).length = pre.length + (post.length + 1) := by rw [hu]; simp
        rw [List.length_range] at h3
        omega
      obtain ⟨sd1, sd2, S2, e1, e2, r2⟩ := step pre.length sd S hlt hr
      rw [hp]
      exact ⟨sd1, sd2, S2, e1, e2, by rw [List.length_append]; exact r2⟩) (List.range n) [] (n + 1) sd S1 rfl (by simp) h0
  refine ⟨sd', S', ?_, by rw [List.length_range] at r; exact r⟩
  have em : mIts itRng1 a sd S = .ok (.rng 0 1 n) S1 := by
    unfold mIts
    rw [ha, bind_ok, er]
  unfold sFor
  rw [em]
  simp only [bindS, itLen]
  exact e
end Y

namespace K03
open PySem PySem.Spec PyProof.Rows L2 Y
abbrev pw : Program := PySem.Challenge.pw_crosswebs_k03_whole_quotients_and_powers
def top (i : Nat) : Stmt := PySem.Challenge.pw_crosswebs_k03_whole_quotients_and_powers.main.body.getD i (.Pass ⟨0, 0, 0, 0⟩)
abbrev s_is_integer : Stmt := top 3
abbrev s_is_power : Stmt := top 14
abbrev s_are_terms : Stmt := top 15
abbrev s_Row_getitem : Stmt := inCls (top 24) 14
abbrev s_sorted_terms : Stmt := top 19
abbrev s_Row_init : Stmt := inCls (top 24) 1
abbrev s_product_terms : Stmt := top 22
abbrev s_operand_terms : Stmt := top 20
abbrev s_Row_mul : Stmt := inCls (top 24) 12
abbrev s_summed_terms : Stmt := top 21
abbrev s_Row_add : Stmt := inCls (top 24) 10
abbrev s_Row_neg : Stmt := inCls (top 24) 13
abbrev s_Row_sub : Stmt := inCls (top 24) 11
abbrev s_Row_eq : Stmt := inCls (top 24) 23
abbrev s_wall : Stmt := top 0
abbrev s_power_text : Stmt := top 16
abbrev s_term_text : Stmt := top 17
abbrev s_terms_text : Stmt := top 18
abbrev s_quotient_terms : Stmt := top 23
abbrev s_require_row : Stmt := top 25
abbrev s_Ldice : Stmt := top 27
abbrev s_Lroll : Stmt := top 28
abbrev s_Lpick : Stmt := top 29
abbrev s_Lrow : Stmt := top 30
abbrev s_Ladded : Stmt := top 31
abbrev s_Ltimes : Stmt := top 32
abbrev s_Lraised : Stmt := top 33
abbrev s_Lcircle : Stmt := top 34
abbrev s_Row_terms : Stmt := inCls (top 24) 5
abbrev s_Lis_row : Stmt := top 35
abbrev s_Ldrawn_row : Stmt := top 36
abbrev s_Lquotient : Stmt := top 37
abbrev s_Row_quotient : Stmt := inCls (top 24) 19
abbrev s_Ltold_quotient : Stmt := top 38
abbrev s_Lquotient_right : Stmt := top 39
abbrev s_Lled : Stmt := top 40
abbrev s_Row_turned : Stmt := inCls (top 24) 9
abbrev s_Row_spread : Stmt := inCls (top 24) 16
abbrev s_Row_shifted : Stmt := inCls (top 24) 15
abbrev s_Row_at : Stmt := inCls (top 24) 17
abbrev s_Row_power : Stmt := inCls (top 24) 2
abbrev s_Row_raised : Stmt := inCls (top 24) 18
abbrev s_Lshapes_right : Stmt := top 41
abbrev s_Row_low : Stmt := inCls (top 24) 6
abbrev s_Lright : Stmt := top 42
abbrev s_Row_str : Stmt := inCls (top 24) 24
abbrev s_law : Stmt := top 43
abbrev si_InvalidNumber : Stmt := inCls (top 8) 0
theorem kxs_InvalidNumber : KxS si_InvalidNumber "self" "value" "value" := ⟨⟨_, _, _, _, _, _, _, _, _, _, _, _, rfl, fun _ _ _ _ _ => ⟨_, rfl⟩⟩, fun _ _ _ _ _ _ _ _ _ _ => rfl, ⟨_, rfl, rfl⟩, rfl, rfl, rfl, rfl, by decide +kernel, rfl, rfl, rfl, by decide +kernel, fun _ _ _ _ _ => rfl, fun _ _ _ _ _ => rfl, by decide +kernel, by decide +kernel⟩
abbrev si_TooMany : Stmt := inCls (top 9) 0
theorem kxs_TooMany : KxS si_TooMany "self" "limit" "limit" := ⟨⟨_, _, _, _, _, _, _, _, _, _, _, _, rfl, fun _ _ _ _ _ => ⟨_, rfl⟩⟩, fun _ _ _ _ _ _ _ _ _ _ => rfl, ⟨_, rfl, rfl⟩, rfl, rfl, rfl, rfl, by decide +kernel, rfl, rfl, rfl, by decide +kernel, fun _ _ _ _ _ => rfl, fun _ _ _ _ _ => rfl, by decide +kernel, by decide +kernel⟩
abbrev kit_t : List Nat := [0, 1, 2, 3, 4, 5, 6, 15]
abbrev kit_c : List Nat := [0, 1, 2, 3, 4, 5, 6, 15]
def kit_f (t c : Nat) : Bool := (t == 0 && c == 0) || (t == 1 && c == 0) || (t == 1 && c == 1) || (t == 2 && c == 2) || (t == 3 && c == 3) || (t == 4 && c == 4) || (t == 5 && c == 5) || (t == 6 && c == 6) || (t == 15 && c == 15)
abbrev kit : Nat → Nat → Option Bool := kitOf kit_t kit_c kit_f
abbrev kix_t : List Nat := [11, 13, 14, 12]
abbrev kix_c : List Nat := [11, 13, 14, 12]
def kix_f (t c : Nat) : Bool := (t == 11 && c == 11) || (t == 13 && c == 13) || (t == 14 && c == 14) || (t == 12 && c == 12)
abbrev kix : Nat → Nat → Option Bool := kitOf kix_t kix_c kix_f
abbrev eqts : List Nat := [0, 1, 2, 3, 4, 5, 6, 15]
structure Ad where
  a_is_integer : Addr
  fd_is_integer : FuncData
  a_is_power : Addr
  fd_is_power : FuncData
  a_are_terms : Addr
  fd_are_terms : FuncData
  a_Row_getitem : Addr
  fd_Row_getitem : FuncData
  a_sorted_terms : Addr
  fd_sorted_terms : FuncData
  a_Row_init : Addr
  fd_Row_init : FuncData
  a_product_terms : Addr
  fd_product_terms : FuncData
  a_operand_terms : Addr
  fd_operand_terms : FuncData
  a_Row_mul : Addr
  fd_Row_mul : FuncData
  a_summed_terms : Addr
  fd_summed_terms : FuncData
  a_Row_add : Addr
  fd_Row_add : FuncData
  a_Row_neg : Addr
  fd_Row_neg : FuncData
  a_Row_sub : Addr
  fd_Row_sub : FuncData
  a_Row_eq : Addr
  fd_Row_eq : FuncData
  a_wall : Addr
  fd_wall : FuncData
  a_power_text : Addr
  fd_power_text : FuncData
  a_term_text : Addr
  fd_term_text : FuncData
  a_terms_text : Addr
  fd_terms_text : FuncData
  a_quotient_terms : Addr
  fd_quotient_terms : FuncData
  a_require_row : Addr
  fd_require_row : FuncData
  a_Ldice : Addr
  fd_Ldice : FuncData
  a_Lroll : Addr
  fd_Lroll : FuncData
  a_Lpick : Addr
  fd_Lpick : FuncData
  a_Lrow : Addr
  fd_Lrow : FuncData
  a_Ladded : Addr
  fd_Ladded : FuncData
  a_Ltimes : Addr
  fd_Ltimes : FuncData
  a_Lraised : Addr
  fd_Lraised : FuncData
  a_Lcircle : Addr
  fd_Lcircle : FuncData
  a_Row_terms : Addr
  fd_Row_terms : FuncData
  a_Lis_row : Addr
  fd_Lis_row : FuncData
  a_Ldrawn_row : Addr
  fd_Ldrawn_row : FuncData
  a_Lquotient : Addr
  fd_Lquotient : FuncData
  a_Row_quotient : Addr
  fd_Row_quotient : FuncData
  a_Ltold_quotient : Addr
  fd_Ltold_quotient : FuncData
  a_Lquotient_right : Addr
  fd_Lquotient_right : FuncData
  a_Lled : Addr
  fd_Lled : FuncData
  a_Row_turned : Addr
  fd_Row_turned : FuncData
  a_Row_spread : Addr
  fd_Row_spread : FuncData
  a_Row_shifted : Addr
  fd_Row_shifted : FuncData
  a_Row_at : Addr
  fd_Row_at : FuncData
  a_Row_power : Addr
  fd_Row_power : FuncData
  a_Row_raised : Addr
  fd_Row_raised : FuncData
  a_Lshapes_right : Addr
  fd_Lshapes_right : FuncData
  a_Row_low : Addr
  fd_Row_low : FuncData
  a_Lright : Addr
  fd_Lright : FuncData
  a_Row_str : Addr
  fd_Row_str : FuncData
  a_law : Addr
  fd_law : FuncData
  c_InvalidRow : Addr
  c_InvalidNumber : Addr
  c_Row : Addr
  c_TooMany : Addr
  c_InvalidOperation : Addr
  p_Row_own_terms : Addr
  p_Row_terms : Addr
  p_Row_turned : Addr
  p_Row_low : Addr
structure TT (P : Program) (G : Glo) (mg : Str → Option Value) (A : Ad) : Prop where
  ko : KitOk G kit
  kx : KixOk G kix
  xm : ExOk G kix
  f_is_integer : Fun G.K "is_integer" "is_integer" s_is_integer A.a_is_integer A.fd_is_integer
  g_is_integer : mg "is_integer" = some (.ref A.a_is_integer)
  f_is_power : Fun G.K "is_power" "is_power" s_is_power A.a_is_power A.fd_is_power
  g_is_power : mg "is_power" = some (.ref A.a_is_power)
  f_are_terms : Fun G.K "are_terms" "are_terms" s_are_terms A.a_are_terms A.fd_are_terms
  g_are_terms : mg "are_terms" = some (.ref A.a_are_terms)
  f_Row_getitem : Fun G.K "__getitem__" "Row.__getitem__" s_Row_getitem A.a_Row_getitem A.fd_Row_getitem
  f_sorted_terms : Fun G.K "sorted_terms" "sorted_terms" s_sorted_terms A.a_sorted_terms A.fd_sorted_terms
  g_sorted_terms : mg "sorted_terms" = some (.ref A.a_sorted_terms)
  f_Row_init : FunD G.K "__init__" "Row.__init__" (defArgs s_Row_init) (defBody s_Row_init) (defScope s_Row_init) [] [("is_known", V.bl false)] A.a_Row_init A.fd_Row_init
  f_product_terms : Fun G.K "product_terms" "product_terms" s_product_terms A.a_product_terms A.fd_product_terms
  g_product_terms : mg "product_terms" = some (.ref A.a_product_terms)
  f_operand_terms : Fun G.K "operand_terms" "operand_terms" s_operand_terms A.a_operand_terms A.fd_operand_terms
  g_operand_terms : mg "operand_terms" = some (.ref A.a_operand_terms)
  f_Row_mul : Fun G.K "__mul__" "Row.__mul__" s_Row_mul A.a_Row_mul A.fd_Row_mul
  f_summed_terms : Fun G.K "summed_terms" "summed_terms" s_summed_terms A.a_summed_terms A.fd_summed_terms
  g_summed_terms : mg "summed_terms" = some (.ref A.a_summed_terms)
  f_Row_add : Fun G.K "__add__" "Row.__add__" s_Row_add A.a_Row_add A.fd_Row_add
  f_Row_neg : Fun G.K "__neg__" "Row.__neg__" s_Row_neg A.a_Row_neg A.fd_Row_neg
  f_Row_sub : Fun G.K "__sub__" "Row.__sub__" s_Row_sub A.a_Row_sub A.fd_Row_sub
  f_Row_eq : Fun G.K "__eq__" "Row.__eq__" s_Row_eq A.a_Row_eq A.fd_Row_eq
  f_wall : Fun G.K "_wall" "_wall" s_wall A.a_wall A.fd_wall
  g_wall : mg "_wall" = some (.ref A.a_wall)
  f_power_text : Fun G.K "power_text" "power_text" s_power_text A.a_power_text A.fd_power_text
  g_power_text : mg "power_text" = some (.ref A.a_power_text)
  f_term_text : Fun G.K "term_text" "term_text" s_term_text A.a_term_text A.fd_term_text
  g_term_text : mg "term_text" = some (.ref A.a_term_text)
  f_terms_text : Fun G.K "terms_text" "terms_text" s_terms_text A.a_terms_text A.fd_terms_text
  g_terms_text : mg "terms_text" = some (.ref A.a_terms_text)
  f_quotient_terms : Fun G.K "quotient_terms" "quotient_terms" s_quotient_terms A.a_quotient_terms A.fd_quotient_terms
  g_quotient_terms : mg "quotient_terms" = some (.ref A.a_quotient_terms)
  f_require_row : Fun G.K "require_row" "require_row" s_require_row A.a_require_row A.fd_require_row
  g_require_row : mg "require_row" = some (.ref A.a_require_row)
  f_Ldice : Fun G.K "_law_dice" "_law_dice" s_Ldice A.a_Ldice A.fd_Ldice
  g_Ldice : mg "_law_dice" = some (.ref A.a_Ldice)
  f_Lroll : Fun G.K "_law_roll" "_law_roll" s_Lroll A.a_Lroll A.fd_Lroll
  g_Lroll : mg "_law_roll" = some (.ref A.a_Lroll)
  f_Lpick : Fun G.K "_law_pick" "_law_pick" s_Lpick A.a_Lpick A.fd_Lpick
  g_Lpick : mg "_law_pick" = some (.ref A.a_Lpick)
  f_Lrow : Fun G.K "_law_row" "_law_row" s_Lrow A.a_Lrow A.fd_Lrow
  g_Lrow : mg "_law_row" = some (.ref A.a_Lrow)
  f_Ladded : Fun G.K "_law_added" "_law_added" s_Ladded A.a_Ladded A.fd_Ladded
  g_Ladded : mg "_law_added" = some (.ref A.a_Ladded)
  f_Ltimes : Fun G.K "_law_times" "_law_times" s_Ltimes A.a_Ltimes A.fd_Ltimes
  g_Ltimes : mg "_law_times" = some (.ref A.a_Ltimes)
  f_Lraised : Fun G.K "_law_raised" "_law_raised" s_Lraised A.a_Lraised A.fd_Lraised
  g_Lraised : mg "_law_raised" = some (.ref A.a_Lraised)
  f_Lcircle : Fun G.K "_law_circle" "_law_circle" s_Lcircle A.a_Lcircle A.fd_Lcircle
  g_Lcircle : mg "_law_circle" = some (.ref A.a_Lcircle)
  f_Row_terms : Fun G.K "terms" "Row.terms" s_Row_terms A.a_Row_terms A.fd_Row_terms
  f_Lis_row : Fun G.K "_law_is_row" "_law_is_row" s_Lis_row A.a_Lis_row A.fd_Lis_row
  g_Lis_row : mg "_law_is_row" = some (.ref A.a_Lis_row)
  f_Ldrawn_row : Fun G.K "_law_drawn_row" "_law_drawn_row" s_Ldrawn_row A.a_Ldrawn_row A.fd_Ldrawn_row
  g_Ldrawn_row : mg "_law_drawn_row" = some (.ref A.a_Ldrawn_row)
  f_Lquotient : Fun G.K "_law_quotient" "_law_quotient" s_Lquotient A.a_Lquotient A.fd_Lquotient
  g_Lquotient : mg "_law_quotient" = some (.ref A.a_Lquotient)
  f_Row_quotient : Fun G.K "quotient" "Row.quotient" s_Row_quotient A.a_Row_quotient A.fd_Row_quotient
  f_Ltold_quotient : Fun G.K "_law_told_quotient" "_law_told_quotient" s_Ltold_quotient A.a_Ltold_quotient A.fd_Ltold_quotient
  g_Ltold_quotient : mg "_law_told_quotient" = some (.ref A.a_Ltold_quotient)
  f_Lquotient_right : Fun G.K "_law_quotient_right" "_law_quotient_right" s_Lquotient_right A.a_Lquotient_right A.fd_Lquotient_right
  g_Lquotient_right : mg "_law_quotient_right" = some (.ref A.a_Lquotient_right)
  f_Lled : Fun G.K "_law_led" "_law_led" s_Lled A.a_Lled A.fd_Lled
  g_Lled : mg "_law_led" = some (.ref A.a_Lled)
  f_Row_turned : Fun G.K "turned" "Row.turned" s_Row_turned A.a_Row_turned A.fd_Row_turned
  f_Row_spread : Fun G.K "spread" "Row.spread" s_Row_spread A.a_Row_spread A.fd_Row_spread
  f_Row_shifted : Fun G.K "shifted" "Row.shifted" s_Row_shifted A.a_Row_shifted A.fd_Row_shifted
  f_Row_at : Fun G.K "at" "Row.at" s_Row_at A.a_Row_at A.fd_Row_at
  f_Row_power : FunD G.K "power" "Row.power" (defArgs s_Row_power) (defBody s_Row_power) (defScope s_Row_power) [] [("many", V.int 1)] A.a_Row_power A.fd_Row_power
  f_Row_raised : Fun G.K "raised" "Row.raised" s_Row_raised A.a_Row_raised A.fd_Row_raised
  f_Lshapes_right : Fun G.K "_law_shapes_right" "_law_shapes_right" s_Lshapes_right A.a_Lshapes_right A.fd_Lshapes_right
  g_Lshapes_right : mg "_law_shapes_right" = some (.ref A.a_Lshapes_right)
  f_Row_low : Fun G.K "low" "Row.low" s_Row_low A.a_Row_low A.fd_Row_low
  f_Lright : Fun G.K "_law_right" "_law_right" s_Lright A.a_Lright A.fd_Lright
  g_Lright : mg "_law_right" = some (.ref A.a_Lright)
  f_Row_str : Fun G.K "__str__" "Row.__str__" s_Row_str A.a_Row_str A.fd_Row_str
  f_law : Fun G.K "law" "law" s_law A.a_law A.fd_law
  g_law : mg "law" = some (.ref A.a_law)
  n_isinstance : mg "isinstance" = none
  n_dict : mg "dict" = none
  n_all : mg "all" = none
  n_int : mg "int" = none
  n_bool : mg "bool" = none
  n_abs : mg "abs" = none
  n_sorted : mg "sorted" = none
  n_super : mg "super" = none
  n_any : mg "any" = none
  n_max : mg "max" = none
  n_min : mg "min" = none
  n_len : mg "len" = none
  n_list : mg "list" = none
  n_range : mg "range" = none
  n_sum : mg "sum" = none
  n_str : mg "str" = none
  c_BOUND : ∃ u v, mg "BOUND" = some u ∧ RelV v u ∧ ∀ ρ H, RelD G ρ H (.int 1000000000000000000000000000000000000000000000000000000000000) v
  c_MAX_POWER : ∃ u v, mg "MAX_POWER" = some u ∧ RelV v u ∧ ∀ ρ H, RelD G ρ H (.int 10000) v
  c_LETTER : ∃ u v, mg "LETTER" = some u ∧ RelV v u ∧ ∀ ρ H, RelD G ρ H (.str [120]) v
  c_MAX_RAISED : ∃ u v, mg "MAX_RAISED" = some u ∧ RelV v u ∧ ∀ ρ H, RelD G ρ H (.int 100) v
  g_InvalidRow : mg "InvalidRow" = some (.ref A.c_InvalidRow)
  ca_InvalidRow : G.ca 11 = .ref A.c_InvalidRow
  g_InvalidNumber : mg "InvalidNumber" = some (.ref A.c_InvalidNumber)
  ca_InvalidNumber : G.ca 13 = .ref A.c_InvalidNumber
  g_Row : mg "Row" = some (.ref A.c_Row)
  ca_Row : G.ca 15 = .ref A.c_Row
  g_TooMany : mg "TooMany" = some (.ref A.c_TooMany)
  ca_TooMany : G.ca 14 = .ref A.c_TooMany
  g_InvalidOperation : mg "InvalidOperation" = some (.ref A.c_InvalidOperation)
  ca_InvalidOperation : G.ca 12 = .ref A.c_InvalidOperation
  sc_Row : SlX.SCls G.K A.c_Row ∧ SlX.SIsi G.K A.c_Row
  mk_Row : Mk G.K A.c_Row A.a_Row_init
  s1_Row_own_terms : SlX.Slot1 G.K A.c_Row "own_terms" A.p_Row_own_terms 0
  me_Row_getitem : Meth G.K A.c_Row "__getitem__" A.a_Row_getitem
  fi_Row_getitem : PySem.W.fnIn G.K A.a_Row_getitem = true
  me_Row_neg : Meth G.K A.c_Row "__neg__" A.a_Row_neg
  fi_Row_neg : PySem.W.fnIn G.K A.a_Row_neg = true
  me_Row_quotient : Meth G.K A.c_Row "quotient" A.a_Row_quotient
  fi_Row_quotient : PySem.W.fnIn G.K A.a_Row_quotient = true
  me_Row_spread : Meth G.K A.c_Row "spread" A.a_Row_spread
  fi_Row_spread : PySem.W.fnIn G.K A.a_Row_spread = true
  me_Row_shifted : Meth G.K A.c_Row "shifted" A.a_Row_shifted
  fi_Row_shifted : PySem.W.fnIn G.K A.a_Row_shifted = true
  me_Row_at : Meth G.K A.c_Row "at" A.a_Row_at
  fi_Row_at : PySem.W.fnIn G.K A.a_Row_at = true
  me_Row_raised : Meth G.K A.c_Row "raised" A.a_Row_raised
  fi_Row_raised : PySem.W.fnIn G.K A.a_Row_raised = true
  me_Row_str : Meth G.K A.c_Row "__str__" A.a_Row_str
  fi_Row_str : PySem.W.fnIn G.K A.a_Row_str = true
  pr_Row_terms : PropC G.K A.c_Row "terms" A.p_Row_terms A.a_Row_terms
  pr_Row_turned : PropC G.K A.c_Row "turned" A.p_Row_turned A.a_Row_turned
  pr_Row_low : PropC G.K A.c_Row "low" A.p_Row_low A.a_Row_low
  cm_Row_power : CmC G 15 "power" A.a_Row_power
  bo_Row_mul : BoF G.K A.c_Row A.a_Row_mul .Mult
  bo_Row_sub : BoF G.K A.c_Row A.a_Row_sub .Sub
  bo_Row_add : BoF G.K A.c_Row A.a_Row_add .Add
  eq_Row : EqF G.K G.ca A.c_Row A.a_Row_eq eqts
  kp_InvalidRow : KpC G.K A.c_InvalidRow
  kx_InvalidNumber : KxC P G.K A.c_InvalidNumber si_InvalidNumber "self" "value" "value"
  kx_TooMany : KxC P G.K A.c_TooMany si_TooMany "self" "limit" "limit"
  kp_InvalidOperation : KpC G.K A.c_InvalidOperation
section
variable {P : Program} {w : World} {mg : Str → Option Value} {base : Heap} {G : Glo} {A : Ad}
theorem sc_is_integer : FnScope ["value"] ["value"] (defScope s_is_integer) := ⟨rfl, rfl, rfl, by decide +kernel, rfl, by decide +kernel, by decide +kernel⟩
def b_is_integer : MS := (sRet (mAndT (mCall (fIsE kit kix) (mCons (mVar 0) (mCons (mC (.cls 0)) mNil))) (mAndT (mNotT (mCall (fIsE kit kix) (mCons (mVar 0) (mCons (mC (.cls 1)) mNil)))) (mBin cLt (mCall fAbs (mCons (mVar 0) mNil)) (mC (.int 1000000000000000000000000000000000000000000000000000000000000))))))
def m_is_integer : MF := mkF 1 1 b_is_integer
theorem ok_is_integer (T : TT P G mg A) : FnG G P w mg base 1 A.a_is_integer m_is_integer :=
  fn_okG T.f_is_integer sc_is_integer rfl rfl (T.f_is_integer.binds fun _ _ _ _ _ _ us hl => match us, hl with | [_], _ => rfl) fun cdv Ar outer s H E hr hg =>
    (pss_onem (ps_retm (pm_andT (pm_callB (cm_ise T.ko T.kx) (by rfl) T.n_isinstance (by decide +kernel) (pa_consm (pm_var (i := 0)) (pa_consm (pm_bty (T.ko.bt 0 _ rfl) T.n_int (by decide +kernel)) pa_nilm))) (pm_andT (pm_notT (pm_callB (cm_ise T.ko T.kx) (by rfl) T.n_isinstance (by decide +kernel) (pa_consm (pm_var (i := 0)) (pa_consm (pm_bty (T.ko.bt 1 _ rfl) T.n_bool (by decide +kernel)) pa_nilm)))) (pm_one (pm_cmp om_lt (pm_callB cm_abs (by rfl) T.n_abs (by decide +kernel) (pa_consm (pm_var (i := 0)) pa_nilm)) (pm_globE (T.c_BOUND)) (nomark _)))))))
theorem sc_is_power : FnScope ["value"] ["value"] (defScope s_is_power) := ⟨rfl, rfl, rfl, by decide +kernel, rfl, by decide +kernel, by decide +kernel⟩
def b_is_power : MS := (sRet (mAndT (mCall m_is_integer (mCons (mVar 0) mNil)) (mBin cLe (mCall fAbs (mCons (mVar 0) mNil)) (mC (.int 10000)))))
def m_is_power : MF := mkF 1 1 b_is_power
theorem ok_is_power (T : TT P G mg A) : FnG G P w mg base 2 A.a_is_power m_is_power :=
  fn_okG T.f_is_power sc_is_power rfl rfl (T.f_is_power.binds fun _ _ _ _ _ _ us hl => match us, hl with | [_], _ => rfl) fun cdv Ar outer s H E hr hg =>
    (pss_onem (ps_retm (pm_andT (pm_call (cm_fnG (ok_is_integer T) (hr.mono (by decide)) hg) (by rfl) T.g_is_integer T.f_is_integer.kp (pa_consm (pm_var (i := 0)) pa_nilm)) (pm_one (pm_cmp om_le (pm_callB cm_abs (by rfl) T.n_abs (by decide +kernel) (pa_consm (pm_var (i := 0)) pa_nilm)) (pm_globE (T.c_MAX_POWER)) (nomark _))))))
theorem sc_are_terms : FnScope ["value", "exponent", "factor"] ["value"] (defScope s_are_terms) := ⟨rfl, rfl, rfl, by decide +kernel, rfl, by decide +kernel, by decide +kernel⟩
def b_are_terms : MS := (sSeq (sIf (tNotM (mTru (mCall (fIsE kit kix) (mCons (mVar 0) (mCons (mC (.cls 5)) mNil))))) (sRet (mC (.bl false))) sSkip)
  (sRet (mCall fAll (mCons (mLock (mVar 0) (mLc (mItM itDi (mVar 0)) (.tp [(.nm 1), (.nm 2)]) tYesM (mAndT (mCall m_is_power (mCons (mVar 1) mNil)) (mAndT (mCall m_is_integer (mCons (mVar 2) mNil)) (mBin cNeG (mVar 2) (mC (.int 0))))) [1, 2])) mNil))))
def m_are_terms : MF := mkF 3 1 b_are_terms
theorem ok_are_terms (T : TT P G mg A) : FnG G P w mg base 3 A.a_are_terms m_are_terms :=
  fn_okG T.f_are_terms sc_are_terms rfl rfl (T.f_are_terms.binds fun _ _ _ _ _ _ us hl => match us, hl with | [_], _ => rfl) fun cdv Ar outer s H E hr hg =>
    (pss_consm (ps_ifm (pt_notm (pt_tru (pm_callB (cm_ise T.ko T.kx) (by rfl) T.n_isinstance (by decide +kernel) (pa_consm (pm_var (i := 0)) (pa_consm (pm_bty (T.ko.bt 5 _ rfl) T.n_dict (by decide +kernel)) pa_nilm))))) (pss_onem (ps_retm pm_bl)) pss_nilm)
    (pss_onem (ps_retm (pm_callB (cm_all rfl) (by rfl) T.n_all (by decide +kernel) (pa_consm (pm_lock (md := (mVar 0)) (pm_lc (own := [("exponent", 1), ("factor", 2)]) (by rfl) sc_are_terms.nd (pi_itemsm (pm_var (i := 0))) (blkOk_by (own := [("exponent", 1), ("factor", 2)]) (N := ["value", "exponent", "factor"]) (sc := defScope s_are_terms) (by decide +kernel)) (fun _ _ _ _ _ => (pgt (by rfl) (pgs1 (pgn (i := 1) sc_are_terms.nd) (pgs1 (pgn (i := 2) sc_are_terms.nd) pgs0)))) (fun _ _ _ _ _ => pts_nilm) (fun _ _ _ _ _ => (pm_andT (pm_call (cm_fnG (ok_is_power T) (hr.mono (by decide)) hg) (by rfl) T.g_is_power T.f_is_power.kp (pa_consm (pm_var (i := 1)) pa_nilm)) (pm_andT (pm_call (cm_fnG (ok_is_integer T) (hr.mono (by decide)) hg) (by rfl) T.g_is_integer T.f_is_integer.kp (pa_consm (pm_var (i := 2)) pa_nilm)) (pm_one (pm_cmp (om_neG hr.u65) (pm_var (i := 2)) pm_int (nomark _)))))))) pa_nilm)))))
theorem sc_Row_getitem : FnScope ["self", "exponent"] ["self", "exponent"] (defScope s_Row_getitem) := ⟨rfl, rfl, rfl, by decide +kernel, rfl, by decide +kernel, by decide +kernel⟩
def b_Row_getitem : MS := (sSeq (sIf (tNotM (mTru (mCall m_is_integer (mCons (mVar 1) mNil)))) (sRaiseK 13 "value" (mVar 1)) sSkip)
  (sRet (mGet2 (mUn (atD [(15, .slot 0)]) (mVar 0)) (mVar 1) (mC (.int 0)))))
def m_Row_getitem : MF := mkF 2 2 b_Row_getitem
theorem ok_Row_getitem (T : TT P G mg A) : FnG G P w mg base 3 A.a_Row_getitem m_Row_getitem :=
  fn_okG T.f_Row_getitem sc_Row_getitem rfl rfl (T.f_Row_getitem.binds fun _ _ _ _ _ _ us hl => match us, hl with | [_, _], _ => rfl) fun cdv Ar outer s H E hr hg =>
    (pss_consm (ps_ifm (pt_notm (pt_tru (pm_call (cm_fnG (ok_is_integer T) (hr.mono (by decide)) hg) (by rfl) T.g_is_integer T.f_is_integer.kp (pa_consm (pm_var (i := 1)) pa_nilm)))) (pss_onem (ps_raiseK (k := 0) rfl T.ca_InvalidNumber T.kx_InvalidNumber T.n_super (hr.mono (by decide)) (by rfl) T.g_InvalidNumber (pm_var (i := 1)))) pss_nilm)
    (pss_onem (ps_retm (pm_get2 hr.u1 (pm_at (.cons (atSl T.ca_Row T.sc_Row.1 T.s1_Row_own_terms) .nil) (pm_var (i := 0))) (pm_var (i := 1)) pm_int ⟨by rfl, by rfl, by rfl, by rfl⟩))))
theorem sc_sorted_terms : FnScope ["terms", "found", "exponent"] ["terms"] (defScope s_sorted_terms) := ⟨rfl, rfl, rfl, by decide +kernel, rfl, by decide +kernel, by decide +kernel⟩
def b_sorted_terms : MS := (sSeq (sSet 1 (mDc (mIt (mCall fSorted (mCons (mVar 0) mNil))) (.nm 2) (mTst cNeG (mBin (ixO [(15, m_Row_getitem)] ixG) (mVar 0) (mVar 2)) (mC (.int 0))) (mVar 2) (mBin (ixO [(15, m_Row_getitem)] ixG) (mVar 0) (mVar 2)) [2]))
  (sSeq (sIf (mTru (mCall fAny (mCons (mLock (mVar 1) (mLc (mIt (mVar 1)) (.nm 2) tYesM (mBin cGt (mCall fAbs (mCons (mVar 2) mNil)) (mC (.int 10000))) [2])) mNil))) (sRaiseK 14 "limit" (mC (.int 10000))) sSkip)
  (sRet (mVar 1))))
def m_sorted_terms : MF := mkF 3 1 b_sorted_terms
theorem ok_sorted_terms (T : TT P G mg A) : FnG G P w mg base 5 A.a_sorted_terms m_sorted_terms :=
  fn_okG T.f_sorted_terms sc_sorted_terms rfl rfl (T.f_sorted_terms.binds fun _ _ _ _ _ _ us hl => match us, hl with | [_], _ => rfl) fun cdv Ar outer s H E hr hg =>
    (pss_consm (ps_setDcm (i := 1) (own := [("exponent", 2)]) (by rfl) sc_sorted_terms.nd (pi_anym (pm_callB (cm_sorted rfl) (by rfl) T.n_sorted (by decide +kernel) (pa_consm (pm_var (i := 0)) pa_nilm))) (blkOk_by (own := [("exponent", 2)]) (N := ["terms", "found", "exponent"]) (sc := defScope s_sorted_terms) (by decide +kernel)) (fun _ _ _ _ _ => (pgn (i := 2) sc_sorted_terms.nd)) (fun _ _ _ _ _ => (pts_onem (pt_cmp (om_neG hr.u65) (pm_ixM (ixm_o (.cons (giOk T.ca_Row T.me_Row_getitem T.fi_Row_getitem (ok_Row_getitem T) (hr.mono (by decide)) hg) .nil) (ixm_g hr.u1 (fun _ _ => rfl))) (pm_var (i := 0)) (pm_var (i := 2))) pm_int (nomark _)))) (fun _ _ _ _ _ => (pm_var (i := 2))) (fun _ _ _ _ _ => (pm_ixM (ixm_o (.cons (giOk T.ca_Row T.me_Row_getitem T.fi_Row_getitem (ok_Row_getitem T) (hr.mono (by decide)) hg) .nil) (ixm_g hr.u1 (fun _ _ => rfl))) (pm_var (i := 0)) (pm_var (i := 2)))))
    (pss_consm (ps_ifm (pt_tru (pm_callB (cm_any rfl) (by rfl) T.n_any (by decide +kernel) (pa_consm (pm_lock (md := (mVar 1)) (pm_lc (own := [("exponent", 2)]) (by rfl) sc_sorted_terms.nd (pi_anym (pm_var (i := 1))) (blkOk_by (own := [("exponent", 2)]) (N := ["terms", "found", "exponent"]) (sc := defScope s_sorted_terms) (by decide +kernel)) (fun _ _ _ _ _ => (pgn (i := 2) sc_sorted_terms.nd)) (fun _ _ _ _ _ => pts_nilm) (fun _ _ _ _ _ => (pm_cmp om_gt (pm_callB cm_abs (by rfl) T.n_abs (by decide +kernel) (pa_consm (pm_var (i := 2)) pa_nilm)) (pm_globE (T.c_MAX_POWER)) (nomark _))))) pa_nilm))) (pss_onem (ps_raiseK (k := 0) rfl T.ca_TooMany T.kx_TooMany T.n_super (hr.mono (by decide)) (by rfl) T.g_TooMany (pm_globE (T.c_MAX_POWER)))) pss_nilm)
    (pss_onem (ps_retm (pm_var (i := 1))))))
theorem sc_Row_init : FnScope ["self", "terms", "is_known"] ["self", "terms", "is_known"] (defScope s_Row_init) := ⟨rfl, rfl, rfl, by decide +kernel, rfl, by decide +kernel, by decide +kernel⟩
def b_Row_init : MS := (sSeq (sIf (tAndM (tNotM (mTru (mVar 2))) (tNotM (mTru (mCall m_are_terms (mCons (mVar 1) mNil))))) (sRaiseP 11) sSkip)
  (sStA [(15, 0)] (mVar 0) (mCall m_sorted_terms (mCons (mVar 1) mNil))))
def m_Row_init : MF := mkF 3 3 b_Row_init
theorem ok_Row_init (T : TT P G mg A) : FnB G P w mg base 6 A.a_Row_init A.fd_Row_init ["self", "terms", "is_known"] m_Row_init :=
  fn_okB T.f_Row_init sc_Row_init rfl rfl fun cdv Ar outer s H E hr hg =>
    (pss_consm (ps_ifm (pt_w (pw_andm (pt_notm (pt_tru (pm_var (i := 2)))) (pw_and1m (pt_notm (pt_tru (pm_call (cm_fnG (ok_are_terms T) (hr.mono (by decide)) hg) (by rfl) T.g_are_terms T.f_are_terms.kp (pa_consm (pm_var (i := 1)) pa_nilm))))))) (pss_onem (ps_raiseP rfl T.ca_InvalidRow T.kp_InvalidRow (by rfl) T.g_InvalidRow)) pss_nilm)
    (pss_onem (ps_stA (.cons (stSl T.ca_Row T.sc_Row.1 T.s1_Row_own_terms) .nil) (pm_var (i := 0)) (pm_call (cm_fnG (ok_sorted_terms T) (hr.mono (by decide)) hg) (by rfl) T.g_sorted_terms T.f_sorted_terms.kp (pa_consm (pm_var (i := 1)) pa_nilm)))))
abbrev g_Row_init_2_is_known : List D → List D → List D := fun ds es => ds ++ es
theorem B_Row_init_2_is_known (T : TT P G mg A) : BnD G A.fd_Row_init ["self", "terms", "is_known"] 2 ["is_known"] g_Row_init_2_is_known :=
  let ⟨_, h⟩ := T.f_Row_init.kbinds0 (ps := ["self", "terms", "is_known"]) 2 ["is_known"] [] (fun us _ ws => us ++ ws) (by intro z; cases z) (by intro q hq; cases hq) (fun a _ c => a.append c) (fun _ _ _ _ _ _ us mv ws hu hm hw => match us, mv, ws, hu, hm, hw with | [_, _], [], [_], _, _, _ => by rfl)
  bnd_kw h fun _ _ _ _ _ _ _ _ a b => a.append b
def n_Row_init_2_is_known : MK := mkObj 15 (mkK 2 1 g_Row_init_2_is_known m_Row_init)
theorem sc_product_terms : FnScope ["one", "other", "found", "first", "factor", "second", "times"] ["one", "other"] (defScope s_product_terms) := ⟨rfl, rfl, rfl, by decide +kernel, rfl, by decide +kernel, by decide +kernel⟩
def b_product_terms : MS := (sSeq (sSet 2 mDct0)
  (sSeq (sLock (mVar 0) (sFor (mItM itDi (mVar 0)) (.tp [(.nm 3), (.nm 4)]) (sLock (mVar 1) (sFor (mItM itDi (mVar 1)) (.tp [(.nm 5), (.nm 6)]) (sStI stI (mVar 2) (mBin bAdd (mVar 3) (mVar 5)) (mBin bAdd (mGet2 (mVar 2) (mBin bAdd (mVar 3) (mVar 5)) (mC (.int 0))) (mBin bMul (mVar 4) (mVar 6))))))))
  (sRet (mVar 2))))
def m_product_terms : MF := mkF 7 2 b_product_terms
theorem ok_product_terms (T : TT P G mg A) : FnG G P w mg base 1 A.a_product_terms m_product_terms :=
  fn_okG T.f_product_terms sc_product_terms rfl rfl (T.f_product_terms.binds fun _ _ _ _ _ _ us hl => match us, hl with | [_, _], _ => rfl) fun cdv Ar outer s H E hr hg =>
    (pss_consm (ps_setm (i := 2) sc_product_terms.nd pm_dct0)
    (pss_consm (ps_lockm (md := (mVar 0)) (ps_form (by rfl) (pi_itemsm (pm_var (i := 0))) (pgt (by rfl) (pgs1 (pgn (i := 3) sc_product_terms.nd) (pgs1 (pgn (i := 4) sc_product_terms.nd) pgs0))) (pss_onem (ps_lockm (md := (mVar 1)) (ps_form (by rfl) (pi_itemsm (pm_var (i := 1))) (pgt (by rfl) (pgs1 (pgn (i := 5) sc_product_terms.nd) (pgs1 (pgn (i := 6) sc_product_terms.nd) pgs0))) (pss_onem (ps_stI (set_i hr.u1) (pm_var (i := 2)) (pm_bin om_add (pm_var (i := 3)) (pm_var (i := 5))) (pm_bin om_add (pm_get2 hr.u1 (pm_var (i := 2)) (pm_bin om_add (pm_var (i := 3)) (pm_var (i := 5))) pm_int ⟨by rfl, by rfl, by rfl, by rfl⟩) (pm_bin om_mul (pm_var (i := 4)) (pm_var (i := 6)))))))))))
    (pss_onem (ps_retm (pm_var (i := 2))))))
theorem sc_operand_terms : FnScope ["value"] ["value"] (defScope s_operand_terms) := ⟨rfl, rfl, rfl, by decide +kernel, rfl, by decide +kernel, by decide +kernel⟩
def b_operand_terms : MS := (sSeq (sIf (mTru (mCall (fIsE kit kix) (mCons (mVar 0) (mCons (mC (.cls 15)) mNil)))) (sRet (mUn (atD [(15, .slot 0)]) (mVar 0))) sSkip)
  (sSeq (sIf (mTru (mCall m_is_integer (mCons (mVar 0) mNil))) (sRet (mDisp [((mC (.int 0)), (mVar 0))])) sSkip)
  sNo))
def m_operand_terms : MF := mkF 1 1 b_operand_terms
theorem ok_operand_terms (T : TT P G mg A) : FnG G P w mg base 2 A.a_operand_terms m_operand_terms :=
  fn_okG T.f_operand_terms sc_operand_terms rfl rfl (T.f_operand_terms.binds fun _ _ _ _ _ _ us hl => match us, hl with | [_], _ => rfl) fun cdv Ar outer s H E hr hg =>
    (pss_consm (ps_ifm (pt_tru (pm_callB (cm_ise T.ko T.kx) (by rfl) T.n_isinstance (by decide +kernel) (pa_consm (pm_var (i := 0)) (pa_consm (pm_clsO (by rfl) T.g_Row T.ca_Row) pa_nilm)))) (pss_onem (ps_retm (pm_at (.cons (atSl T.ca_Row T.sc_Row.1 T.s1_Row_own_terms) .nil) (pm_var (i := 0))))) pss_nilm)
    (pss_consm (ps_ifm (pt_tru (pm_call (cm_fnG (ok_is_integer T) (hr.mono (by decide)) hg) (by rfl) T.g_is_integer T.f_is_integer.kp (pa_consm (pm_var (i := 0)) pa_nilm))) (pss_onem (ps_retm (pm_disp (.cons pm_int (pm_var (i := 0)) .nil)))) pss_nilm)
    (pss_onem ps_no)))
theorem sc_Row_mul : FnScope ["self", "other"] ["self", "other"] (defScope s_Row_mul) := ⟨rfl, rfl, rfl, by decide +kernel, rfl, by decide +kernel, by decide +kernel⟩
def b_Row_mul : MS := (sRet (mCallK n_Row_init_2_is_known (mCons (mCall m_product_terms (mCons (mUn (atD [(15, .slot 0)]) (mVar 0)) (mCons (mCall m_operand_terms (mCons (mVar 1) mNil)) mNil))) mNil) (mCons (mC (.bl true)) mNil)))
def m_Row_mul : MF := mkF 2 2 b_Row_mul
theorem ok_Row_mul (T : TT P G mg A) : FnG G P w mg base 8 A.a_Row_mul m_Row_mul :=
  fn_okG T.f_Row_mul sc_Row_mul rfl rfl (T.f_Row_mul.binds fun _ _ _ _ _ _ us hl => match us, hl with | [_, _], _ => rfl) fun cdv Ar outer s H E hr hg =>
    (pss_onem (ps_retm (pm_callK (cm_make T.ca_Row T.mk_Row (ok_Row_init T) (B_Row_init_2_is_known T) (hr.mono (by decide)) hg) (by rfl) T.g_Row T.mk_Row.kp (pa_consm (pm_call (cm_fnG (ok_product_terms T) (hr.mono (by decide)) hg) (by rfl) T.g_product_terms T.f_product_terms.kp (pa_consm (pm_at (.cons (atSl T.ca_Row T.sc_Row.1 T.s1_Row_own_terms) .nil) (pm_var (i := 0))) (pa_consm (pm_call (cm_fnG (ok_operand_terms T) (hr.mono (by decide)) hg) (by rfl) T.g_operand_terms T.f_operand_terms.kp (pa_consm (pm_var (i := 1)) pa_nilm)) pa_nilm))) pa_nilm) (pk_consm pm_bl pk_nilm))))
theorem sc_summed_terms : FnScope ["one", "other", "times", "found", "exponent", "factor"] ["one", "other", "times"] (defScope s_summed_terms) := ⟨rfl, rfl, rfl, by decide +kernel, rfl, by decide +kernel, by decide +kernel⟩
def b_summed_terms : MS := (sSeq (sSet 3 (mCall fDict (mCons (mVar 0) mNil)))
  (sSeq (sLock (mVar 1) (sFor (mItM itDi (mVar 1)) (.tp [(.nm 4), (.nm 5)]) (sStI stI (mVar 3) (mVar 4) (mBin bAdd (mGet2 (mVar 3) (mVar 4) (mC (.int 0))) (mBin (binO [(15, m_Row_mul)] bMul) (mVar 2) (mVar 5))))))
  (sRet (mVar 3))))
def m_summed_terms : MF := mkF 6 3 b_summed_terms
theorem ok_summed_terms (T : TT P G mg A) : FnG G P w mg base 9 A.a_summed_terms m_summed_terms :=
  fn_okG T.f_summed_terms sc_summed_terms rfl rfl (T.f_summed_terms.binds fun _ _ _ _ _ _ us hl => match us, hl with | [_, _, _], _ => rfl) fun cdv Ar outer s H E hr hg =>
    (pss_consm (ps_setm (i := 3) sc_summed_terms.nd (pm_callT (cm_dict rfl) (by rfl) T.n_dict (by decide +kernel) (pa_consm (pm_var (i := 0)) pa_nilm)))
    (pss_consm (ps_lockm (md := (mVar 1)) (ps_form (by rfl) (pi_itemsm (pm_var (i := 1))) (pgt (by rfl) (pgs1 (pgn (i := 4) sc_summed_terms.nd) (pgs1 (pgn (i := 5) sc_summed_terms.nd) pgs0))) (pss_onem (ps_stI (set_i hr.u1) (pm_var (i := 3)) (pm_var (i := 4)) (pm_bin om_add (pm_get2 hr.u1 (pm_var (i := 3)) (pm_var (i := 4)) pm_int ⟨by rfl, by rfl, by rfl, by rfl⟩) (pm_bin (om_binO (.cons (boOk T.ca_Row T.bo_Row_mul (cm_fnG (ok_Row_mul T) (hr.mono (by decide)) hg)) .nil) om_mul) (pm_var (i := 2)) (pm_var (i := 5))))))))
    (pss_onem (ps_retm (pm_var (i := 3))))))
theorem sc_Row_add : FnScope ["self", "other"] ["self", "other"] (defScope s_Row_add) := ⟨rfl, rfl, rfl, by decide +kernel, rfl, by decide +kernel, by decide +kernel⟩
def b_Row_add : MS := (sRet (mCallK n_Row_init_2_is_known (mCons (mCall m_summed_terms (mCons (mUn (atD [(15, .slot 0)]) (mVar 0)) (mCons (mCall m_operand_terms (mCons (mVar 1) mNil)) (mCons (mC (.int 1)) mNil)))) mNil) (mCons (mC (.bl true)) mNil)))
def m_Row_add : MF := mkF 2 2 b_Row_add
theorem ok_Row_add (T : TT P G mg A) : FnG G P w mg base 10 A.a_Row_add m_Row_add :=
  fn_okG T.f_Row_add sc_Row_add rfl rfl (T.f_Row_add.binds fun _ _ _ _ _ _ us hl => match us, hl with | [_, _], _ => rfl) fun cdv Ar outer s H E hr hg =>
    (pss_onem (ps_retm (pm_callK (cm_make T.ca_Row T.mk_Row (ok_Row_init T) (B_Row_init_2_is_known T) (hr.mono (by decide)) hg) (by rfl) T.g_Row T.mk_Row.kp (pa_consm (pm_call (cm_fnG (ok_summed_terms T) (hr.mono (by decide)) hg) (by rfl) T.g_summed_terms T.f_summed_terms.kp (pa_consm (pm_at (.cons (atSl T.ca_Row T.sc_Row.1 T.s1_Row_own_terms) .nil) (pm_var (i := 0))) (pa_consm (pm_call (cm_fnG (ok_operand_terms T) (hr.mono (by decide)) hg) (by rfl) T.g_operand_terms T.f_operand_terms.kp (pa_consm (pm_var (i := 1)) pa_nilm)) (pa_consm pm_int pa_nilm)))) pa_nilm) (pk_consm pm_bl pk_nilm))))
theorem sc_Row_neg : FnScope ["self"] ["self"] (defScope s_Row_neg) := ⟨rfl, rfl, rfl, by decide +kernel, rfl, by decide +kernel, by decide +kernel⟩
def b_Row_neg : MS := (sRet (mCallK n_Row_init_2_is_known (mCons (mCall m_summed_terms (mCons mDct0 (mCons (mUn (atD [(15, .slot 0)]) (mVar 0)) (mCons (mUn uNeg (mC (.int 1))) mNil)))) mNil) (mCons (mC (.bl true)) mNil)))
def m_Row_neg : MF := mkF 1 1 b_Row_neg
theorem ok_Row_neg (T : TT P G mg A) : FnG G P w mg base 10 A.a_Row_neg m_Row_neg :=
  fn_okG T.f_Row_neg sc_Row_neg rfl rfl (T.f_Row_neg.binds fun _ _ _ _ _ _ us hl => match us, hl with | [_], _ => rfl) fun cdv Ar outer s H E hr hg =>
    (pss_onem (ps_retm (pm_callK (cm_make T.ca_Row T.mk_Row (ok_Row_init T) (B_Row_init_2_is_known T) (hr.mono (by decide)) hg) (by rfl) T.g_Row T.mk_Row.kp (pa_consm (pm_call (cm_fnG (ok_summed_terms T) (hr.mono (by decide)) hg) (by rfl) T.g_summed_terms T.f_summed_terms.kp (pa_consm pm_dct0 (pa_consm (pm_at (.cons (atSl T.ca_Row T.sc_Row.1 T.s1_Row_own_terms) .nil) (pm_var (i := 0))) (pa_consm (pm_un um_neg pm_int) pa_nilm)))) pa_nilm) (pk_consm pm_bl pk_nilm))))
theorem sc_Row_sub : FnScope ["self", "other"] ["self", "other"] (defScope s_Row_sub) := ⟨rfl, rfl, rfl, by decide +kernel, rfl, by decide +kernel, by decide +kernel⟩
def b_Row_sub : MS := (sRet (mCallK n_Row_init_2_is_known (mCons (mCall m_summed_terms (mCons (mUn (atD [(15, .slot 0)]) (mVar 0)) (mCons (mCall m_operand_terms (mCons (mVar 1) mNil)) (mCons (mUn uNeg (mC (.int 1))) mNil)))) mNil) (mCons (mC (.bl true)) mNil)))
def m_Row_sub : MF := mkF 2 2 b_Row_sub
theorem ok_Row_sub (T : TT P G mg A) : FnG G P w mg base 10 A.a_Row_sub m_Row_sub :=
  fn_okG T.f_Row_sub sc_Row_sub rfl rfl (T.f_Row_sub.binds fun _ _ _ _ _ _ us hl => match us, hl with | [_, _], _ => rfl) fun cdv Ar outer s H E hr hg =>
    (pss_onem (ps_retm (pm_callK (cm_make T.ca_Row T.mk_Row (ok_Row_init T) (B_Row_init_2_is_known T) (hr.mono (by decide)) hg) (by rfl) T.g_Row T.mk_Row.kp (pa_consm (pm_call (cm_fnG (ok_summed_terms T) (hr.mono (by decide)) hg) (by rfl) T.g_summed_terms T.f_summed_terms.kp (pa_consm (pm_at (.cons (atSl T.ca_Row T.sc_Row.1 T.s1_Row_own_terms) .nil) (pm_var (i := 0))) (pa_consm (pm_call (cm_fnG (ok_operand_terms T) (hr.mono (by decide)) hg) (by rfl) T.g_operand_terms T.f_operand_terms.kp (pa_consm (pm_var (i := 1)) pa_nilm)) (pa_consm (pm_un um_neg pm_int) pa_nilm)))) pa_nilm) (pk_consm pm_bl pk_nilm))))
theorem sc_Row_eq : FnScope ["self", "value"] ["self", "value"] (defScope s_Row_eq) := ⟨rfl, rfl, rfl, by decide +kernel, rfl, by decide +kernel, by decide +kernel⟩
def b_Row_eq : MS := (sRet (mAndT (mCall (fIsE kit kix) (mCons (mVar 1) (mCons (mC (.cls 15)) mNil))) (mBin cEqG (mUn (atD [(15, .slot 0)]) (mVar 0)) (mUn (atD [(15, .slot 0)]) (mVar 1)))))
def m_Row_eq : MF := mkF 2 2 b_Row_eq
theorem ok_Row_eq (T : TT P G mg A) : FnG G P w mg base 1 A.a_Row_eq m_Row_eq :=
  fn_okG T.f_Row_eq sc_Row_eq rfl rfl (T.f_Row_eq.binds fun _ _ _ _ _ _ us hl => match us, hl with | [_, _], _ => rfl) fun cdv Ar outer s H E hr hg =>
    (pss_onem (ps_retm (pm_andT (pm_callB (cm_ise T.ko T.kx) (by rfl) T.n_isinstance (by decide +kernel) (pa_consm (pm_var (i := 1)) (pa_consm (pm_clsO (by rfl) T.g_Row T.ca_Row) pa_nilm))) (pm_one (pm_cmp (om_eqG hr.u65) (pm_at (.cons (atSl T.ca_Row T.sc_Row.1 T.s1_Row_own_terms) .nil) (pm_var (i := 0))) (pm_at (.cons (atSl T.ca_Row T.sc_Row.1 T.s1_Row_own_terms) .nil) (pm_var (i := 1))) (nomark _))))))
theorem sc_wall : FnScope ["k"] ["k"] (defScope s_wall) := ⟨rfl, rfl, rfl, by decide +kernel, rfl, by decide +kernel, by decide +kernel⟩
def b_wall : MS := (whileLoop (mTru (mC (.bl true))) sSkip 100000)
def m_wall : MF := mkF 1 1 b_wall
theorem ok_wall (T : TT P G mg A) : FnG G P w mg base 1 A.a_wall m_wall :=
  fn_okG T.f_wall sc_wall rfl rfl (T.f_wall.binds fun _ _ _ _ _ _ us hl => match us, hl with | [_], _ => rfl) fun cdv Ar outer s H E hr hg =>
    (pss_onem (ps_whilem 100000 (pt_tru pm_bl) (pss_onem ps_passm)))
theorem sc_power_text : FnScope ["exponent"] ["exponent"] (defScope s_power_text) := ⟨rfl, rfl, rfl, by decide +kernel, rfl, by decide +kernel, by decide +kernel⟩
def b_power_text : MS := (sSeq (sIf (mTst cEqG (mVar 0) (mC (.int 0))) (sRet (mC (.str []))) sSkip)
  (sRet (mIf (mTst cEqG (mVar 0) (mC (.int 1))) (mC (.str [120])) (mJoin [(mUn fmtV (mC (.str [120]))), (mC (.str [94])), (mUn fmtV (mVar 0))]))))
def m_power_text : MF := mkF 1 1 b_power_text
theorem ok_power_text (T : TT P G mg A) : FnG G P w mg base 1 A.a_power_text m_power_text :=
  fn_okG T.f_power_text sc_power_text rfl rfl (T.f_power_text.binds fun _ _ _ _ _ _ us hl => match us, hl with | [_], _ => rfl) fun cdv Ar outer s H E hr hg =>
    (pss_consm (ps_ifm (pt_cmp (om_eqG hr.u65) (pm_var (i := 0)) pm_int (nomark _)) (pss_onem (ps_retm (pm_str (by decide +kernel)))) pss_nilm)
    (pss_onem (ps_retm (pm_ifexp (pt_cmp (om_eqG hr.u65) (pm_var (i := 0)) pm_int (nomark _)) (pm_globE (T.c_LETTER)) (pm_joined (.cons (pm_fmt (pm_globE (T.c_LETTER))) (.cons (pm_str (by decide +kernel)) (.cons (pm_fmt (pm_var (i := 0))) .nil))))))))
theorem sc_term_text : FnScope ["exponent", "factor"] ["exponent", "factor"] (defScope s_term_text) := ⟨rfl, rfl, rfl, by decide +kernel, rfl, by decide +kernel, by decide +kernel⟩
def b_term_text : MS := (sSeq (sIf (tAndM (mTst cEqG (mCall fAbs (mCons (mVar 1) mNil)) (mC (.int 1))) (mTst cNeG (mVar 0) (mC (.int 0)))) (sRet (mCall m_power_text (mCons (mVar 0) mNil))) sSkip)
  (sRet (mJoin [(mUn fmtV (mCall fAbs (mCons (mVar 1) mNil))), (mUn fmtV (mCall m_power_text (mCons (mVar 0) mNil)))])))
def m_term_text : MF := mkF 2 2 b_term_text
theorem ok_term_text (T : TT P G mg A) : FnG G P w mg base 2 A.a_term_text m_term_text :=
  fn_okG T.f_term_text sc_term_text rfl rfl (T.f_term_text.binds fun _ _ _ _ _ _ us hl => match us, hl with | [_, _], _ => rfl) fun cdv Ar outer s H E hr hg =>
    (pss_consm (ps_ifm (pt_w (pw_andm (pt_cmp (om_eqG hr.u65) (pm_callB cm_abs (by rfl) T.n_abs (by decide +kernel) (pa_consm (pm_var (i := 1)) pa_nilm)) pm_int (nomark _)) (pw_and1m (pt_cmp (om_neG hr.u65) (pm_var (i := 0)) pm_int (nomark _))))) (pss_onem (ps_retm (pm_call (cm_fnG (ok_power_text T) (hr.mono (by decide)) hg) (by rfl) T.g_power_text T.f_power_text.kp (pa_consm (pm_var (i := 0)) pa_nilm)))) pss_nilm)
    (pss_onem (ps_retm (pm_joined (.cons (pm_fmt (pm_callB cm_abs (by rfl) T.n_abs (by decide +kernel) (pa_consm (pm_var (i := 1)) pa_nilm))) (.cons (pm_fmt (pm_call (cm_fnG (ok_power_text T) (hr.mono (by decide)) hg) (by rfl) T.g_power_text T.f_power_text.kp (pa_consm (pm_var (i := 0)) pa_nilm))) .nil))))))
theorem sc_terms_text : FnScope ["terms", "text", "exponent", "factor", "sign", "ahead"] ["terms"] (defScope s_terms_text) := ⟨rfl, rfl, rfl, by decide +kernel, rfl, by decide +kernel, by decide +kernel⟩
def b_terms_text : MS := (sSeq (sSet 1 (mC (.str [])))
  (sSeq (sLock (mVar 0) (sFor (mItM itDi (mVar 0)) (.tp [(.nm 2), (.nm 3)]) (sSeq (sSet 4 (mIf (mTst cLt (mVar 3) (mC (.int 0))) (mC (.str [45])) (mC (.str [43]))))
  (sSeq (sSet 5 (mIf (mTst cNeG (mVar 1) (mC (.str []))) (mJoin [(mC (.str [32])), (mUn fmtV (mVar 4)), (mC (.str [32]))]) (mIf (mTst cLt (mVar 3) (mC (.int 0))) (mC (.str [45])) (mC (.str [])))))
  (sSet 1 (mJoin [(mUn fmtV (mVar 1)), (mUn fmtV (mVar 5)), (mUn fmtV (mCall m_term_text (mCons (mVar 2) (mCons (mVar 3) mNil))))]))))))
  (sRet (mOrT (mVar 1) (mC (.str [48]))))))
def m_terms_text : MF := mkF 6 1 b_terms_text
theorem ok_terms_text (T : TT P G mg A) : FnG G P w mg base 3 A.a_terms_text m_terms_text :=
  fn_okG T.f_terms_text sc_terms_text rfl rfl (T.f_terms_text.binds fun _ _ _ _ _ _ us hl => match us, hl with | [_], _ => rfl) fun cdv Ar outer s H E hr hg =>
    (pss_consm (ps_setm (i := 1) sc_terms_text.nd (pm_str (by decide +kernel)))
    (pss_consm (ps_lockm (md := (mVar 0)) (ps_form (by rfl) (pi_itemsm (pm_var (i := 0))) (pgt (by rfl) (pgs1 (pgn (i := 2) sc_terms_text.nd) (pgs1 (pgn (i := 3) sc_terms_text.nd) pgs0))) (pss_consm (ps_setm (i := 4) sc_terms_text.nd (pm_ifexp (pt_cmp om_lt (pm_var (i := 3)) pm_int (nomark _)) (pm_str (by decide +kernel)) (pm_str (by decide +kernel))))
    (pss_consm (ps_setm (i := 5) sc_terms_text.nd (pm_ifexp (pt_cmp (om_neG hr.u65) (pm_var (i := 1)) (pm_str (by decide +kernel)) (nomark _)) (pm_joined (.cons (pm_str (by decide +kernel)) (.cons (pm_fmt (pm_var (i := 4))) (.cons (pm_str (by decide +kernel)) .nil)))) (pm_ifexp (pt_cmp om_lt (pm_var (i := 3)) pm_int (nomark _)) (pm_str (by decide +kernel)) (pm_str (by decide +kernel)))))
    (pss_onem (ps_setm (i := 1) sc_terms_text.nd (pm_joined (.cons (pm_fmt (pm_var (i := 1))) (.cons (pm_fmt (pm_var (i := 5))) (.cons (pm_fmt (pm_call (cm_fnG (ok_term_text T) (hr.mono (by decide)) hg) (by rfl) T.g_term_text T.f_term_text.kp (pa_consm (pm_var (i := 2)) (pa_consm (pm_var (i := 3)) pa_nilm)))) .nil))))))))))
    (pss_onem (ps_retm (pm_orT (pm_var (i := 1)) (pm_one (pm_str (by decide +kernel))))))))
theorem sc_quotient_terms : FnScope ["one", "other", "found", "rest", "low", "room", "here", "times", "left", "exponent", "factor"] ["one", "other"] (defScope s_quotient_terms) := ⟨rfl, rfl, rfl, by decide +kernel, rfl, by decide +kernel, by decide +kernel⟩
def b_quotient_terms : MS := (sSeq (sPar 2 3 (mCons mDct0 (mCons (mCall fDict (mCons (mVar 0) mNil)) mNil)))
  (sSeq (sAsgS [(.nm 4), (.nm 5)] (mTup (mCons (mCall fMin1 (mCons (mVar 1) mNil)) (mCons (mBin (binO [(15, m_Row_sub)] bSub) (mCall fMax1 (mCons (mVar 0) mNil)) (mCall fMax1 (mCons (mVar 1) mNil))) mNil))))
  (sSeq (whileLoop (mTst cNeG (mVar 3) mDct0) (sSeq (sSet 6 (mCall fMin1 (mCons (mVar 3) mNil)))
  (sSeq (sIf (tOrM (mTst cNeG (mBin bModG (mBin (ixO [(15, m_Row_getitem)] ixG) (mVar 3) (mVar 6)) (mBin (ixO [(15, m_Row_getitem)] ixG) (mVar 1) (mVar 4))) (mC (.int 0))) (mTst cGt (mBin (binO [(15, m_Row_sub)] bSub) (mVar 6) (mVar 4)) (mVar 5))) (sRet (mC .non)) sSkip)
  (sSeq (sSet 7 (mBin bDivG (mBin (ixO [(15, m_Row_getitem)] ixG) (mVar 3) (mVar 6)) (mBin (ixO [(15, m_Row_getitem)] ixG) (mVar 1) (mVar 4))))
  (sSeq (sStI stI (mVar 2) (mBin (binO [(15, m_Row_sub)] bSub) (mVar 6) (mVar 4)) (mVar 7))
  (sSeq (sSet 8 (mCall m_summed_terms (mCons (mVar 3) (mCons (mLock (mVar 1) (mDc (mItM itDi (mVar 1)) (.tp [(.nm 9), (.nm 10)]) tYesM (mBin (binO [(15, m_Row_sub)] bSub) (mBin (binO [(15, m_Row_add)] bAdd) (mVar 9) (mVar 6)) (mVar 4)) (mVar 10) [9, 10])) (mCons (mUn (unO [(15, m_Row_neg)] uNeg) (mVar 7)) mNil)))))
  (sLock (mVar 8) (sSet 3 (mDc (mItM itDi (mVar 8)) (.tp [(.nm 9), (.nm 10)]) (mTst cNeG (mVar 10) (mC (.int 0))) (mVar 9) (mVar 10) [9, 10])))))))) 100000)
  (sRet (mVar 2)))))
def m_quotient_terms : MF := mkF 11 2 b_quotient_terms
theorem ok_quotient_terms (T : TT P G mg A) : FnG G P w mg base 11 A.a_quotient_terms m_quotient_terms :=
  fn_okG T.f_quotient_terms sc_quotient_terms rfl rfl (T.f_quotient_terms.binds fun _ _ _ _ _ _ us hl => match us, hl with | [_, _], _ => rfl) fun cdv Ar outer s H E hr hg =>
    (pss_consm (ps_parm (i := 2) (j := 3) (fun _ h => ps_par (by rfl) sc_quotient_terms.nd rfl rfl (by decide) rfl rfl h (by rfl)) (pa_consm pm_dct0 (pa_consm (pm_callT (cm_dict rfl) (by rfl) T.n_dict (by decide +kernel) (pa_consm (pm_var (i := 0)) pa_nilm)) pa_nilm)))
    (pss_consm (ps_asgS (by rfl) (pm_tup (pa_consm (pm_callB (cm_min1 rfl) (by rfl) T.n_min (by decide +kernel) (pa_consm (pm_var (i := 1)) pa_nilm)) (pa_consm (pm_bin (om_binO (.cons (boOk T.ca_Row T.bo_Row_sub (cm_fnG (ok_Row_sub T) (hr.mono (by decide)) hg)) .nil) om_sub) (pm_callB (cm_max1 rfl) (by rfl) T.n_max (by decide +kernel) (pa_consm (pm_var (i := 0)) pa_nilm)) (pm_callB (cm_max1 rfl) (by rfl) T.n_max (by decide +kernel) (pa_consm (pm_var (i := 1)) pa_nilm))) pa_nilm))) (pgs1 (pgn (i := 4) sc_quotient_terms.nd) (pgs1 (pgn (i := 5) sc_quotient_terms.nd) pgs0)))
    (pss_consm (ps_whilem 100000 (pt_cmp (om_neG hr.u65) (pm_var (i := 3)) pm_dct0 (nomark _)) (pss_consm (ps_setm (i := 6) sc_quotient_terms.nd (pm_callB (cm_min1 rfl) (by rfl) T.n_min (by decide +kernel) (pa_consm (pm_var (i := 3)) pa_nilm)))
    (pss_consm (ps_ifm (pt_w (pw_orm (pt_cmp (om_neG hr.u65) (pm_bin om_modG (pm_ixM (ixm_o (.cons (giOk T.ca_Row T.me_Row_getitem T.fi_Row_getitem (ok_Row_getitem T) (hr.mono (by decide)) hg) .nil) (ixm_g hr.u1 (fun _ _ => rfl))) (pm_var (i := 3)) (pm_var (i := 6))) (pm_ixM (ixm_o (.cons (giOk T.ca_Row T.me_Row_getitem T.fi_Row_getitem (ok_Row_getitem T) (hr.mono (by decide)) hg) .nil) (ixm_g hr.u1 (fun _ _ => rfl))) (pm_var (i := 1)) (pm_var (i := 4)))) pm_int (nomark _)) (pw_or1m (pt_cmp om_gt (pm_bin (om_binO (.cons (boOk T.ca_Row T.bo_Row_sub (cm_fnG (ok_Row_sub T) (hr.mono (by decide)) hg)) .nil) om_sub) (pm_var (i := 6)) (pm_var (i := 4))) (pm_var (i := 5)) (nomark _))))) (pss_onem (ps_retm pm_non)) pss_nilm)
    (pss_consm (ps_setm (i := 7) sc_quotient_terms.nd (pm_bin om_divG (pm_ixM (ixm_o (.cons (giOk T.ca_Row T.me_Row_getitem T.fi_Row_getitem (ok_Row_getitem T) (hr.mono (by decide)) hg) .nil) (ixm_g hr.u1 (fun _ _ => rfl))) (pm_var (i := 3)) (pm_var (i := 6))) (pm_ixM (ixm_o (.cons (giOk T.ca_Row T.me_Row_getitem T.fi_Row_getitem (ok_Row_getitem T) (hr.mono (by decide)) hg) .nil) (ixm_g hr.u1 (fun _ _ => rfl))) (pm_var (i := 1)) (pm_var (i := 4)))))
    (pss_consm (ps_stI (set_i hr.u1) (pm_var (i := 2)) (pm_bin (om_binO (.cons (boOk T.ca_Row T.bo_Row_sub (cm_fnG (ok_Row_sub T) (hr.mono (by decide)) hg)) .nil) om_sub) (pm_var (i := 6)) (pm_var (i := 4))) (pm_var (i := 7)))
    (pss_consm (ps_setm (i := 8) sc_quotient_terms.nd (pm_call (cm_fnG (ok_summed_terms T) (hr.mono (by decide)) hg) (by rfl) T.g_summed_terms T.f_summed_terms.kp (pa_consm (pm_var (i := 3)) (pa_consm (pm_lock (md := (mVar 1)) (pm_dc (own := [("exponent", 9), ("factor", 10)]) (by rfl) sc_quotient_terms.nd (pi_itemsm (pm_var (i := 1))) (blkOk_by (own := [("exponent", 9), ("factor", 10)]) (N := ["one", "other", "found", "rest", "low", "room", "here", "times", "left", "exponent", "factor"]) (sc := defScope s_quotient_terms) (by decide +kernel)) (fun _ _ _ _ _ => (pgt (by rfl) (pgs1 (pgn (i := 9) sc_quotient_terms.nd) (pgs1 (pgn (i := 10) sc_quotient_terms.nd) pgs0)))) (fun _ _ _ _ _ => pts_nilm) (fun _ _ _ _ _ => (pm_bin (om_binO (.cons (boOk T.ca_Row T.bo_Row_sub (cm_fnG (ok_Row_sub T) (hr.mono (by decide)) hg)) .nil) om_sub) (pm_bin (om_binO (.cons (boOk T.ca_Row T.bo_Row_add (cm_fnG (ok_Row_add T) (hr.mono (by decide)) hg)) .nil) om_add) (pm_var (i := 9)) (pm_var (i := 6))) (pm_var (i := 4)))) (fun _ _ _ _ _ => (pm_var (i := 10))))) (pa_consm (pm_un (um_negO (.cons (ngOk T.ca_Row T.me_Row_neg (cm_fnG (ok_Row_neg T) (hr.mono (by decide)) hg)) .nil) um_neg) (pm_var (i := 7))) pa_nilm)))))
    (pss_onem (ps_lockm (md := (mVar 8)) (ps_setDcm (i := 3) (own := [("exponent", 9), ("factor", 10)]) (by rfl) sc_quotient_terms.nd (pi_itemsm (pm_var (i := 8))) (blkOk_by (own := [("exponent", 9), ("factor", 10)]) (N := ["one", "other", "found", "rest", "low", "room", "here", "times", "left", "exponent", "factor"]) (sc := defScope s_quotient_terms) (by decide +kernel)) (fun _ _ _ _ _ => (pgt (by rfl) (pgs1 (pgn (i := 9) sc_quotient_terms.nd) (pgs1 (pgn (i := 10) sc_quotient_terms.nd) pgs0)))) (fun _ _ _ _ _ => (pts_onem (pt_cmp (om_neG hr.u65) (pm_var (i := 10)) pm_int (nomark _)))) (fun _ _ _ _ _ => (pm_var (i := 9))) (fun _ _ _ _ _ => (pm_var (i := 10))))))))))))
    (pss_onem (ps_retm (pm_var (i := 2)))))))
theorem sc_require_row : FnScope ["value"] ["value"] (defScope s_require_row) := ⟨rfl, rfl, rfl, by decide +kernel, rfl, by decide +kernel, by decide +kernel⟩
def b_require_row : MS := (sIf (tNotM (mTru (mCall (fIsE kit kix) (mCons (mVar 0) (mCons (mC (.cls 15)) mNil))))) (sRaiseP 11) sSkip)
def m_require_row : MF := mkF 1 1 b_require_row
theorem ok_require_row (T : TT P G mg A) : FnG G P w mg base 1 A.a_require_row m_require_row :=
  fn_okG T.f_require_row sc_require_row rfl rfl (T.f_require_row.binds fun _ _ _ _ _ _ us hl => match us, hl with | [_], _ => rfl) fun cdv Ar outer s H E hr hg =>
    (pss_onem (ps_ifm (pt_notm (pt_tru (pm_callB (cm_ise T.ko T.kx) (by rfl) T.n_isinstance (by decide +kernel) (pa_consm (pm_var (i := 0)) (pa_consm (pm_clsO (by rfl) T.g_Row T.ca_Row) pa_nilm))))) (pss_onem (ps_raiseP rfl T.ca_InvalidRow T.kp_InvalidRow (by rfl) T.g_InvalidRow)) pss_nilm))
theorem sc_Ldice : FnScope ["_law_script", "_law_spot", "_law_cell", "_law_left"] ["_law_script", "_law_spot"] (defScope s_Ldice) := ⟨rfl, rfl, rfl, by decide +kernel, rfl, by decide +kernel, by decide +kernel⟩
def b_Ldice : MS := (sSeq (sSet 2 (mIf (mTst cLt (mVar 1) (mCall fLen (mCons (mVar 0) mNil))) (mCall fInt (mCons (mBin ixD (mVar 0) (mVar 1)) mNil)) (mBin bAdd (mBin bMul (mC (.int 67)) (mVar 1)) (mC (.int 19)))))
  (sSeq (sSet 3 (mBin bMod (mCall fMax2 (mCons (mC (.int 0)) (mCons (mBin bSub (mCall fAbs (mCons (mVar 2) mNil)) (mBin bPow (mC (.int 10)) (mC (.int 16)))) mNil))) (mBin bMul (mBin bPow (mC (.int 10)) (mC (.int 60))) (mBin bPow (mC (.int 10)) (mC (.int 60))))))
  (sRet (mLst (mCons (mVar 3) (mCons (mBin bAdd (mBin bAdd (mBin bAdd (mBin bMul (mBin bMod (mCall fAbs (mCons (mVar 2) mNil)) (mC (.int 1152921504606846817))) (mC (.int 47))) (mBin bMul (mC (.int 821)) (mVar 1))) (mBin bMul (mC (.int 31)) (mCall fInt (mCons (mBin cLt (mVar 2) (mC (.int 0))) mNil)))) (mC (.int 3))) (mCons (mC (.int 0)) mNil)))))))
def m_Ldice : MF := mkF 4 2 b_Ldice
theorem ok0_Ldice (T : TT P G mg A) : FnM G P w mg base 1 A.a_Ldice m_Ldice :=
  fn_ok T.f_Ldice sc_Ldice rfl rfl (T.f_Ldice.binds fun _ _ _ _ _ _ us hl => match us, hl with | [_, _], _ => rfl) fun cdv Ar outer s H E hr =>
    (pss_consm (ps_setm (i := 2) sc_Ldice.nd (pm_ifexp (pt_cmp om_lt (pm_var (i := 1)) (pm_callB cm_len (by rfl) T.n_len (by decide +kernel) (pa_consm (pm_var (i := 0)) pa_nilm)) (nomark _)) (pm_callT cm_int (by rfl) T.n_int (by decide +kernel) (pa_consm (pm_ix (pm_var (i := 0)) (pm_var (i := 1))) pa_nilm)) (pm_bin om_add (pm_bin om_mul pm_int (pm_var (i := 1))) pm_int)))
    (pss_consm (ps_setm (i := 3) sc_Ldice.nd (pm_bin om_mod (pm_callB (cm_max2 rfl) (by rfl) T.n_max (by decide +kernel) (pa_consm pm_int (pa_consm (pm_bin om_sub (pm_callB cm_abs (by rfl) T.n_abs (by decide +kernel) (pa_consm (pm_var (i := 2)) pa_nilm)) (pm_bin om_pow pm_int pm_int)) pa_nilm))) (pm_bin om_mul (pm_bin om_pow pm_int pm_int) (pm_bin om_pow pm_int pm_int))))
    (pss_onem (ps_retm (pm_lst (pa_consm (pm_var (i := 3)) (pa_consm (pm_bin om_add (pm_bin om_add (pm_bin om_add (pm_bin om_mul (pm_bin om_mod (pm_callB cm_abs (by rfl) T.n_abs (by decide +kernel) (pa_consm (pm_var (i := 2)) pa_nilm)) pm_int) pm_int) (pm_bin om_mul pm_int (pm_var (i := 1)))) (pm_bin om_mul pm_int (pm_callT cm_int (by rfl) T.n_int (by decide +kernel) (pa_consm (pm_cmp om_lt (pm_var (i := 2)) pm_int (nomark _)) pa_nilm)))) pm_int) (pa_consm pm_int pa_nilm))))))))
theorem ok_Ldice (T : TT P G mg A) : FnG G P w mg base 1 A.a_Ldice mDice := (fn_dice (ok0_Ldice T) run_dice).g
theorem sc_Lroll : FnScope ["_law_dice_here", "_law_total", "_law_found", "_law_one", "_law_two"] ["_law_dice_here", "_law_total"] (defScope s_Lroll) := ⟨rfl, rfl, rfl, by decide +kernel, rfl, by decide +kernel, by decide +kernel⟩
def b_Lroll : MS := (sSeq (sIf (mTst cGt (mBin ixD (mVar 0) (mC (.int 0))) (mC (.int 0))) (sSeq (sSet 2 (mBin bMod (mCall fInt (mCons (mBin ixD (mVar 0) (mC (.int 0))) mNil)) (mVar 1)))
  (sSeq (sStL (mVar 0) (mC (.int 0)) (mBin bDiv (mBin ixD (mVar 0) (mC (.int 0))) (mVar 1)))
  (sRet (mVar 2)))) sSkip)
  (sSeq (sStL (mVar 0) (mC (.int 2)) (mBin bAdd (mBin ixD (mVar 0) (mC (.int 2))) (mC (.int 1))))
  (sSeq (sSet 3 (mBin bMod (mCall fInt (mCons (mBin bAdd (mBin ixD (mVar 0) (mC (.int 1))) (mBin bMul (mC (.int 49979719)) (mBin ixD (mVar 0) (mC (.int 2))))) mNil)) (mC (.int 2305843009213693613))))
  (sSeq (sSet 4 (mBin bAdd (mBin bMul (mBin bMod (mCall fInt (mCons (mBin bAdd (mBin bMul (mVar 3) (mVar 3)) (mBin bMul (mC (.int 97)) (mBin ixD (mVar 0) (mC (.int 2))))) mNil)) (mC (.int 2305843009213693907))) (mC (.int 7368797))) (mVar 3)))
  (sRet (mBin bMod (mCall fInt (mCons (mBin bDiv (mVar 4) (mC (.int 65536))) mNil)) (mVar 1)))))))
def m_Lroll : MF := mkF 5 2 b_Lroll
theorem ok0_Lroll (T : TT P G mg A) : FnM G P w mg base 1 A.a_Lroll m_Lroll :=
  fn_ok T.f_Lroll sc_Lroll rfl rfl (T.f_Lroll.binds fun _ _ _ _ _ _ us hl => match us, hl with | [_, _], _ => rfl) fun cdv Ar outer s H E hr =>
    (pss_consm (ps_ifm (pt_cmp om_gt (pm_ix (pm_var (i := 0)) pm_int) pm_int (nomark _)) (pss_consm (ps_setm (i := 2) sc_Lroll.nd (pm_bin om_mod (pm_callT cm_int (by rfl) T.n_int (by decide +kernel) (pa_consm (pm_ix (pm_var (i := 0)) pm_int) pa_nilm)) (pm_var (i := 1))))
    (pss_consm (ps_stL (pm_var (i := 0)) pm_int (pm_bin om_div (pm_ix (pm_var (i := 0)) pm_int) (pm_var (i := 1))))
    (pss_onem (ps_retm (pm_var (i := 2)))))) pss_nilm)
    (pss_consm (ps_stL (pm_var (i := 0)) pm_int (pm_bin om_add (pm_ix (pm_var (i := 0)) pm_int) pm_int))
    (pss_consm (ps_setm (i := 3) sc_Lroll.nd (pm_bin om_mod (pm_callT cm_int (by rfl) T.n_int (by decide +kernel) (pa_consm (pm_bin om_add (pm_ix (pm_var (i := 0)) pm_int) (pm_bin om_mul pm_int (pm_ix (pm_var (i := 0)) pm_int))) pa_nilm)) pm_int))
    (pss_consm (ps_setm (i := 4) sc_Lroll.nd (pm_bin om_add (pm_bin om_mul (pm_bin om_mod (pm_callT cm_int (by rfl) T.n_int (by decide +kernel) (pa_consm (pm_bin om_add (pm_bin om_mul (pm_var (i := 3)) (pm_var (i := 3))) (pm_bin om_mul pm_int (pm_ix (pm_var (i := 0)) pm_int))) pa_nilm)) pm_int) pm_int) (pm_var (i := 3))))
    (pss_onem (ps_retm (pm_bin om_mod (pm_callT cm_int (by rfl) T.n_int (by decide +kernel) (pa_consm (pm_bin om_div (pm_var (i := 4)) pm_int) pa_nilm)) (pm_var (i := 1)))))))))
theorem ok_Lroll (T : TT P G mg A) : FnG G P w mg base 1 A.a_Lroll mRoll := (fn_roll (ok0_Lroll T) run_roll).g
theorem sc_Lpick : FnScope ["_law_dice_here", "_law_items"] ["_law_dice_here", "_law_items"] (defScope s_Lpick) := ⟨rfl, rfl, rfl, by decide +kernel, rfl, by decide +kernel, by decide +kernel⟩
def b_Lpick : MS := (sRet (mBin (ixO [(15, m_Row_getitem)] ixG) (mVar 1) (mCall mRoll (mCons (mVar 0) (mCons (mCall fLenG (mCons (mVar 1) mNil)) mNil)))))
def m_Lpick : MF := mkF 2 2 b_Lpick
theorem ok_Lpick (T : TT P G mg A) : FnG G P w mg base 5 A.a_Lpick m_Lpick :=
  fn_okG T.f_Lpick sc_Lpick rfl rfl (T.f_Lpick.binds fun _ _ _ _ _ _ us hl => match us, hl with | [_, _], _ => rfl) fun cdv Ar outer s H E hr hg =>
    (pss_onem (ps_retm (pm_ixM (ixm_o (.cons (giOk T.ca_Row T.me_Row_getitem T.fi_Row_getitem (ok_Row_getitem T) (hr.mono (by decide)) hg) .nil) (ixm_g hr.u1 (fun _ _ => rfl))) (pm_var (i := 1)) (pm_call (cm_fnG (ok_Lroll T) (hr.mono (by decide)) hg) (by rfl) T.g_Lroll T.f_Lroll.kp (pa_consm (pm_var (i := 0)) (pa_consm (pm_callB cm_lenG (by rfl) T.n_len (by decide +kernel) (pa_consm (pm_var (i := 1)) pa_nilm)) pa_nilm))))))
theorem sc_Lrow : FnScope ["_law_terms", "_law_exponent"] ["_law_terms"] (defScope s_Lrow) := ⟨rfl, rfl, rfl, by decide +kernel, rfl, by decide +kernel, by decide +kernel⟩
def b_Lrow : MS := (sRet (mCall fDict (mCons (mLc (mIt (mCall fSorted (mCons (mVar 0) mNil))) (.nm 1) (mTst cNeG (mBin (ixO [(15, m_Row_getitem)] ixG) (mVar 0) (mVar 1)) (mC (.int 0))) (mTup (mCons (mVar 1) (mCons (mBin (ixO [(15, m_Row_getitem)] ixG) (mVar 0) (mVar 1)) mNil))) [1]) mNil)))
def m_Lrow : MF := mkF 2 1 b_Lrow
theorem ok_Lrow (T : TT P G mg A) : FnG G P w mg base 5 A.a_Lrow m_Lrow :=
  fn_okG T.f_Lrow sc_Lrow rfl rfl (T.f_Lrow.binds fun _ _ _ _ _ _ us hl => match us, hl with | [_], _ => rfl) fun cdv Ar outer s H E hr hg =>
    (pss_onem (ps_retm (pm_callT (cm_dict rfl) (by rfl) T.n_dict (by decide +kernel) (pa_consm (pm_lc (own := [("_law_exponent", 1)]) (by rfl) sc_Lrow.nd (pi_anym (pm_callB (cm_sorted rfl) (by rfl) T.n_sorted (by decide +kernel) (pa_consm (pm_var (i := 0)) pa_nilm))) (blkOk_by (own := [("_law_exponent", 1)]) (N := ["_law_terms", "_law_exponent"]) (sc := defScope s_Lrow) (by decide +kernel)) (fun _ _ _ _ _ => (pgn (i := 1) sc_Lrow.nd)) (fun _ _ _ _ _ => (pts_onem (pt_cmp (om_neG hr.u65) (pm_ixM (ixm_o (.cons (giOk T.ca_Row T.me_Row_getitem T.fi_Row_getitem (ok_Row_getitem T) (hr.mono (by decide)) hg) .nil) (ixm_g hr.u1 (fun _ _ => rfl))) (pm_var (i := 0)) (pm_var (i := 1))) pm_int (nomark _)))) (fun _ _ _ _ _ => (pm_tup (pa_consm (pm_var (i := 1)) (pa_consm (pm_ixM (ixm_o (.cons (giOk T.ca_Row T.me_Row_getitem T.fi_Row_getitem (ok_Row_getitem T) (hr.mono (by decide)) hg) .nil) (ixm_g hr.u1 (fun _ _ => rfl))) (pm_var (i := 0)) (pm_var (i := 1))) pa_nilm))))) pa_nilm))))
theorem sc_Ladded : FnScope ["_law_one", "_law_other", "_law_times_here", "_law_found", "_law_exponent"] ["_law_one", "_law_other", "_law_times_here"] (defScope s_Ladded) := ⟨rfl, rfl, rfl, by decide +kernel, rfl, by decide +kernel, by decide +kernel⟩
def b_Ladded : MS := (sSeq (sSet 3 (mCall fDict (mCons (mUn fItems (mVar 0)) mNil)))
  (sSeq (sLock (mVar 1) (sFor (mIt (mVar 1)) (.nm 4) (sStI stI (mVar 3) (mVar 4) (mBin (binO [(15, m_Row_add)] bAdd) (mGet2 (mVar 3) (mVar 4) (mC (.int 0))) (mBin (binO [(15, m_Row_mul)] bMul) (mVar 2) (mBin (ixO [(15, m_Row_getitem)] ixG) (mVar 1) (mVar 4)))))))
  (sRet (mCall m_Lrow (mCons (mVar 3) mNil)))))
def m_Ladded : MF := mkF 5 3 b_Ladded
theorem ok_Ladded (T : TT P G mg A) : FnG G P w mg base 11 A.a_Ladded m_Ladded :=
  fn_okG T.f_Ladded sc_Ladded rfl rfl (T.f_Ladded.binds fun _ _ _ _ _ _ us hl => match us, hl with | [_, _, _], _ => rfl) fun cdv Ar outer s H E hr hg =>
    (pss_consm (ps_setm (i := 3) sc_Ladded.nd (pm_callT (cm_dict rfl) (by rfl) T.n_dict (by decide +kernel) (pa_consm (pm_listItems rfl (pm_var (i := 0)) (by rfl) T.n_list) pa_nilm)))
    (pss_consm (ps_lockm (md := (mVar 1)) (ps_form (by rfl) (pi_anym (pm_var (i := 1))) (pgn (i := 4) sc_Ladded.nd) (pss_onem (ps_stI (set_i hr.u1) (pm_var (i := 3)) (pm_var (i := 4)) (pm_bin (om_binO (.cons (boOk T.ca_Row T.bo_Row_add (cm_fnG (ok_Row_add T) (hr.mono (by decide)) hg)) .nil) om_add) (pm_get2 hr.u1 (pm_var (i := 3)) (pm_var (i := 4)) pm_int ⟨by rfl, by rfl, by rfl, by rfl⟩) (pm_bin (om_binO (.cons (boOk T.ca_Row T.bo_Row_mul (cm_fnG (ok_Row_mul T) (hr.mono (by decide)) hg)) .nil) om_mul) (pm_var (i := 2)) (pm_ixM (ixm_o (.cons (giOk T.ca_Row T.me_Row_getitem T.fi_Row_getitem (ok_Row_getitem T) (hr.mono (by decide)) hg) .nil) (ixm_g hr.u1 (fun _ _ => rfl))) (pm_var (i := 1)) (pm_var (i := 4)))))))))
    (pss_onem (ps_retm (pm_call (cm_fnG (ok_Lrow T) (hr.mono (by decide)) hg) (by rfl) T.g_Lrow T.f_Lrow.kp (pa_consm (pm_var (i := 3)) pa_nilm))))))
theorem sc_Ltimes : FnScope ["_law_one", "_law_other", "_law_found", "_law_first", "_law_second"] ["_law_one", "_law_other"] (defScope s_Ltimes) := ⟨rfl, rfl, rfl, by decide +kernel, rfl, by decide +kernel, by decide +kernel⟩
def b_Ltimes : MS := (sSeq (sSet 2 mDct0)
  (sSeq (sLock (mVar 0) (sFor (mIt (mVar 0)) (.nm 3) (sLock (mVar 1) (sFor (mIt (mVar 1)) (.nm 4) (sStI stI (mVar 2) (mBin (binO [(15, m_Row_add)] bAdd) (mVar 3) (mVar 4)) (mBin (binO [(15, m_Row_add)] bAdd) (mGet2 (mVar 2) (mBin (binO [(15, m_Row_add)] bAdd) (mVar 3) (mVar 4)) (mC (.int 0))) (mBin (binO [(15, m_Row_mul)] bMul) (mBin (ixO [(15, m_Row_getitem)] ixG) (mVar 0) (mVar 3)) (mBin (ixO [(15, m_Row_getitem)] ixG) (mVar 1) (mVar 4)))))))))
  (sRet (mCall m_Lrow (mCons (mVar 2) mNil)))))
def m_Ltimes : MF := mkF 5 2 b_Ltimes
theorem ok_Ltimes (T : TT P G mg A) : FnG G P w mg base 11 A.a_Ltimes m_Ltimes :=
  fn_okG T.f_Ltimes sc_Ltimes rfl rfl (T.f_Ltimes.binds fun _ _ _ _ _ _ us hl => match us, hl with | [_, _], _ => rfl) fun cdv Ar outer s H E hr hg =>
    (pss_consm (ps_setm (i := 2) sc_Ltimes.nd pm_dct0)
    (pss_consm (ps_lockm (md := (mVar 0)) (ps_form (by rfl) (pi_anym (pm_var (i := 0))) (pgn (i := 3) sc_Ltimes.nd) (pss_onem (ps_lockm (md := (mVar 1)) (ps_form (by rfl) (pi_anym (pm_var (i := 1))) (pgn (i := 4) sc_Ltimes.nd) (pss_onem (ps_stI (set_i hr.u1) (pm_var (i := 2)) (pm_bin (om_binO (.cons (boOk T.ca_Row T.bo_Row_add (cm_fnG (ok_Row_add T) (hr.mono (by decide)) hg)) .nil) om_add) (pm_var (i := 3)) (pm_var (i := 4))) (pm_bin (om_binO (.cons (boOk T.ca_Row T.bo_Row_add (cm_fnG (ok_Row_add T) (hr.mono (by decide)) hg)) .nil) om_add) (pm_get2 hr.u1 (pm_var (i := 2)) (pm_bin (om_binO (.cons (boOk T.ca_Row T.bo_Row_add (cm_fnG (ok_Row_add T) (hr.mono (by decide)) hg)) .nil) om_add) (pm_var (i := 3)) (pm_var (i := 4))) pm_int ⟨by rfl, by rfl, by rfl, by rfl⟩) (pm_bin (om_binO (.cons (boOk T.ca_Row T.bo_Row_mul (cm_fnG (ok_Row_mul T) (hr.mono (by decide)) hg)) .nil) om_mul) (pm_ixM (ixm_o (.cons (giOk T.ca_Row T.me_Row_getitem T.fi_Row_getitem (ok_Row_getitem T) (hr.mono (by decide)) hg) .nil) (ixm_g hr.u1 (fun _ _ => rfl))) (pm_var (i := 0)) (pm_var (i := 3))) (pm_ixM (ixm_o (.cons (giOk T.ca_Row T.me_Row_getitem T.fi_Row_getitem (ok_Row_getitem T) (hr.mono (by decide)) hg) .nil) (ixm_g hr.u1 (fun _ _ => rfl))) (pm_var (i := 1)) (pm_var (i := 4))))))))))))
    (pss_onem (ps_retm (pm_call (cm_fnG (ok_Lrow T) (hr.mono (by decide)) hg) (by rfl) T.g_Lrow T.f_Lrow.kp (pa_consm (pm_var (i := 2)) pa_nilm))))))
theorem sc_Lraised : FnScope ["_law_row_here", "_law_times_here", "_law_found", "_law_turn"] ["_law_row_here", "_law_times_here"] (defScope s_Lraised) := ⟨rfl, rfl, rfl, by decide +kernel, rfl, by decide +kernel, by decide +kernel⟩
def b_Lraised : MS := (sSeq (sSet 2 (mDisp [((mC (.int 0)), (mC (.int 1)))]))
  (sSeq (sFor (mIts itRng1 (mCons (mVar 1) mNil)) (.nm 3) (sSet 2 (mCall m_Ltimes (mCons (mVar 2) (mCons (mVar 0) mNil)))))
  (sRet (mVar 2))))
def m_Lraised : MF := mkF 4 2 b_Lraised
theorem ok_Lraised (T : TT P G mg A) : FnG G P w mg base 12 A.a_Lraised m_Lraised :=
  fn_okG T.f_Lraised sc_Lraised rfl rfl (T.f_Lraised.binds fun _ _ _ _ _ _ us hl => match us, hl with | [_, _], _ => rfl) fun cdv Ar outer s H E hr hg =>
    (pss_consm (ps_setm (i := 2) sc_Lraised.nd (pm_disp (.cons pm_int pm_int .nil)))
    (pss_consm (ps_form (by rfl) (pi_range1m (by rfl) T.n_range (pa_consm (pm_var (i := 1)) pa_nilm)) (pgn (i := 3) sc_Lraised.nd) (pss_onem (ps_setm (i := 2) sc_Lraised.nd (pm_call (cm_fnG (ok_Ltimes T) (hr.mono (by decide)) hg) (by rfl) T.g_Ltimes T.f_Ltimes.kp (pa_consm (pm_var (i := 2)) (pa_consm (pm_var (i := 0)) pa_nilm))))))
    (pss_onem (ps_retm (pm_var (i := 2))))))
theorem sc_Lcircle : FnScope [] [] (defScope s_Lcircle) := ⟨rfl, rfl, rfl, by decide +kernel, rfl, by decide +kernel, by decide +kernel⟩
def b_Lcircle : MS := (sRet (mDisp [((mUn uNeg (mC (.int 2))), (mUn uNeg (mC (.int 1)))), ((mC (.int 2)), (mUn uNeg (mC (.int 1))))]))
def m_Lcircle : MF := mkF 0 0 b_Lcircle
theorem ok_Lcircle (T : TT P G mg A) : FnG G P w mg base 1 A.a_Lcircle m_Lcircle :=
  fn_okG T.f_Lcircle sc_Lcircle rfl rfl (T.f_Lcircle.binds fun _ _ _ _ _ _ us hl => match us, hl with | [], _ => rfl) fun cdv Ar outer s H E hr hg =>
    (pss_onem (ps_retm (pm_disp (.cons (pm_un um_neg pm_int) (pm_un um_neg pm_int) (.cons pm_int (pm_un um_neg pm_int) .nil)))))
theorem sc_Row_terms : FnScope ["self"] ["self"] (defScope s_Row_terms) := ⟨rfl, rfl, rfl, by decide +kernel, rfl, by decide +kernel, by decide +kernel⟩
def b_Row_terms : MS := (sRet (mCall fDict (mCons (mUn (atD [(15, .slot 0)]) (mVar 0)) mNil)))
def m_Row_terms : MF := mkF 1 1 b_Row_terms
theorem ok_Row_terms (T : TT P G mg A) : FnG G P w mg base 1 A.a_Row_terms m_Row_terms :=
  fn_okG T.f_Row_terms sc_Row_terms rfl rfl (T.f_Row_terms.binds fun _ _ _ _ _ _ us hl => match us, hl with | [_], _ => rfl) fun cdv Ar outer s H E hr hg =>
    (pss_onem (ps_retm (pm_callT (cm_dict rfl) (by rfl) T.n_dict (by decide +kernel) (pa_consm (pm_at (.cons (atSl T.ca_Row T.sc_Row.1 T.s1_Row_own_terms) .nil) (pm_var (i := 0))) pa_nilm))))
theorem sc_Lis_row : FnScope ["_law_told", "_law_terms"] ["_law_told", "_law_terms"] (defScope s_Lis_row) := ⟨rfl, rfl, rfl, by decide +kernel, rfl, by decide +kernel, by decide +kernel⟩
def b_Lis_row : MS := (sRet (mAndT (mCall (fIsE kit kix) (mCons (mVar 0) (mCons (mC (.cls 15)) mNil))) (mBin (eqO [(15, m_Row_eq)] eqts cEqG) (mUn fItems (mUn (atD [(15, .prop m_Row_terms)]) (mVar 0))) (mUn fItems (mCall m_Lrow (mCons (mVar 1) mNil))))))
def m_Lis_row : MF := mkF 2 2 b_Lis_row
theorem ok_Lis_row (T : TT P G mg A) : FnG G P w mg base 6 A.a_Lis_row m_Lis_row :=
  fn_okG T.f_Lis_row sc_Lis_row rfl rfl (T.f_Lis_row.binds fun _ _ _ _ _ _ us hl => match us, hl with | [_, _], _ => rfl) fun cdv Ar outer s H E hr hg =>
    (pss_onem (ps_retm (pm_andT (pm_callB (cm_ise T.ko T.kx) (by rfl) T.n_isinstance (by decide +kernel) (pa_consm (pm_var (i := 0)) (pa_consm (pm_clsO (by rfl) T.g_Row T.ca_Row) pa_nilm))) (pm_one (pm_cmp (om_eqO T.ko.bt (.cons (eqOk T.ca_Row T.eq_Row (ok_Row_eq T) (hr.mono (by decide)) hg) .nil) (om_eqG hr.u65)) (pm_listItems rfl (pm_at (.cons (atPr T.ca_Row T.sc_Row.1 T.pr_Row_terms (ok_Row_terms T) (hr.mono (by decide)) hg) .nil) (pm_var (i := 0))) (by rfl) T.n_list) (pm_listItems rfl (pm_call (cm_fnG (ok_Lrow T) (hr.mono (by decide)) hg) (by rfl) T.g_Lrow T.f_Lrow.kp (pa_consm (pm_var (i := 1)) pa_nilm)) (by rfl) T.n_list) (nomark _))))))
theorem sc_Ldrawn_row : FnScope ["_law_dice_here", "_law_terms", "_law_most", "_law_found", "_law_turn", "_law_number"] ["_law_dice_here", "_law_terms", "_law_most"] (defScope s_Ldrawn_row) := ⟨rfl, rfl, rfl, by decide +kernel, rfl, by decide +kernel, by decide +kernel⟩
def b_Ldrawn_row : MS := (sSeq (sSet 3 mDct0)
  (sSeq (sFor (mIts itRng1 (mCons (mCall mRoll (mCons (mVar 0) (mCons (mBin (binO [(15, m_Row_add)] bAdd) (mVar 1) (mC (.int 1))) mNil))) mNil)) (.nm 4) (sSeq (sSet 5 (mIf (mTst cGt (mCall mRoll (mCons (mVar 0) (mCons (mC (.int 5)) mNil))) (mC (.int 0))) (mBin (binO [(15, m_Row_sub)] bSub) (mCall mRoll (mCons (mVar 0) (mCons (mC (.int 19)) mNil))) (mC (.int 9))) (mBin (binO [(15, m_Row_sub)] bSub) (mBin (binO [(15, m_Row_mul)] bMul) (mCall mRoll (mCons (mVar 0) (mCons (mBin bPow (mC (.int 10)) (mC (.int 12))) mNil))) (mBin bPow (mC (.int 10)) (mC (.int 9)))) (mC (.int 7)))))
  (sStI stI (mVar 3) (mBin (binO [(15, m_Row_sub)] bSub) (mCall mRoll (mCons (mVar 0) (mCons (mBin (binO [(15, m_Row_add)] bAdd) (mBin (binO [(15, m_Row_mul)] bMul) (mC (.int 2)) (mVar 2)) (mC (.int 1))) mNil))) (mVar 2)) (mVar 5))))
  (sRet (mCall m_Lrow (mCons (mVar 3) mNil)))))
def m_Ldrawn_row : MF := mkF 6 3 b_Ldrawn_row
theorem ok_Ldrawn_row (T : TT P G mg A) : FnG G P w mg base 11 A.a_Ldrawn_row m_Ldrawn_row :=
  fn_okG T.f_Ldrawn_row sc_Ldrawn_row rfl rfl (T.f_Ldrawn_row.binds fun _ _ _ _ _ _ us hl => match us, hl with | [_, _, _], _ => rfl) fun cdv Ar outer s H E hr hg =>
    (pss_consm (ps_setm (i := 3) sc_Ldrawn_row.nd pm_dct0)
    (pss_consm (ps_form (by rfl) (pi_range1m (by rfl) T.n_range (pa_consm (pm_call (cm_fnG (ok_Lroll T) (hr.mono (by decide)) hg) (by rfl) T.g_Lroll T.f_Lroll.kp (pa_consm (pm_var (i := 0)) (pa_consm (pm_bin (om_binO (.cons (boOk T.ca_Row T.bo_Row_add (cm_fnG (ok_Row_add T) (hr.mono (by decide)) hg)) .nil) om_add) (pm_var (i := 1)) pm_int) pa_nilm))) pa_nilm)) (pgn (i := 4) sc_Ldrawn_row.nd) (pss_consm (ps_setm (i := 5) sc_Ldrawn_row.nd (pm_ifexp (pt_cmp om_gt (pm_call (cm_fnG (ok_Lroll T) (hr.mono (by decide)) hg) (by rfl) T.g_Lroll T.f_Lroll.kp (pa_consm (pm_var (i := 0)) (pa_consm pm_int pa_nilm))) pm_int (nomark _)) (pm_bin (om_binO (.cons (boOk T.ca_Row T.bo_Row_sub (cm_fnG (ok_Row_sub T) (hr.mono (by decide)) hg)) .nil) om_sub) (pm_call (cm_fnG (ok_Lroll T) (hr.mono (by decide)) hg) (by rfl) T.g_Lroll T.f_Lroll.kp (pa_consm (pm_var (i := 0)) (pa_consm pm_int pa_nilm))) pm_int) (pm_bin (om_binO (.cons (boOk T.ca_Row T.bo_Row_sub (cm_fnG (ok_Row_sub T) (hr.mono (by decide)) hg)) .nil) om_sub) (pm_bin (om_binO (.cons (boOk T.ca_Row T.bo_Row_mul (cm_fnG (ok_Row_mul T) (hr.mono (by decide)) hg)) .nil) om_mul) (pm_call (cm_fnG (ok_Lroll T) (hr.mono (by decide)) hg) (by rfl) T.g_Lroll T.f_Lroll.kp (pa_consm (pm_var (i := 0)) (pa_consm (pm_bin om_pow pm_int pm_int) pa_nilm))) (pm_bin om_pow pm_int pm_int)) pm_int)))
    (pss_onem (ps_stI (set_i hr.u1) (pm_var (i := 3)) (pm_bin (om_binO (.cons (boOk T.ca_Row T.bo_Row_sub (cm_fnG (ok_Row_sub T) (hr.mono (by decide)) hg)) .nil) om_sub) (pm_call (cm_fnG (ok_Lroll T) (hr.mono (by decide)) hg) (by rfl) T.g_Lroll T.f_Lroll.kp (pa_consm (pm_var (i := 0)) (pa_consm (pm_bin (om_binO (.cons (boOk T.ca_Row T.bo_Row_add (cm_fnG (ok_Row_add T) (hr.mono (by decide)) hg)) .nil) om_add) (pm_bin (om_binO (.cons (boOk T.ca_Row T.bo_Row_mul (cm_fnG (ok_Row_mul T) (hr.mono (by decide)) hg)) .nil) om_mul) pm_int (pm_var (i := 2))) pm_int) pa_nilm))) (pm_var (i := 2))) (pm_var (i := 5))))))
    (pss_onem (ps_retm (pm_call (cm_fnG (ok_Lrow T) (hr.mono (by decide)) hg) (by rfl) T.g_Lrow T.f_Lrow.kp (pa_consm (pm_var (i := 3)) pa_nilm))))))
theorem sc_Lquotient : FnScope ["_law_one", "_law_other", "_law_left", "_law_found", "_law_low", "_law_high", "_law_turn", "_law_at"] ["_law_one", "_law_other"] (defScope s_Lquotient) := ⟨rfl, rfl, rfl, by decide +kernel, rfl, by decide +kernel, by decide +kernel⟩
def b_Lquotient : MS := (sSeq (sPar 2 3 (mCons (mCall fDict (mCons (mUn fItems (mVar 0)) mNil)) (mCons mDct0 mNil)))
  (sSeq (sPar 4 5 (mCons (mCall fMin1 (mCons (mVar 1) mNil)) (mCons (mCall fMax1 (mCons (mVar 1) mNil)) mNil)))
  (sSeq (sFor (mIts itRng1 (mCons (mC (.int 200)) mNil)) (.nm 6) (sSeq (sIf (mTst cEqG (mVar 2) mDct0) (sRet (mCall m_Lrow (mCons (mVar 3) mNil))) sSkip)
  (sSeq (sSet 7 (mCall fMin1 (mCons (mVar 2) mNil)))
  (sSeq (sIf (tOrM (mTst cGt (mBin (binO [(15, m_Row_add)] bAdd) (mBin (binO [(15, m_Row_sub)] bSub) (mVar 7) (mVar 4)) (mVar 5)) (mCall fMax1 (mCons (mVar 0) mNil))) (mTst cNeG (mBin bModG (mCall fInt (mCons (mBin (ixO [(15, m_Row_getitem)] ixG) (mVar 2) (mVar 7)) mNil)) (mCall fAbs (mCons (mBin (ixO [(15, m_Row_getitem)] ixG) (mVar 1) (mVar 4)) mNil))) (mC (.int 0)))) (sRet (mC .non)) sSkip)
  (sSeq (sStI stI (mVar 3) (mBin (binO [(15, m_Row_sub)] bSub) (mVar 7) (mVar 4)) (mBin bDivG (mBin (ixO [(15, m_Row_getitem)] ixG) (mVar 2) (mVar 7)) (mBin (ixO [(15, m_Row_getitem)] ixG) (mVar 1) (mVar 4))))
  (sSet 2 (mCall m_Ladded (mCons (mVar 2) (mCons (mCall m_Ltimes (mCons (mDisp [((mBin (binO [(15, m_Row_sub)] bSub) (mVar 7) (mVar 4)), (mBin (ixO [(15, m_Row_getitem)] ixG) (mVar 3) (mBin (binO [(15, m_Row_sub)] bSub) (mVar 7) (mVar 4))))]) (mCons (mVar 1) mNil))) (mCons (mUn uNeg (mC (.int 1))) mNil))))))))))
  (sRet (mC .non)))))
def m_Lquotient : MF := mkF 8 2 b_Lquotient
theorem ok_Lquotient (T : TT P G mg A) : FnG G P w mg base 12 A.a_Lquotient m_Lquotient :=
  fn_okG T.f_Lquotient sc_Lquotient rfl rfl (T.f_Lquotient.binds fun _ _ _ _ _ _ us hl => match us, hl with | [_, _], _ => rfl) fun cdv Ar outer s H E hr hg =>
    (pss_consm (ps_parm (i := 2) (j := 3) (fun _ h => ps_par (by rfl) sc_Lquotient.nd rfl rfl (by decide) rfl rfl h (by rfl)) (pa_consm (pm_callT (cm_dict rfl) (by rfl) T.n_dict (by decide +kernel) (pa_consm (pm_listItems rfl (pm_var (i := 0)) (by rfl) T.n_list) pa_nilm)) (pa_consm pm_dct0 pa_nilm)))
    (pss_consm (ps_parm (i := 4) (j := 5) (fun _ h => ps_par (by rfl) sc_Lquotient.nd rfl rfl (by decide) rfl rfl h (by rfl)) (pa_consm (pm_callB (cm_min1 rfl) (by rfl) T.n_min (by decide +kernel) (pa_consm (pm_var (i := 1)) pa_nilm)) (pa_consm (pm_callB (cm_max1 rfl) (by rfl) T.n_max (by decide +kernel) (pa_consm (pm_var (i := 1)) pa_nilm)) pa_nilm)))
    (pss_consm (ps_form (by rfl) (pi_range1m (by rfl) T.n_range (pa_consm pm_int pa_nilm)) (pgn (i := 6) sc_Lquotient.nd) (pss_consm (ps_ifm (pt_cmp (om_eqG hr.u65) (pm_var (i := 2)) pm_dct0 (nomark _)) (pss_onem (ps_retm (pm_call (cm_fnG (ok_Lrow T) (hr.mono (by decide)) hg) (by rfl) T.g_Lrow T.f_Lrow.kp (pa_consm (pm_var (i := 3)) pa_nilm)))) pss_nilm)
    (pss_consm (ps_setm (i := 7) sc_Lquotient.nd (pm_callB (cm_min1 rfl) (by rfl) T.n_min (by decide +kernel) (pa_consm (pm_var (i := 2)) pa_nilm)))
    (pss_consm (ps_ifm (pt_w (pw_orm (pt_cmp om_gt (pm_bin (om_binO (.cons (boOk T.ca_Row T.bo_Row_add (cm_fnG (ok_Row_add T) (hr.mono (by decide)) hg)) .nil) om_add) (pm_bin (om_binO (.cons (boOk T.ca_Row T.bo_Row_sub (cm_fnG (ok_Row_sub T) (hr.mono (by decide)) hg)) .nil) om_sub) (pm_var (i := 7)) (pm_var (i := 4))) (pm_var (i := 5))) (pm_callB (cm_max1 rfl) (by rfl) T.n_max (by decide +kernel) (pa_consm (pm_var (i := 0)) pa_nilm)) (nomark _)) (pw_or1m (pt_cmp (om_neG hr.u65) (pm_bin om_modG (pm_callT cm_int (by rfl) T.n_int (by decide +kernel) (pa_consm (pm_ixM (ixm_o (.cons (giOk T.ca_Row T.me_Row_getitem T.fi_Row_getitem (ok_Row_getitem T) (hr.mono (by decide)) hg) .nil) (ixm_g hr.u1 (fun _ _ => rfl))) (pm_var (i := 2)) (pm_var (i := 7))) pa_nilm)) (pm_callB cm_abs (by rfl) T.n_abs (by decide +kernel) (pa_consm (pm_ixM (ixm_o (.cons (giOk T.ca_Row T.me_Row_getitem T.fi_Row_getitem (ok_Row_getitem T) (hr.mono (by decide)) hg) .nil) (ixm_g hr.u1 (fun _ _ => rfl))) (pm_var (i := 1)) (pm_var (i := 4))) pa_nilm))) pm_int (nomark _))))) (pss_onem (ps_retm pm_non)) pss_nilm)
    (pss_consm (ps_stI (set_i hr.u1) (pm_var (i := 3)) (pm_bin (om_binO (.cons (boOk T.ca_Row T.bo_Row_sub (cm_fnG (ok_Row_sub T) (hr.mono (by decide)) hg)) .nil) om_sub) (pm_var (i := 7)) (pm_var (i := 4))) (pm_bin om_divG (pm_ixM (ixm_o (.cons (giOk T.ca_Row T.me_Row_getitem T.fi_Row_getitem (ok_Row_getitem T) (hr.mono (by decide)) hg) .nil) (ixm_g hr.u1 (fun _ _ => rfl))) (pm_var (i := 2)) (pm_var (i := 7))) (pm_ixM (ixm_o (.cons (giOk T.ca_Row T.me_Row_getitem T.fi_Row_getitem (ok_Row_getitem T) (hr.mono (by decide)) hg) .nil) (ixm_g hr.u1 (fun _ _ => rfl))) (pm_var (i := 1)) (pm_var (i := 4)))))
    (pss_onem (ps_setm (i := 2) sc_Lquotient.nd (pm_call (cm_fnG (ok_Ladded T) (hr.mono (by decide)) hg) (by rfl) T.g_Ladded T.f_Ladded.kp (pa_consm (pm_var (i := 2)) (pa_consm (pm_call (cm_fnG (ok_Ltimes T) (hr.mono (by decide)) hg) (by rfl) T.g_Ltimes T.f_Ltimes.kp (pa_consm (pm_disp (.cons (pm_bin (om_binO (.cons (boOk T.ca_Row T.bo_Row_sub (cm_fnG (ok_Row_sub T) (hr.mono (by decide)) hg)) .nil) om_sub) (pm_var (i := 7)) (pm_var (i := 4))) (pm_ixM (ixm_o (.cons (giOk T.ca_Row T.me_Row_getitem T.fi_Row_getitem (ok_Row_getitem T) (hr.mono (by decide)) hg) .nil) (ixm_g hr.u1 (fun _ _ => rfl))) (pm_var (i := 3)) (pm_bin (om_binO (.cons (boOk T.ca_Row T.bo_Row_sub (cm_fnG (ok_Row_sub T) (hr.mono (by decide)) hg)) .nil) om_sub) (pm_var (i := 7)) (pm_var (i := 4)))) .nil)) (pa_consm (pm_var (i := 1)) pa_nilm))) (pa_consm (pm_un um_neg pm_int) pa_nilm)))))))))))
    (pss_onem (ps_retm pm_non)))))
theorem sc_Row_quotient : FnScope ["self", "other", "found"] ["self", "other"] (defScope s_Row_quotient) := ⟨rfl, rfl, rfl, by decide +kernel, rfl, by decide +kernel, by decide +kernel⟩
def b_Row_quotient : MS := (sSeq (sExpr (mCall m_require_row (mCons (mVar 1) mNil)))
  (sSeq (sIf (mTst cEqG (mUn (atD [(15, .slot 0)]) (mVar 1)) mDct0) (sRaiseP 12) sSkip)
  (sSeq (sSet 2 (mIf (mTst cNeG (mUn (atD [(15, .slot 0)]) (mVar 0)) mDct0) (mCall m_quotient_terms (mCons (mUn (atD [(15, .slot 0)]) (mVar 0)) (mCons (mUn (atD [(15, .slot 0)]) (mVar 1)) mNil))) mDct0))
  (sSeq (sIf (mTst cIs (mVar 2) (mC .non)) (sRaiseP 12) sSkip)
  (sRet (mCallK n_Row_init_2_is_known (mCons (mVar 2) mNil) (mCons (mC (.bl true)) mNil)))))))
def m_Row_quotient : MF := mkF 3 2 b_Row_quotient
theorem ok_Row_quotient (T : TT P G mg A) : FnG G P w mg base 12 A.a_Row_quotient m_Row_quotient :=
  fn_okG T.f_Row_quotient sc_Row_quotient rfl rfl (T.f_Row_quotient.binds fun _ _ _ _ _ _ us hl => match us, hl with | [_, _], _ => rfl) fun cdv Ar outer s H E hr hg =>
    (pss_consm (ps_exprm (pm_call (cm_fnG (ok_require_row T) (hr.mono (by decide)) hg) (by rfl) T.g_require_row T.f_require_row.kp (pa_consm (pm_var (i := 1)) pa_nilm)))
    (pss_consm (ps_ifm (pt_cmp (om_eqG hr.u65) (pm_at (.cons (atSl T.ca_Row T.sc_Row.1 T.s1_Row_own_terms) .nil) (pm_var (i := 1))) pm_dct0 (nomark _)) (pss_onem (ps_raiseP rfl T.ca_InvalidOperation T.kp_InvalidOperation (by rfl) T.g_InvalidOperation)) pss_nilm)
    (pss_consm (ps_setm (i := 2) sc_Row_quotient.nd (pm_ifexp (pt_cmp (om_neG hr.u65) (pm_at (.cons (atSl T.ca_Row T.sc_Row.1 T.s1_Row_own_terms) .nil) (pm_var (i := 0))) pm_dct0 (nomark _)) (pm_call (cm_fnG (ok_quotient_terms T) (hr.mono (by decide)) hg) (by rfl) T.g_quotient_terms T.f_quotient_terms.kp (pa_consm (pm_at (.cons (atSl T.ca_Row T.sc_Row.1 T.s1_Row_own_terms) .nil) (pm_var (i := 0))) (pa_consm (pm_at (.cons (atSl T.ca_Row T.sc_Row.1 T.s1_Row_own_terms) .nil) (pm_var (i := 1))) pa_nilm))) pm_dct0))
    (pss_consm (ps_ifm (pt_cmp om_is (pm_var (i := 2)) pm_non (nomark _)) (pss_onem (ps_raiseP rfl T.ca_InvalidOperation T.kp_InvalidOperation (by rfl) T.g_InvalidOperation)) pss_nilm)
    (pss_onem (ps_retm (pm_callK (cm_make T.ca_Row T.mk_Row (ok_Row_init T) (B_Row_init_2_is_known T) (hr.mono (by decide)) hg) (by rfl) T.g_Row T.mk_Row.kp (pa_consm (pm_var (i := 2)) pa_nilm) (pk_consm pm_bl pk_nilm))))))))
abbrev g_Row_init_2 : List D → List D → List D := fun ds _ => ds ++ [.bl false]
theorem B_Row_init_2 (T : TT P G mg A) : BnD G A.fd_Row_init ["self", "terms", "is_known"] 2 [] g_Row_init_2 := bnd_dfl (T.f_Row_init.binds0 (ps := ["self", "terms", "is_known"]) 2 (by intro z; cases z) rfl (fun _ _ _ _ _ _ us ks hu hk => match us, ks, hu, hk with | [_, _], [_], _, _ => ⟨_, _, _, _, _, _, rfl, rfl, rfl⟩)) rfl [.bl false] (fun _ _ => (.cons rel_bl .nil))
def n_Row_init_2 : MK := mkObj 15 (mkK 2 0 g_Row_init_2 m_Row_init)
theorem sc_Ltold_quotient : FnScope ["_law_one", "_law_other"] ["_law_one", "_law_other"] (defScope s_Ltold_quotient) := ⟨rfl, rfl, rfl, by decide +kernel, rfl, by decide +kernel, by decide +kernel⟩
def b_Ltold_quotient : MS := (sTry1 kix 12 (sRet (mMethO [(15, m_Row_quotient)] (mCall (fun ds S => n_Row_init_2 ds [] S) (mCons (mVar 0) mNil)) (mCons (mCall (fun ds S => n_Row_init_2 ds [] S) (mCons (mVar 1) mNil)) mNil))) (sRet (mC .non)))
def m_Ltold_quotient : MF := mkF 2 2 b_Ltold_quotient
theorem ok_Ltold_quotient (T : TT P G mg A) : FnG G P w mg base 13 A.a_Ltold_quotient m_Ltold_quotient :=
  fn_okG T.f_Ltold_quotient sc_Ltold_quotient rfl rfl (T.f_Ltold_quotient.binds fun _ _ _ _ _ _ us hl => match us, hl with | [_, _], _ => rfl) fun cdv Ar outer s H E hr hg =>
    (pss_onem (ps_try1 T.xm rfl rfl ⟨by rfl, by decide, .inl (T.g_InvalidOperation.trans (congrArg some T.ca_InvalidOperation.symm))⟩ (fun pn xe => (pss_onem (ps_retm (pm_methO (.cons (meOk T.ca_Row T.sc_Row.1 T.me_Row_quotient (cm_fnG (ok_Row_quotient T) (hr.mono (by decide)) hg)) .nil) (pm_call (CallMK.pos (cm_make T.ca_Row T.mk_Row (ok_Row_init T) (B_Row_init_2 T) (hr.mono (by decide)) hg)) (by rfl) T.g_Row T.mk_Row.kp (pa_consm (pm_var (i := 0)) pa_nilm)) (pa_consm (pm_call (CallMK.pos (cm_make T.ca_Row T.mk_Row (ok_Row_init T) (B_Row_init_2 T) (hr.mono (by decide)) hg)) (by rfl) T.g_Row T.mk_Row.kp (pa_consm (pm_var (i := 1)) pa_nilm)) pa_nilm))))) (fun a pn => (pss_onem (ps_retm pm_non)))))
theorem sc_Lquotient_right : FnScope ["_law_one", "_law_other", "_law_due", "_law_told"] ["_law_one", "_law_other"] (defScope s_Lquotient_right) := ⟨rfl, rfl, rfl, by decide +kernel, rfl, by decide +kernel, by decide +kernel⟩
def b_Lquotient_right : MS := (sSeq (sSet 2 (mIf (mTst cNeG (mVar 1) mDct0) (mCall m_Lquotient (mCons (mVar 0) (mCons (mVar 1) mNil))) (mC .non)))
  (sSeq (sSet 3 (mCall m_Ltold_quotient (mCons (mVar 0) (mCons (mVar 1) mNil))))
  (sRet (mIf (mTst cIs (mVar 2) (mC .non)) (mBin cIs (mVar 3) (mC .non)) (mCall m_Lis_row (mCons (mVar 3) (mCons (mVar 2) mNil)))))))
def m_Lquotient_right : MF := mkF 4 2 b_Lquotient_right
theorem ok_Lquotient_right (T : TT P G mg A) : FnG G P w mg base 14 A.a_Lquotient_right m_Lquotient_right :=
  fn_okG T.f_Lquotient_right sc_Lquotient_right rfl rfl (T.f_Lquotient_right.binds fun _ _ _ _ _ _ us hl => match us, hl with | [_, _], _ => rfl) fun cdv Ar outer s H E hr hg =>
    (pss_consm (ps_setm (i := 2) sc_Lquotient_right.nd (pm_ifexp (pt_cmp (om_neG hr.u65) (pm_var (i := 1)) pm_dct0 (nomark _)) (pm_call (cm_fnG (ok_Lquotient T) (hr.mono (by decide)) hg) (by rfl) T.g_Lquotient T.f_Lquotient.kp (pa_consm (pm_var (i := 0)) (pa_consm (pm_var (i := 1)) pa_nilm))) pm_non))
    (pss_consm (ps_setm (i := 3) sc_Lquotient_right.nd (pm_call (cm_fnG (ok_Ltold_quotient T) (hr.mono (by decide)) hg) (by rfl) T.g_Ltold_quotient T.f_Ltold_quotient.kp (pa_consm (pm_var (i := 0)) (pa_consm (pm_var (i := 1)) pa_nilm))))
    (pss_onem (ps_retm (pm_ifexp (pt_cmp om_is (pm_var (i := 2)) pm_non (nomark _)) (pm_cmp om_is (pm_var (i := 3)) pm_non (nomark _)) (pm_call (cm_fnG (ok_Lis_row T) (hr.mono (by decide)) hg) (by rfl) T.g_Lis_row T.f_Lis_row.kp (pa_consm (pm_var (i := 3)) (pa_consm (pm_var (i := 2)) pa_nilm))))))))
theorem sc_Lled : FnScope ["_law_terms", "_law_times_here", "_law_more", "_law_one"] ["_law_terms", "_law_times_here", "_law_more"] (defScope s_Lled) := ⟨rfl, rfl, rfl, by decide +kernel, rfl, by decide +kernel, by decide +kernel⟩
def b_Lled : MS := (sRet (mCall m_Lrow (mCons (mCall fDict (mCons (mLock (mVar 0) (mLc (mIt (mVar 0)) (.nm 3) tYesM (mTup (mCons (mBin (binO [(15, m_Row_add)] bAdd) (mBin (binO [(15, m_Row_mul)] bMul) (mVar 1) (mVar 3)) (mVar 2)) (mCons (mBin (ixO [(15, m_Row_getitem)] ixG) (mVar 0) (mVar 3)) mNil))) [3])) mNil)) mNil)))
def m_Lled : MF := mkF 4 3 b_Lled
theorem ok_Lled (T : TT P G mg A) : FnG G P w mg base 11 A.a_Lled m_Lled :=
  fn_okG T.f_Lled sc_Lled rfl rfl (T.f_Lled.binds fun _ _ _ _ _ _ us hl => match us, hl with | [_, _, _], _ => rfl) fun cdv Ar outer s H E hr hg =>
    (pss_onem (ps_retm (pm_call (cm_fnG (ok_Lrow T) (hr.mono (by decide)) hg) (by rfl) T.g_Lrow T.f_Lrow.kp (pa_consm (pm_callT (cm_dict rfl) (by rfl) T.n_dict (by decide +kernel) (pa_consm (pm_lock (md := (mVar 0)) (pm_lc (own := [("_law_one", 3)]) (by rfl) sc_Lled.nd (pi_anym (pm_var (i := 0))) (blkOk_by (own := [("_law_one", 3)]) (N := ["_law_terms", "_law_times_here", "_law_more", "_law_one"]) (sc := defScope s_Lled) (by decide +kernel)) (fun _ _ _ _ _ => (pgn (i := 3) sc_Lled.nd)) (fun _ _ _ _ _ => pts_nilm) (fun _ _ _ _ _ => (pm_tup (pa_consm (pm_bin (om_binO (.cons (boOk T.ca_Row T.bo_Row_add (cm_fnG (ok_Row_add T) (hr.mono (by decide)) hg)) .nil) om_add) (pm_bin (om_binO (.cons (boOk T.ca_Row T.bo_Row_mul (cm_fnG (ok_Row_mul T) (hr.mono (by decide)) hg)) .nil) om_mul) (pm_var (i := 1)) (pm_var (i := 3))) (pm_var (i := 2))) (pa_consm (pm_ixM (ixm_o (.cons (giOk T.ca_Row T.me_Row_getitem T.fi_Row_getitem (ok_Row_getitem T) (hr.mono (by decide)) hg) .nil) (ixm_g hr.u1 (fun _ _ => rfl))) (pm_var (i := 0)) (pm_var (i := 3))) pa_nilm)))))) pa_nilm)) pa_nilm))))
theorem sc_Row_turned : FnScope ["self", "exponent", "factor"] ["self"] (defScope s_Row_turned) := ⟨rfl, rfl, rfl, by decide +kernel, rfl, by decide +kernel, by decide +kernel⟩
def b_Row_turned : MS := (sRet (mCallK n_Row_init_2_is_known (mCons (mLock (mUn (atD [(15, .slot 0)]) (mVar 0)) (mDc (mItM itDi (mUn (atD [(15, .slot 0)]) (mVar 0))) (.tp [(.nm 1), (.nm 2)]) tYesM (mUn (unO [(15, m_Row_neg)] uNeg) (mVar 1)) (mVar 2) [1, 2])) mNil) (mCons (mC (.bl true)) mNil)))
def m_Row_turned : MF := mkF 3 1 b_Row_turned
theorem ok_Row_turned (T : TT P G mg A) : FnG G P w mg base 11 A.a_Row_turned m_Row_turned :=
  fn_okG T.f_Row_turned sc_Row_turned rfl rfl (T.f_Row_turned.binds fun _ _ _ _ _ _ us hl => match us, hl with | [_], _ => rfl) fun cdv Ar outer s H E hr hg =>
    (pss_onem (ps_retm (pm_callK (cm_make T.ca_Row T.mk_Row (ok_Row_init T) (B_Row_init_2_is_known T) (hr.mono (by decide)) hg) (by rfl) T.g_Row T.mk_Row.kp (pa_consm (pm_lock (md := (mUn (atD [(15, .slot 0)]) (mVar 0))) (pm_dc (own := [("exponent", 1), ("factor", 2)]) (by rfl) sc_Row_turned.nd (pi_itemsm (pm_at (.cons (atSl T.ca_Row T.sc_Row.1 T.s1_Row_own_terms) .nil) (pm_var (i := 0)))) (blkOk_by (own := [("exponent", 1), ("factor", 2)]) (N := ["self", "exponent", "factor"]) (sc := defScope s_Row_turned) (by decide +kernel)) (fun _ _ _ _ _ => (pgt (by rfl) (pgs1 (pgn (i := 1) sc_Row_turned.nd) (pgs1 (pgn (i := 2) sc_Row_turned.nd) pgs0)))) (fun _ _ _ _ _ => pts_nilm) (fun _ _ _ _ _ => (pm_un (um_negO (.cons (ngOk T.ca_Row T.me_Row_neg (cm_fnG (ok_Row_neg T) (hr.mono (by decide)) hg)) .nil) um_neg) (pm_var (i := 1)))) (fun _ _ _ _ _ => (pm_var (i := 2))))) pa_nilm) (pk_consm pm_bl pk_nilm))))
theorem sc_Row_spread : FnScope ["self", "many", "exponent", "factor"] ["self", "many"] (defScope s_Row_spread) := ⟨rfl, rfl, rfl, by decide +kernel, rfl, by decide +kernel, by decide +kernel⟩
def b_Row_spread : MS := (sSeq (sIf (tOrM (tNotM (mTru (mCall m_is_integer (mCons (mVar 1) mNil)))) (mTst cEqG (mVar 1) (mC (.int 0)))) (sRaiseK 13 "value" (mVar 1)) sSkip)
  (sRet (mCallK n_Row_init_2_is_known (mCons (mLock (mUn (atD [(15, .slot 0)]) (mVar 0)) (mDc (mItM itDi (mUn (atD [(15, .slot 0)]) (mVar 0))) (.tp [(.nm 2), (.nm 3)]) tYesM (mBin (binO [(15, m_Row_mul)] bMul) (mVar 2) (mVar 1)) (mVar 3) [2, 3])) mNil) (mCons (mC (.bl true)) mNil))))
def m_Row_spread : MF := mkF 4 2 b_Row_spread
theorem ok_Row_spread (T : TT P G mg A) : FnG G P w mg base 9 A.a_Row_spread m_Row_spread :=
  fn_okG T.f_Row_spread sc_Row_spread rfl rfl (T.f_Row_spread.binds fun _ _ _ _ _ _ us hl => match us, hl with | [_, _], _ => rfl) fun cdv Ar outer s H E hr hg =>
    (pss_consm (ps_ifm (pt_w (pw_orm (pt_notm (pt_tru (pm_call (cm_fnG (ok_is_integer T) (hr.mono (by decide)) hg) (by rfl) T.g_is_integer T.f_is_integer.kp (pa_consm (pm_var (i := 1)) pa_nilm)))) (pw_or1m (pt_cmp (om_eqG hr.u65) (pm_var (i := 1)) pm_int (nomark _))))) (pss_onem (ps_raiseK (k := 0) rfl T.ca_InvalidNumber T.kx_InvalidNumber T.n_super (hr.mono (by decide)) (by rfl) T.g_InvalidNumber (pm_var (i := 1)))) pss_nilm)
    (pss_onem (ps_retm (pm_callK (cm_make T.ca_Row T.mk_Row (ok_Row_init T) (B_Row_init_2_is_known T) (hr.mono (by decide)) hg) (by rfl) T.g_Row T.mk_Row.kp (pa_consm (pm_lock (md := (mUn (atD [(15, .slot 0)]) (mVar 0))) (pm_dc (own := [("exponent", 2), ("factor", 3)]) (by rfl) sc_Row_spread.nd (pi_itemsm (pm_at (.cons (atSl T.ca_Row T.sc_Row.1 T.s1_Row_own_terms) .nil) (pm_var (i := 0)))) (blkOk_by (own := [("exponent", 2), ("factor", 3)]) (N := ["self", "many", "exponent", "factor"]) (sc := defScope s_Row_spread) (by decide +kernel)) (fun _ _ _ _ _ => (pgt (by rfl) (pgs1 (pgn (i := 2) sc_Row_spread.nd) (pgs1 (pgn (i := 3) sc_Row_spread.nd) pgs0)))) (fun _ _ _ _ _ => pts_nilm) (fun _ _ _ _ _ => (pm_bin (om_binO (.cons (boOk T.ca_Row T.bo_Row_mul (cm_fnG (ok_Row_mul T) (hr.mono (by decide)) hg)) .nil) om_mul) (pm_var (i := 2)) (pm_var (i := 1)))) (fun _ _ _ _ _ => (pm_var (i := 3))))) pa_nilm) (pk_consm pm_bl pk_nilm)))))
theorem sc_Row_shifted : FnScope ["self", "many", "exponent", "factor"] ["self", "many"] (defScope s_Row_shifted) := ⟨rfl, rfl, rfl, by decide +kernel, rfl, by decide +kernel, by decide +kernel⟩
def b_Row_shifted : MS := (sSeq (sIf (tNotM (mTru (mCall m_is_integer (mCons (mVar 1) mNil)))) (sRaiseK 13 "value" (mVar 1)) sSkip)
  (sRet (mCallK n_Row_init_2_is_known (mCons (mLock (mUn (atD [(15, .slot 0)]) (mVar 0)) (mDc (mItM itDi (mUn (atD [(15, .slot 0)]) (mVar 0))) (.tp [(.nm 2), (.nm 3)]) tYesM (mBin (binO [(15, m_Row_add)] bAdd) (mVar 2) (mVar 1)) (mVar 3) [2, 3])) mNil) (mCons (mC (.bl true)) mNil))))
def m_Row_shifted : MF := mkF 4 2 b_Row_shifted
theorem ok_Row_shifted (T : TT P G mg A) : FnG G P w mg base 11 A.a_Row_shifted m_Row_shifted :=
  fn_okG T.f_Row_shifted sc_Row_shifted rfl rfl (T.f_Row_shifted.binds fun _ _ _ _ _ _ us hl => match us, hl with | [_, _], _ => rfl) fun cdv Ar outer s H E hr hg =>
    (pss_consm (ps_ifm (pt_notm (pt_tru (pm_call (cm_fnG (ok_is_integer T) (hr.mono (by decide)) hg) (by rfl) T.g_is_integer T.f_is_integer.kp (pa_consm (pm_var (i := 1)) pa_nilm)))) (pss_onem (ps_raiseK (k := 0) rfl T.ca_InvalidNumber T.kx_InvalidNumber T.n_super (hr.mono (by decide)) (by rfl) T.g_InvalidNumber (pm_var (i := 1)))) pss_nilm)
    (pss_onem (ps_retm (pm_callK (cm_make T.ca_Row T.mk_Row (ok_Row_init T) (B_Row_init_2_is_known T) (hr.mono (by decide)) hg) (by rfl) T.g_Row T.mk_Row.kp (pa_consm (pm_lock (md := (mUn (atD [(15, .slot 0)]) (mVar 0))) (pm_dc (own := [("exponent", 2), ("factor", 3)]) (by rfl) sc_Row_shifted.nd (pi_itemsm (pm_at (.cons (atSl T.ca_Row T.sc_Row.1 T.s1_Row_own_terms) .nil) (pm_var (i := 0)))) (blkOk_by (own := [("exponent", 2), ("factor", 3)]) (N := ["self", "many", "exponent", "factor"]) (sc := defScope s_Row_shifted) (by decide +kernel)) (fun _ _ _ _ _ => (pgt (by rfl) (pgs1 (pgn (i := 2) sc_Row_shifted.nd) (pgs1 (pgn (i := 3) sc_Row_shifted.nd) pgs0)))) (fun _ _ _ _ _ => pts_nilm) (fun _ _ _ _ _ => (pm_bin (om_binO (.cons (boOk T.ca_Row T.bo_Row_add (cm_fnG (ok_Row_add T) (hr.mono (by decide)) hg)) .nil) om_add) (pm_var (i := 2)) (pm_var (i := 1)))) (fun _ _ _ _ _ => (pm_var (i := 3))))) pa_nilm) (pk_consm pm_bl pk_nilm)))))
theorem sc_Row_at : FnScope ["self", "value", "exponent", "factor"] ["self", "value"] (defScope s_Row_at) := ⟨rfl, rfl, rfl, by decide +kernel, rfl, by decide +kernel, by decide +kernel⟩
def b_Row_at : MS := (sSeq (sIf (tOrM (tNotM (mTru (mCall m_is_integer (mCons (mVar 1) mNil)))) (mTst cNeG (mCall fAbs (mCons (mVar 1) mNil)) (mC (.int 1)))) (sRaiseK 13 "value" (mVar 1)) sSkip)
  (sRet (mCall fSum (mCons (mLock (mUn (atD [(15, .slot 0)]) (mVar 0)) (mLc (mItM itDi (mUn (atD [(15, .slot 0)]) (mVar 0))) (.tp [(.nm 2), (.nm 3)]) tYesM (mIf (mTst cEqG (mBin bMod (mVar 2) (mC (.int 2))) (mC (.int 0))) (mVar 3) (mBin (binO [(15, m_Row_mul)] bMul) (mVar 3) (mVar 1))) [2, 3])) mNil))))
def m_Row_at : MF := mkF 4 2 b_Row_at
theorem ok_Row_at (T : TT P G mg A) : FnG G P w mg base 9 A.a_Row_at m_Row_at :=
  fn_okG T.f_Row_at sc_Row_at rfl rfl (T.f_Row_at.binds fun _ _ _ _ _ _ us hl => match us, hl with | [_, _], _ => rfl) fun cdv Ar outer s H E hr hg =>
    (pss_consm (ps_ifm (pt_w (pw_orm (pt_notm (pt_tru (pm_call (cm_fnG (ok_is_integer T) (hr.mono (by decide)) hg) (by rfl) T.g_is_integer T.f_is_integer.kp (pa_consm (pm_var (i := 1)) pa_nilm)))) (pw_or1m (pt_cmp (om_neG hr.u65) (pm_callB cm_abs (by rfl) T.n_abs (by decide +kernel) (pa_consm (pm_var (i := 1)) pa_nilm)) pm_int (nomark _))))) (pss_onem (ps_raiseK (k := 0) rfl T.ca_InvalidNumber T.kx_InvalidNumber T.n_super (hr.mono (by decide)) (by rfl) T.g_InvalidNumber (pm_var (i := 1)))) pss_nilm)
    (pss_onem (ps_retm (pm_callB (cm_sum rfl) (by rfl) T.n_sum (by decide +kernel) (pa_consm (pm_lock (md := (mUn (atD [(15, .slot 0)]) (mVar 0))) (pm_lc (own := [("exponent", 2), ("factor", 3)]) (by rfl) sc_Row_at.nd (pi_itemsm (pm_at (.cons (atSl T.ca_Row T.sc_Row.1 T.s1_Row_own_terms) .nil) (pm_var (i := 0)))) (blkOk_by (own := [("exponent", 2), ("factor", 3)]) (N := ["self", "value", "exponent", "factor"]) (sc := defScope s_Row_at) (by decide +kernel)) (fun _ _ _ _ _ => (pgt (by rfl) (pgs1 (pgn (i := 2) sc_Row_at.nd) (pgs1 (pgn (i := 3) sc_Row_at.nd) pgs0)))) (fun _ _ _ _ _ => pts_nilm) (fun _ _ _ _ _ => (pm_ifexp (pt_cmp (om_eqG hr.u65) (pm_bin om_mod (pm_var (i := 2)) pm_int) pm_int (nomark _)) (pm_var (i := 3)) (pm_bin (om_binO (.cons (boOk T.ca_Row T.bo_Row_mul (cm_fnG (ok_Row_mul T) (hr.mono (by decide)) hg)) .nil) om_mul) (pm_var (i := 3)) (pm_var (i := 1))))))) pa_nilm)))))
theorem sc_Row_power : FnScope ["cls", "exponent", "many"] ["cls", "exponent", "many"] (defScope s_Row_power) := ⟨rfl, rfl, rfl, by decide +kernel, rfl, by decide +kernel, by decide +kernel⟩
def b_Row_power : MS := (sSeq (sIf (tOrM (tNotM (mTru (mCall m_is_power (mCons (mVar 1) mNil)))) (tNotM (mTru (mCall m_is_integer (mCons (mVar 2) mNil))))) (sRaiseP 11) sSkip)
  (sRet (mCallK n_Row_init_2_is_known (mCons (mDisp [((mVar 1), (mVar 2))]) mNil) (mCons (mC (.bl true)) mNil))))
def m_Row_power : MF := mkF 3 3 b_Row_power
theorem ok_Row_power (T : TT P G mg A) : FnB G P w mg base 8 A.a_Row_power A.fd_Row_power ["cls", "exponent", "many"] m_Row_power :=
  fn_okB T.f_Row_power sc_Row_power rfl rfl fun cdv Ar outer s H E hr hg =>
    (pss_consm (ps_ifm (pt_w (pw_orm (pt_notm (pt_tru (pm_call (cm_fnG (ok_is_power T) (hr.mono (by decide)) hg) (by rfl) T.g_is_power T.f_is_power.kp (pa_consm (pm_var (i := 1)) pa_nilm)))) (pw_or1m (pt_notm (pt_tru (pm_call (cm_fnG (ok_is_integer T) (hr.mono (by decide)) hg) (by rfl) T.g_is_integer T.f_is_integer.kp (pa_consm (pm_var (i := 2)) pa_nilm))))))) (pss_onem (ps_raiseP rfl T.ca_InvalidRow T.kp_InvalidRow (by rfl) T.g_InvalidRow)) pss_nilm)
    (pss_onem (ps_retm (pm_callK (cm_make T.ca_Row T.mk_Row (ok_Row_init T) (B_Row_init_2_is_known T) (hr.mono (by decide)) hg) (by rfl) T.g_Row T.mk_Row.kp (pa_consm (pm_disp (.cons (pm_var (i := 1)) (pm_var (i := 2)) .nil)) pa_nilm) (pk_consm pm_bl pk_nilm)))))
abbrev g_Row_power_2 : List D → List D → List D := fun ds _ => ds ++ [.int 1]
theorem B_Row_power_2 (T : TT P G mg A) : BnD G A.fd_Row_power ["cls", "exponent", "many"] 2 [] g_Row_power_2 := bnd_dfl (T.f_Row_power.binds0 (ps := ["cls", "exponent", "many"]) 2 (by intro z; cases z) rfl (fun _ _ _ _ _ _ us ks hu hk => match us, ks, hu, hk with | [_, _], [_], _, _ => ⟨_, _, _, _, _, _, rfl, rfl, rfl⟩)) rfl [.int 1] (fun _ _ => (.cons rel_int .nil))
theorem sc_Row_raised : FnScope ["self", "many", "exponent", "base", "found", "turn"] ["self", "many"] (defScope s_Row_raised) := ⟨rfl, rfl, rfl, by decide +kernel, rfl, by decide +kernel, by decide +kernel⟩
def b_Row_raised : MS := (sSeq (sIf (tOrM (tNotM (mTru (mCall m_is_integer (mCons (mVar 1) mNil)))) (mTst cGt (mCall fAbs (mCons (mVar 1) mNil)) (mC (.int 100)))) (sRaiseK 13 "value" (mVar 1)) sSkip)
  (sSeq (sIf (tAndM (mTst cLt (mVar 1) (mC (.int 0))) (tOrM (mTst cNeG (mCall fLenG (mCons (mUn (atD [(15, .slot 0)]) (mVar 0)) mNil)) (mC (.int 1))) (mTst cNeG (mCall fAbs (mCons (mBin (ixO [(15, m_Row_getitem)] ixG) (mUn fValues (mUn (atD [(15, .slot 0)]) (mVar 0))) (mC (.int 0))) mNil)) (mC (.int 1))))) (sRaiseP 12) sSkip)
  (sSeq (sIf (mTru (mCall fAny (mCons (mLock (mUn (atD [(15, .slot 0)]) (mVar 0)) (mLc (mIt (mUn (atD [(15, .slot 0)]) (mVar 0))) (.nm 2) tYesM (mBin cGt (mCall fAbs (mCons (mBin (binO [(15, m_Row_mul)] bMul) (mVar 2) (mVar 1)) mNil)) (mC (.int 10000))) [2])) mNil))) (sRaiseK 14 "limit" (mC (.int 10000))) sSkip)
  (sSeq (sSet 3 (mIf (mTst cGe (mVar 1) (mC (.int 0))) (mVar 0) (mUn (atD [(15, .prop m_Row_turned)]) (mVar 0))))
  (sSeq (sSet 4 (mCmeth 15 (mkK 2 0 g_Row_power_2 m_Row_power) (mCons (mC (.int 0)) mNil)))
  (sSeq (sFor (mIts itRng1 (mCons (mCall fAbs (mCons (mVar 1) mNil)) mNil)) (.nm 5) (sSet 4 (mBin (binO [(15, m_Row_mul)] bMul) (mVar 4) (mVar 3))))
  (sRet (mVar 4))))))))
def m_Row_raised : MF := mkF 6 2 b_Row_raised
theorem ok_Row_raised (T : TT P G mg A) : FnG G P w mg base 13 A.a_Row_raised m_Row_raised :=
  fn_okG T.f_Row_raised sc_Row_raised rfl rfl (T.f_Row_raised.binds fun _ _ _ _ _ _ us hl => match us, hl with | [_, _], _ => rfl) fun cdv Ar outer s H E hr hg =>
    (pss_consm (ps_ifm (pt_w (pw_orm (pt_notm (pt_tru (pm_call (cm_fnG (ok_is_integer T) (hr.mono (by decide)) hg) (by rfl) T.g_is_integer T.f_is_integer.kp (pa_consm (pm_var (i := 1)) pa_nilm)))) (pw_or1m (pt_cmp om_gt (pm_callB cm_abs (by rfl) T.n_abs (by decide +kernel) (pa_consm (pm_var (i := 1)) pa_nilm)) (pm_globE (T.c_MAX_RAISED)) (nomark _))))) (pss_onem (ps_raiseK (k := 0) rfl T.ca_InvalidNumber T.kx_InvalidNumber T.n_super (hr.mono (by decide)) (by rfl) T.g_InvalidNumber (pm_var (i := 1)))) pss_nilm)
    (pss_consm (ps_ifm (pt_w (pw_andm (pt_cmp om_lt (pm_var (i := 1)) pm_int (nomark _)) (pw_and1m (pt_w (pw_orm (pt_cmp (om_neG hr.u65) (pm_callB cm_lenG (by rfl) T.n_len (by decide +kernel) (pa_consm (pm_at (.cons (atSl T.ca_Row T.sc_Row.1 T.s1_Row_own_terms) .nil) (pm_var (i := 0))) pa_nilm)) pm_int (nomark _)) (pw_or1m (pt_cmp (om_neG hr.u65) (pm_callB cm_abs (by rfl) T.n_abs (by decide +kernel) (pa_consm (pm_ixM (ixm_o (.cons (giOk T.ca_Row T.me_Row_getitem T.fi_Row_getitem (ok_Row_getitem T) (hr.mono (by decide)) hg) .nil) (ixm_g hr.u1 (fun _ _ => rfl))) (pm_listValues rfl (pm_at (.cons (atSl T.ca_Row T.sc_Row.1 T.s1_Row_own_terms) .nil) (pm_var (i := 0))) (by rfl) T.n_list) pm_int) pa_nilm)) pm_int (nomark _)))))))) (pss_onem (ps_raiseP rfl T.ca_InvalidOperation T.kp_InvalidOperation (by rfl) T.g_InvalidOperation)) pss_nilm)
    (pss_consm (ps_ifm (pt_tru (pm_callB (cm_any rfl) (by rfl) T.n_any (by decide +kernel) (pa_consm (pm_lock (md := (mUn (atD [(15, .slot 0)]) (mVar 0))) (pm_lc (own := [("exponent", 2)]) (by rfl) sc_Row_raised.nd (pi_anym (pm_at (.cons (atSl T.ca_Row T.sc_Row.1 T.s1_Row_own_terms) .nil) (pm_var (i := 0)))) (blkOk_by (own := [("exponent", 2)]) (N := ["self", "many", "exponent", "base", "found", "turn"]) (sc := defScope s_Row_raised) (by decide +kernel)) (fun _ _ _ _ _ => (pgn (i := 2) sc_Row_raised.nd)) (fun _ _ _ _ _ => pts_nilm) (fun _ _ _ _ _ => (pm_cmp om_gt (pm_callB cm_abs (by rfl) T.n_abs (by decide +kernel) (pa_consm (pm_bin (om_binO (.cons (boOk T.ca_Row T.bo_Row_mul (cm_fnG (ok_Row_mul T) (hr.mono (by decide)) hg)) .nil) om_mul) (pm_var (i := 2)) (pm_var (i := 1))) pa_nilm)) (pm_globE (T.c_MAX_POWER)) (nomark _))))) pa_nilm))) (pss_onem (ps_raiseK (k := 0) rfl T.ca_TooMany T.kx_TooMany T.n_super (hr.mono (by decide)) (by rfl) T.g_TooMany (pm_globE (T.c_MAX_POWER)))) pss_nilm)
    (pss_consm (ps_setm (i := 3) sc_Row_raised.nd (pm_ifexp (pt_cmp om_ge (pm_var (i := 1)) pm_int (nomark _)) (pm_var (i := 0)) (pm_at (.cons (atPr T.ca_Row T.sc_Row.1 T.pr_Row_turned (ok_Row_turned T) (hr.mono (by decide)) hg) .nil) (pm_var (i := 0)))))
    (pss_consm (ps_setm (i := 4) sc_Row_raised.nd (pm_cmeth T.ca_Row (by rfl) T.g_Row T.cm_Row_power (ok_Row_power T) (B_Row_power_2 T) (hr.mono (by decide)) hg (pa_consm pm_int pa_nilm)))
    (pss_consm (ps_form (by rfl) (pi_range1m (by rfl) T.n_range (pa_consm (pm_callB cm_abs (by rfl) T.n_abs (by decide +kernel) (pa_consm (pm_var (i := 1)) pa_nilm)) pa_nilm)) (pgn (i := 5) sc_Row_raised.nd) (pss_onem (ps_setm (i := 4) sc_Row_raised.nd (pm_bin (om_binO (.cons (boOk T.ca_Row T.bo_Row_mul (cm_fnG (ok_Row_mul T) (hr.mono (by decide)) hg)) .nil) om_mul) (pm_var (i := 4)) (pm_var (i := 3))))))
    (pss_onem (ps_retm (pm_var (i := 4))))))))))
theorem sc_Lshapes_right : FnScope ["_law_dice_here", "_law_one", "_law_other", "_law_first", "_law_second", "_law_many", "_law_signs", "_law_at"] ["_law_dice_here", "_law_one", "_law_other"] (defScope s_Lshapes_right) := ⟨rfl, rfl, rfl, by decide +kernel, rfl, by decide +kernel, by decide +kernel⟩
def b_Lshapes_right : MS := (sSeq (sPar3 3 4 5 (mCons (mCall (fun ds S => n_Row_init_2 ds [] S) (mCons (mVar 1) mNil)) (mCons (mCall (fun ds S => n_Row_init_2 ds [] S) (mCons (mVar 2) mNil)) (mCons (mCall m_Lpick (mCons (mVar 0) (mCons (mLst (mCons (mUn uNeg (mC (.int 3))) (mCons (mUn uNeg (mC (.int 2))) (mCons (mUn uNeg (mC (.int 1))) (mCons (mC (.int 1)) (mCons (mC (.int 2)) (mCons (mC (.int 5)) mNil))))))) mNil))) mNil))))
  (sSeq (sIf (tOrM (tNotM (mTru (mCall m_Lis_row (mCons (mUn (atD [(15, .prop m_Row_turned)]) (mVar 3)) (mCons (mCall m_Lled (mCons (mVar 1) (mCons (mUn uNeg (mC (.int 1))) (mCons (mC (.int 0)) mNil)))) mNil))))) (tNotM (mTru (mCall m_Lis_row (mCons (mMethO [(15, m_Row_spread)] (mVar 3) (mCons (mVar 5) mNil)) (mCons (mCall m_Lled (mCons (mVar 1) (mCons (mVar 5) (mCons (mC (.int 0)) mNil)))) mNil)))))) (sRet (mC (.bl false))) sSkip)
  (sSeq (sIf (tOrM (tNotM (mTru (mCall m_Lis_row (mCons (mMethO [(15, m_Row_shifted)] (mVar 3) (mCons (mBin (binO [(15, m_Row_mul)] bMul) (mC (.int 7)) (mVar 5)) mNil)) (mCons (mCall m_Lled (mCons (mVar 1) (mCons (mC (.int 1)) (mCons (mBin (binO [(15, m_Row_mul)] bMul) (mC (.int 7)) (mVar 5)) mNil)))) mNil))))) (mTst (neO [(15, m_Row_eq)] eqts cNeG) (mUn (atD [(15, .prop m_Row_turned)]) (mUn (atD [(15, .prop m_Row_turned)]) (mVar 3))) (mVar 3))) (sRet (mC (.bl false))) sSkip)
  (sSeq (sIf (mTst (neO [(15, m_Row_eq)] eqts cNeG) (mUn (atD [(15, .prop m_Row_turned)]) (mBin (binO [(15, m_Row_mul)] bMul) (mVar 3) (mVar 4))) (mBin (binO [(15, m_Row_mul)] bMul) (mUn (atD [(15, .prop m_Row_turned)]) (mVar 3)) (mUn (atD [(15, .prop m_Row_turned)]) (mVar 4)))) (sRet (mC (.bl false))) sSkip)
  (sSeq (sIf (mTst (neO [(15, m_Row_eq)] eqts cNeG) (mMethO [(15, m_Row_spread)] (mBin (binO [(15, m_Row_add)] bAdd) (mVar 3) (mVar 4)) (mCons (mVar 5) mNil)) (mBin (binO [(15, m_Row_add)] bAdd) (mMethO [(15, m_Row_spread)] (mVar 3) (mCons (mVar 5) mNil)) (mMethO [(15, m_Row_spread)] (mVar 4) (mCons (mVar 5) mNil)))) (sRet (mC (.bl false))) sSkip)
  (sSeq (sSet 6 (mCall fSum (mCons (mLock (mVar 1) (mLc (mIt (mVar 1)) (.nm 7) tYesM (mIf (mTst cEqG (mBin bMod (mVar 7) (mC (.int 2))) (mC (.int 0))) (mBin (ixO [(15, m_Row_getitem)] ixG) (mVar 1) (mVar 7)) (mUn (unO [(15, m_Row_neg)] uNeg) (mBin (ixO [(15, m_Row_getitem)] ixG) (mVar 1) (mVar 7)))) [7])) mNil)))
  (sRet (mAndT (mBin cEqG (mLst (mCons (mMethO [(15, m_Row_at)] (mVar 3) (mCons (mC (.int 1)) mNil)) (mCons (mMethO [(15, m_Row_at)] (mVar 3) (mCons (mUn uNeg (mC (.int 1))) mNil)) mNil))) (mLst (mCons (mCall fSum (mCons (mUn fValues (mVar 1)) mNil)) (mCons (mVar 6) mNil)))) (mBin (eqO [(15, m_Row_eq)] eqts cEqG) (mMethO [(15, m_Row_raised)] (mVar 3) (mCons (mC (.int 0)) mNil)) (mCmeth 15 (mkK 2 0 g_Row_power_2 m_Row_power) (mCons (mC (.int 0)) mNil)))))))))))
def m_Lshapes_right : MF := mkF 8 3 b_Lshapes_right
theorem ok_Lshapes_right (T : TT P G mg A) : FnG G P w mg base 14 A.a_Lshapes_right m_Lshapes_right :=
  fn_okG T.f_Lshapes_right sc_Lshapes_right rfl rfl (T.f_Lshapes_right.binds fun _ _ _ _ _ _ us hl => match us, hl with | [_, _, _], _ => rfl) fun cdv Ar outer s H E hr hg =>
    (pss_consm (ps_par3m (i := 3) (j := 4) (l := 5) (fun _ h => ps_par3 (by rfl) sc_Lshapes_right.nd rfl rfl rfl (by decide) (by decide) (by decide) rfl rfl rfl h (by rfl)) (pa_consm (pm_call (CallMK.pos (cm_make T.ca_Row T.mk_Row (ok_Row_init T) (B_Row_init_2 T) (hr.mono (by decide)) hg)) (by rfl) T.g_Row T.mk_Row.kp (pa_consm (pm_var (i := 1)) pa_nilm)) (pa_consm (pm_call (CallMK.pos (cm_make T.ca_Row T.mk_Row (ok_Row_init T) (B_Row_init_2 T) (hr.mono (by decide)) hg)) (by rfl) T.g_Row T.mk_Row.kp (pa_consm (pm_var (i := 2)) pa_nilm)) (pa_consm (pm_call (cm_fnG (ok_Lpick T) (hr.mono (by decide)) hg) (by rfl) T.g_Lpick T.f_Lpick.kp (pa_consm (pm_var (i := 0)) (pa_consm (pm_lst (pa_consm (pm_un um_neg pm_int) (pa_consm (pm_un um_neg pm_int) (pa_consm (pm_un um_neg pm_int) (pa_consm pm_int (pa_consm pm_int (pa_consm pm_int pa_nilm))))))) pa_nilm))) pa_nilm))))
    (pss_consm (ps_ifm (pt_w (pw_orm (pt_notm (pt_tru (pm_call (cm_fnG (ok_Lis_row T) (hr.mono (by decide)) hg) (by rfl) T.g_Lis_row T.f_Lis_row.kp (pa_consm (pm_at (.cons (atPr T.ca_Row T.sc_Row.1 T.pr_Row_turned (ok_Row_turned T) (hr.mono (by decide)) hg) .nil) (pm_var (i := 3))) (pa_consm (pm_call (cm_fnG (ok_Lled T) (hr.mono (by decide)) hg) (by rfl) T.g_Lled T.f_Lled.kp (pa_consm (pm_var (i := 1)) (pa_consm (pm_un um_neg pm_int) (pa_consm pm_int pa_nilm)))) pa_nilm))))) (pw_or1m (pt_notm (pt_tru (pm_call (cm_fnG (ok_Lis_row T) (hr.mono (by decide)) hg) (by rfl) T.g_Lis_row T.f_Lis_row.kp (pa_consm (pm_methO (.cons (meOk T.ca_Row T.sc_Row.1 T.me_Row_spread (cm_fnG (ok_Row_spread T) (hr.mono (by decide)) hg)) .nil) (pm_var (i := 3)) (pa_consm (pm_var (i := 5)) pa_nilm)) (pa_consm (pm_call (cm_fnG (ok_Lled T) (hr.mono (by decide)) hg) (by rfl) T.g_Lled T.f_Lled.kp (pa_consm (pm_var (i := 1)) (pa_consm (pm_var (i := 5)) (pa_consm pm_int pa_nilm)))) pa_nilm)))))))) (pss_onem (ps_retm pm_bl)) pss_nilm)
    (pss_consm (ps_ifm (pt_w (pw_orm (pt_notm (pt_tru (pm_call (cm_fnG (ok_Lis_row T) (hr.mono (by decide)) hg) (by rfl) T.g_Lis_row T.f_Lis_row.kp (pa_consm (pm_methO (.cons (meOk T.ca_Row T.sc_Row.1 T.me_Row_shifted (cm_fnG (ok_Row_shifted T) (hr.mono (by decide)) hg)) .nil) (pm_var (i := 3)) (pa_consm (pm_bin (om_binO (.cons (boOk T.ca_Row T.bo_Row_mul (cm_fnG (ok_Row_mul T) (hr.mono (by decide)) hg)) .nil) om_mul) pm_int (pm_var (i := 5))) pa_nilm)) (pa_consm (pm_call (cm_fnG (ok_Lled T) (hr.mono (by decide)) hg) (by rfl) T.g_Lled T.f_Lled.kp (pa_consm (pm_var (i := 1)) (pa_consm pm_int (pa_consm (pm_bin (om_binO (.cons (boOk T.ca_Row T.bo_Row_mul (cm_fnG (ok_Row_mul T) (hr.mono (by decide)) hg)) .nil) om_mul) pm_int (pm_var (i := 5))) pa_nilm)))) pa_nilm))))) (pw_or1m (pt_cmp (om_neO T.ko.bt (.cons (eqOk T.ca_Row T.eq_Row (ok_Row_eq T) (hr.mono (by decide)) hg) .nil) (om_neG hr.u65)) (pm_at (.cons (atPr T.ca_Row T.sc_Row.1 T.pr_Row_turned (ok_Row_turned T) (hr.mono (by decide)) hg) .nil) (pm_at (.cons (atPr T.ca_Row T.sc_Row.1 T.pr_Row_turned (ok_Row_turned T) (hr.mono (by decide)) hg) .nil) (pm_var (i := 3)))) (pm_var (i := 3)) (nomark _))))) (pss_onem (ps_retm pm_bl)) pss_nilm)
    (pss_consm (ps_ifm (pt_cmp (om_neO T.ko.bt (.cons (eqOk T.ca_Row T.eq_Row (ok_Row_eq T) (hr.mono (by decide)) hg) .nil) (om_neG hr.u65)) (pm_at (.cons (atPr T.ca_Row T.sc_Row.1 T.pr_Row_turned (ok_Row_turned T) (hr.mono (by decide)) hg) .nil) (pm_bin (om_binO (.cons (boOk T.ca_Row T.bo_Row_mul (cm_fnG (ok_Row_mul T) (hr.mono (by decide)) hg)) .nil) om_mul) (pm_var (i := 3)) (pm_var (i := 4)))) (pm_bin (om_binO (.cons (boOk T.ca_Row T.bo_Row_mul (cm_fnG (ok_Row_mul T) (hr.mono (by decide)) hg)) .nil) om_mul) (pm_at (.cons (atPr T.ca_Row T.sc_Row.1 T.pr_Row_turned (ok_Row_turned T) (hr.mono (by decide)) hg) .nil) (pm_var (i := 3))) (pm_at (.cons (atPr T.ca_Row T.sc_Row.1 T.pr_Row_turned (ok_Row_turned T) (hr.mono (by decide)) hg) .nil) (pm_var (i := 4)))) (nomark _)) (pss_onem (ps_retm pm_bl)) pss_nilm)
    (pss_consm (ps_ifm (pt_cmp (om_neO T.ko.bt (.cons (eqOk T.ca_Row T.eq_Row (ok_Row_eq T) (hr.mono (by decide)) hg) .nil) (om_neG hr.u65)) (pm_methO (.cons (meOk T.ca_Row T.sc_Row.1 T.me_Row_spread (cm_fnG (ok_Row_spread T) (hr.mono (by decide)) hg)) .nil) (pm_bin (om_binO (.cons (boOk T.ca_Row T.bo_Row_add (cm_fnG (ok_Row_add T) (hr.mono (by decide)) hg)) .nil) om_add) (pm_var (i := 3)) (pm_var (i := 4))) (pa_consm (pm_var (i := 5)) pa_nilm)) (pm_bin (om_binO (.cons (boOk T.ca_Row T.bo_Row_add (cm_fnG (ok_Row_add T) (hr.mono (by decide)) hg)) .nil) om_add) (pm_methO (.cons (meOk T.ca_Row T.sc_Row.1 T.me_Row_spread (cm_fnG (ok_Row_spread T) (hr.mono (by decide)) hg)) .nil) (pm_var (i := 3)) (pa_consm (pm_var (i := 5)) pa_nilm)) (pm_methO (.cons (meOk T.ca_Row T.sc_Row.1 T.me_Row_spread (cm_fnG (ok_Row_spread T) (hr.mono (by decide)) hg)) .nil) (pm_var (i := 4)) (pa_consm (pm_var (i := 5)) pa_nilm))) (nomark _)) (pss_onem (ps_retm pm_bl)) pss_nilm)
    (pss_consm (ps_setm (i := 6) sc_Lshapes_right.nd (pm_callB (cm_sum rfl) (by rfl) T.n_sum (by decide +kernel) (pa_consm (pm_lock (md := (mVar 1)) (pm_lc (own := [("_law_at", 7)]) (by rfl) sc_Lshapes_right.nd (pi_anym (pm_var (i := 1))) (blkOk_by (own := [("_law_at", 7)]) (N := ["_law_dice_here", "_law_one", "_law_other", "_law_first", "_law_second", "_law_many", "_law_signs", "_law_at"]) (sc := defScope s_Lshapes_right) (by decide +kernel)) (fun _ _ _ _ _ => (pgn (i := 7) sc_Lshapes_right.nd)) (fun _ _ _ _ _ => pts_nilm) (fun _ _ _ _ _ => (pm_ifexp (pt_cmp (om_eqG hr.u65) (pm_bin om_mod (pm_var (i := 7)) pm_int) pm_int (nomark _)) (pm_ixM (ixm_o (.cons (giOk T.ca_Row T.me_Row_getitem T.fi_Row_getitem (ok_Row_getitem T) (hr.mono (by decide)) hg) .nil) (ixm_g hr.u1 (fun _ _ => rfl))) (pm_var (i := 1)) (pm_var (i := 7))) (pm_un (um_negO (.cons (ngOk T.ca_Row T.me_Row_neg (cm_fnG (ok_Row_neg T) (hr.mono (by decide)) hg)) .nil) um_neg) (pm_ixM (ixm_o (.cons (giOk T.ca_Row T.me_Row_getitem T.fi_Row_getitem (ok_Row_getitem T) (hr.mono (by decide)) hg) .nil) (ixm_g hr.u1 (fun _ _ => rfl))) (pm_var (i := 1)) (pm_var (i := 7)))))))) pa_nilm)))
    (pss_onem (ps_retm (pm_andT (pm_cmp (om_eqG hr.u65) (pm_lst (pa_consm (pm_methO (.cons (meOk T.ca_Row T.sc_Row.1 T.me_Row_at (cm_fnG (ok_Row_at T) (hr.mono (by decide)) hg)) .nil) (pm_var (i := 3)) (pa_consm pm_int pa_nilm)) (pa_consm (pm_methO (.cons (meOk T.ca_Row T.sc_Row.1 T.me_Row_at (cm_fnG (ok_Row_at T) (hr.mono (by decide)) hg)) .nil) (pm_var (i := 3)) (pa_consm (pm_un um_neg pm_int) pa_nilm)) pa_nilm))) (pm_lst (pa_consm (pm_callB (cm_sum rfl) (by rfl) T.n_sum (by decide +kernel) (pa_consm (pm_listValues rfl (pm_var (i := 1)) (by rfl) T.n_list) pa_nilm)) (pa_consm (pm_var (i := 6)) pa_nilm))) (nomark _)) (pm_one (pm_cmp (om_eqO T.ko.bt (.cons (eqOk T.ca_Row T.eq_Row (ok_Row_eq T) (hr.mono (by decide)) hg) .nil) (om_eqG hr.u65)) (pm_methO (.cons (meOk T.ca_Row T.sc_Row.1 T.me_Row_raised (cm_fnG (ok_Row_raised T) (hr.mono (by decide)) hg)) .nil) (pm_var (i := 3)) (pa_consm pm_int pa_nilm)) (pm_cmeth T.ca_Row (by rfl) T.g_Row T.cm_Row_power (ok_Row_power T) (B_Row_power_2 T) (hr.mono (by decide)) hg (pa_consm pm_int pa_nilm)) (nomark _))))))))))))
abbrev g_Row_power_2_many : List D → List D → List D := fun ds es => ds ++ es
theorem B_Row_power_2_many (T : TT P G mg A) : BnD G A.fd_Row_power ["cls", "exponent", "many"] 2 ["many"] g_Row_power_2_many :=
  let ⟨_, h⟩ := T.f_Row_power.kbinds0 (ps := ["cls", "exponent", "many"]) 2 ["many"] [] (fun us _ ws => us ++ ws) (by intro z; cases z) (by intro q hq; cases hq) (fun a _ c => a.append c) (fun _ _ _ _ _ _ us mv ws hu hm hw => match us, mv, ws, hu, hm, hw with | [_, _], [], [_], _, _, _ => by rfl)
  bnd_kw h fun _ _ _ _ _ _ _ _ a b => a.append b
theorem sc_Row_low : FnScope ["self"] ["self"] (defScope s_Row_low) := ⟨rfl, rfl, rfl, by decide +kernel, rfl, by decide +kernel, by decide +kernel⟩
def b_Row_low : MS := (sRet (mCallK fMinD (mCons (mUn (atD [(15, .slot 0)]) (mVar 0)) mNil) (mCons (mC .non) mNil)))
def m_Row_low : MF := mkF 1 1 b_Row_low
theorem ok_Row_low (T : TT P G mg A) : FnG G P w mg base 1 A.a_Row_low m_Row_low :=
  fn_okG T.f_Row_low sc_Row_low rfl rfl (T.f_Row_low.binds fun _ _ _ _ _ _ us hl => match us, hl with | [_], _ => rfl) fun cdv Ar outer s H E hr hg =>
    (pss_onem (ps_retm (pm_minD rfl (pm_at (.cons (atSl T.ca_Row T.sc_Row.1 T.s1_Row_own_terms) .nil) (pm_var (i := 0))) pm_non (by rfl) T.n_min)))
theorem sc_Lright : FnScope ["_law_dice_here", "_law_one", "_law_other", "_law_product", "_law_near", "_law_some", "_law_many", "_law_exponent", "_law_sign", "_law_power", "_law_count"] ["_law_dice_here"] (defScope s_Lright) := ⟨rfl, rfl, rfl, by decide +kernel, rfl, by decide +kernel, by decide +kernel⟩
def b_Lright : MS := (sSeq (sPar 1 2 (mCons (mCall m_Ldrawn_row (mCons (mVar 0) (mCons (mC (.int 5)) (mCons (mC (.int 6)) mNil)))) (mCons (mCall m_Ldrawn_row (mCons (mVar 0) (mCons (mC (.int 4)) (mCons (mC (.int 6)) mNil)))) mNil)))
  (sSeq (sSet 3 (mCall m_Ltimes (mCons (mVar 1) (mCons (mVar 2) mNil))))
  (sSeq (sSet 4 (mCall m_Ladded (mCons (mVar 3) (mCons (mDisp [((mBin (binO [(15, m_Row_sub)] bSub) (mCall mRoll (mCons (mVar 0) (mCons (mC (.int 13)) mNil))) (mC (.int 6))), (mCall m_Lpick (mCons (mVar 0) (mCons (mLst (mCons (mC (.int 1)) (mCons (mUn uNeg (mC (.int 1))) (mCons (mC (.int 2)) mNil)))) mNil))))]) (mCons (mC (.int 1)) mNil)))))
  (sSeq (sFor (mIt (mTup (mCons (mVar 3) (mCons (mVar 4) (mCons (mVar 1) mNil))))) (.nm 5) (sIf (tOrM (tNotM (mTru (mCall m_Lquotient_right (mCons (mVar 5) (mCons (mVar 2) mNil))))) (tNotM (mTru (mCall m_Lquotient_right (mCons (mVar 5) (mCons (mVar 1) mNil)))))) (sRet (mC (.bl false))) sSkip))
  (sSeq (sSet 6 (mCall mRoll (mCons (mVar 0) (mCons (mC (.int 4)) mNil))))
  (sSeq (sIf (tOrM (tNotM (mTru (mCall m_Lis_row (mCons (mMethO [(15, m_Row_raised)] (mCall (fun ds S => n_Row_init_2 ds [] S) (mCons (mVar 1) mNil)) (mCons (mVar 6) mNil)) (mCons (mCall m_Lraised (mCons (mVar 1) (mCons (mVar 6) mNil))) mNil))))) (tNotM (mTru (mCall m_Lshapes_right (mCons (mVar 0) (mCons (mVar 1) (mCons (mVar 2) mNil))))))) (sRet (mC (.bl false))) sSkip)
  (sSeq (sPar 7 8 (mCons (mBin (binO [(15, m_Row_sub)] bSub) (mCall mRoll (mCons (mVar 0) (mCons (mC (.int 21)) mNil))) (mC (.int 10))) (mCons (mCall m_Lpick (mCons (mVar 0) (mCons (mLst (mCons (mC (.int 1)) (mCons (mUn uNeg (mC (.int 1))) mNil))) mNil))) mNil)))
  (sSeq (sPar 9 10 (mCons (mCmethK 15 (mkK 2 1 g_Row_power_2_many m_Row_power) (mCons (mVar 7) mNil) (mCons (mVar 8) mNil)) (mCons (mCall mRoll (mCons (mVar 0) (mCons (mC (.int 90)) mNil))) mNil)))
  (sRet (mAndT (mBin (eqO [(15, m_Row_eq)] eqts cEqG) (mBin (binO [(15, m_Row_mul)] bMul) (mMethO [(15, m_Row_raised)] (mVar 9) (mCons (mUn (unO [(15, m_Row_neg)] uNeg) (mVar 10)) mNil)) (mMethO [(15, m_Row_raised)] (mVar 9) (mCons (mVar 10) mNil))) (mCmeth 15 (mkK 2 0 g_Row_power_2 m_Row_power) (mCons (mC (.int 0)) mNil))) (mBin (eqO [(15, m_Row_eq)] eqts cEqG) (mUn (atD [(15, .prop m_Row_low)]) (mMethO [(15, m_Row_raised)] (mVar 9) (mCons (mUn (unO [(15, m_Row_neg)] uNeg) (mVar 10)) mNil))) (mBin (binO [(15, m_Row_mul)] bMul) (mUn (unO [(15, m_Row_neg)] uNeg) (mVar 7)) (mVar 10)))))))))))))
def m_Lright : MF := mkF 11 1 b_Lright
theorem ok_Lright (T : TT P G mg A) : FnG G P w mg base 15 A.a_Lright m_Lright :=
  fn_okG T.f_Lright sc_Lright rfl rfl (T.f_Lright.binds fun _ _ _ _ _ _ us hl => match us, hl with | [_], _ => rfl) fun cdv Ar outer s H E hr hg =>
    (pss_consm (ps_parm (i := 1) (j := 2) (fun _ h => ps_par (by rfl) sc_Lright.nd rfl rfl (by decide) rfl rfl h (by rfl)) (pa_consm (pm_call (cm_fnG (ok_Ldrawn_row T) (hr.mono (by decide)) hg) (by rfl) T.g_Ldrawn_row T.f_Ldrawn_row.kp (pa_consm (pm_var (i := 0)) (pa_consm pm_int (pa_consm pm_int pa_nilm)))) (pa_consm (pm_call (cm_fnG (ok_Ldrawn_row T) (hr.mono (by decide)) hg) (by rfl) T.g_Ldrawn_row T.f_Ldrawn_row.kp (pa_consm (pm_var (i := 0)) (pa_consm pm_int (pa_consm pm_int pa_nilm)))) pa_nilm)))
    (pss_consm (ps_setm (i := 3) sc_Lright.nd (pm_call (cm_fnG (ok_Ltimes T) (hr.mono (by decide)) hg) (by rfl) T.g_Ltimes T.f_Ltimes.kp (pa_consm (pm_var (i := 1)) (pa_consm (pm_var (i := 2)) pa_nilm))))
    (pss_consm (ps_setm (i := 4) sc_Lright.nd (pm_call (cm_fnG (ok_Ladded T) (hr.mono (by decide)) hg) (by rfl) T.g_Ladded T.f_Ladded.kp (pa_consm (pm_var (i := 3)) (pa_consm (pm_disp (.cons (pm_bin (om_binO (.cons (boOk T.ca_Row T.bo_Row_sub (cm_fnG (ok_Row_sub T) (hr.mono (by decide)) hg)) .nil) om_sub) (pm_call (cm_fnG (ok_Lroll T) (hr.mono (by decide)) hg) (by rfl) T.g_Lroll T.f_Lroll.kp (pa_consm (pm_var (i := 0)) (pa_consm pm_int pa_nilm))) pm_int) (pm_call (cm_fnG (ok_Lpick T) (hr.mono (by decide)) hg) (by rfl) T.g_Lpick T.f_Lpick.kp (pa_consm (pm_var (i := 0)) (pa_consm (pm_lst (pa_consm pm_int (pa_consm (pm_un um_neg pm_int) (pa_consm pm_int pa_nilm)))) pa_nilm))) .nil)) (pa_consm pm_int pa_nilm)))))
    (pss_consm (ps_form (by rfl) (pi_anym (pm_tup (pa_consm (pm_var (i := 3)) (pa_consm (pm_var (i := 4)) (pa_consm (pm_var (i := 1)) pa_nilm))))) (pgn (i := 5) sc_Lright.nd) (pss_onem (ps_ifm (pt_w (pw_orm (pt_notm (pt_tru (pm_call (cm_fnG (ok_Lquotient_right T) (hr.mono (by decide)) hg) (by rfl) T.g_Lquotient_right T.f_Lquotient_right.kp (pa_consm (pm_var (i := 5)) (pa_consm (pm_var (i := 2)) pa_nilm))))) (pw_or1m (pt_notm (pt_tru (pm_call (cm_fnG (ok_Lquotient_right T) (hr.mono (by decide)) hg) (by rfl) T.g_Lquotient_right T.f_Lquotient_right.kp (pa_consm (pm_var (i := 5)) (pa_consm (pm_var (i := 1)) pa_nilm)))))))) (pss_onem (ps_retm pm_bl)) pss_nilm)))
    (pss_consm (ps_setm (i := 6) sc_Lright.nd (pm_call (cm_fnG (ok_Lroll T) (hr.mono (by decide)) hg) (by rfl) T.g_Lroll T.f_Lroll.kp (pa_consm (pm_var (i := 0)) (pa_consm pm_int pa_nilm))))
    (pss_consm (ps_ifm (pt_w (pw_orm (pt_notm (pt_tru (pm_call (cm_fnG (ok_Lis_row T) (hr.mono (by decide)) hg) (by rfl) T.g_Lis_row T.f_Lis_row.kp (pa_consm (pm_methO (.cons (meOk T.ca_Row T.sc_Row.1 T.me_Row_raised (cm_fnG (ok_Row_raised T) (hr.mono (by decide)) hg)) .nil) (pm_call (CallMK.pos (cm_make T.ca_Row T.mk_Row (ok_Row_init T) (B_Row_init_2 T) (hr.mono (by decide)) hg)) (by rfl) T.g_Row T.mk_Row.kp (pa_consm (pm_var (i := 1)) pa_nilm)) (pa_consm (pm_var (i := 6)) pa_nilm)) (pa_consm (pm_call (cm_fnG (ok_Lraised T) (hr.mono (by decide)) hg) (by rfl) T.g_Lraised T.f_Lraised.kp (pa_consm (pm_var (i := 1)) (pa_consm (pm_var (i := 6)) pa_nilm))) pa_nilm))))) (pw_or1m (pt_notm (pt_tru (pm_call (cm_fnG (ok_Lshapes_right T) (hr.mono (by decide)) hg) (by rfl) T.g_Lshapes_right T.f_Lshapes_right.kp (pa_consm (pm_var (i := 0)) (pa_consm (pm_var (i := 1)) (pa_consm (pm_var (i := 2)) pa_nilm))))))))) (pss_onem (ps_retm pm_bl)) pss_nilm)
    (pss_consm (ps_parm (i := 7) (j := 8) (fun _ h => ps_par (by rfl) sc_Lright.nd rfl rfl (by decide) rfl rfl h (by rfl)) (pa_consm (pm_bin (om_binO (.cons (boOk T.ca_Row T.bo_Row_sub (cm_fnG (ok_Row_sub T) (hr.mono (by decide)) hg)) .nil) om_sub) (pm_call (cm_fnG (ok_Lroll T) (hr.mono (by decide)) hg) (by rfl) T.g_Lroll T.f_Lroll.kp (pa_consm (pm_var (i := 0)) (pa_consm pm_int pa_nilm))) pm_int) (pa_consm (pm_call (cm_fnG (ok_Lpick T) (hr.mono (by decide)) hg) (by rfl) T.g_Lpick T.f_Lpick.kp (pa_consm (pm_var (i := 0)) (pa_consm (pm_lst (pa_consm pm_int (pa_consm (pm_un um_neg pm_int) pa_nilm))) pa_nilm))) pa_nilm)))
    (pss_consm (ps_parm (i := 9) (j := 10) (fun _ h => ps_par (by rfl) sc_Lright.nd rfl rfl (by decide) rfl rfl h (by rfl)) (pa_consm (pm_cmethK T.ca_Row (by rfl) T.g_Row T.cm_Row_power (ok_Row_power T) (B_Row_power_2_many T) (hr.mono (by decide)) hg (pa_consm (pm_var (i := 7)) pa_nilm) (pk_consm (pm_var (i := 8)) pk_nilm)) (pa_consm (pm_call (cm_fnG (ok_Lroll T) (hr.mono (by decide)) hg) (by rfl) T.g_Lroll T.f_Lroll.kp (pa_consm (pm_var (i := 0)) (pa_consm pm_int pa_nilm))) pa_nilm)))
    (pss_onem (ps_retm (pm_andT (pm_cmp (om_eqO T.ko.bt (.cons (eqOk T.ca_Row T.eq_Row (ok_Row_eq T) (hr.mono (by decide)) hg) .nil) (om_eqG hr.u65)) (pm_bin (om_binO (.cons (boOk T.ca_Row T.bo_Row_mul (cm_fnG (ok_Row_mul T) (hr.mono (by decide)) hg)) .nil) om_mul) (pm_methO (.cons (meOk T.ca_Row T.sc_Row.1 T.me_Row_raised (cm_fnG (ok_Row_raised T) (hr.mono (by decide)) hg)) .nil) (pm_var (i := 9)) (pa_consm (pm_un (um_negO (.cons (ngOk T.ca_Row T.me_Row_neg (cm_fnG (ok_Row_neg T) (hr.mono (by decide)) hg)) .nil) um_neg) (pm_var (i := 10))) pa_nilm)) (pm_methO (.cons (meOk T.ca_Row T.sc_Row.1 T.me_Row_raised (cm_fnG (ok_Row_raised T) (hr.mono (by decide)) hg)) .nil) (pm_var (i := 9)) (pa_consm (pm_var (i := 10)) pa_nilm))) (pm_cmeth T.ca_Row (by rfl) T.g_Row T.cm_Row_power (ok_Row_power T) (B_Row_power_2 T) (hr.mono (by decide)) hg (pa_consm pm_int pa_nilm)) (nomark _)) (pm_one (pm_cmp (om_eqO T.ko.bt (.cons (eqOk T.ca_Row T.eq_Row (ok_Row_eq T) (hr.mono (by decide)) hg) .nil) (om_eqG hr.u65)) (pm_at (.cons (atPr T.ca_Row T.sc_Row.1 T.pr_Row_low (ok_Row_low T) (hr.mono (by decide)) hg) .nil) (pm_methO (.cons (meOk T.ca_Row T.sc_Row.1 T.me_Row_raised (cm_fnG (ok_Row_raised T) (hr.mono (by decide)) hg)) .nil) (pm_var (i := 9)) (pa_consm (pm_un (um_negO (.cons (ngOk T.ca_Row T.me_Row_neg (cm_fnG (ok_Row_neg T) (hr.mono (by decide)) hg)) .nil) um_neg) (pm_var (i := 10))) pa_nilm))) (pm_bin (om_binO (.cons (boOk T.ca_Row T.bo_Row_mul (cm_fnG (ok_Row_mul T) (hr.mono (by decide)) hg)) .nil) om_mul) (pm_un (um_negO (.cons (ngOk T.ca_Row T.me_Row_neg (cm_fnG (ok_Row_neg T) (hr.mono (by decide)) hg)) .nil) um_neg) (pm_var (i := 7))) (pm_var (i := 10))) (nomark _))))))))))))))
theorem sc_Row_str : FnScope ["self"] ["self"] (defScope s_Row_str) := ⟨rfl, rfl, rfl, by decide +kernel, rfl, by decide +kernel, by decide +kernel⟩
def b_Row_str : MS := (sRet (mUn fmtV (mCall m_terms_text (mCons (mUn (atD [(15, .slot 0)]) (mVar 0)) mNil))))
def m_Row_str : MF := mkF 1 1 b_Row_str
theorem ok_Row_str (T : TT P G mg A) : FnG G P w mg base 4 A.a_Row_str m_Row_str :=
  fn_okG T.f_Row_str sc_Row_str rfl rfl (T.f_Row_str.binds fun _ _ _ _ _ _ us hl => match us, hl with | [_], _ => rfl) fun cdv Ar outer s H E hr hg =>
    (pss_onem (ps_retm (pm_joined1 (pm_fmt (pm_call (cm_fnG (ok_terms_text T) (hr.mono (by decide)) hg) (by rfl) T.g_terms_text T.f_terms_text.kp (pa_consm (pm_at (.cons (atSl T.ca_Row T.sc_Row.1 T.s1_Row_own_terms) .nil) (pm_var (i := 0))) pa_nilm))))))
theorem sc_law : FnScope ["_law_script", "_law_spot", "_law_dice_here", "_law_turn", "_law_circle_here", "_law_told"] ["_law_script"] (defScope s_law) := ⟨rfl, rfl, rfl, by decide +kernel, rfl, by decide +kernel, by decide +kernel⟩
def b_law : MS := (sSeq (sFor (mIts itRng1 (mCons (mCall fMax2 (mCons (mC (.int 1)) (mCons (mCall fMin2 (mCons (mC (.int 3)) (mCons (mCall fLenG (mCons (mVar 0) mNil)) mNil))) mNil))) mNil)) (.nm 1) (sSeq (sSet 2 (mCall mDice (mCons (mVar 0) (mCons (mVar 1) mNil))))
  (sFor (mIts itRng1 (mCons (mC (.int 2)) mNil)) (.nm 3) (sIf (tNotM (mTru (mCall m_Lright (mCons (mVar 2) mNil)))) (sRet (mC (.bl false))) sSkip))))
  (sSeq (sSet 4 (mCall (fun ds S => n_Row_init_2 ds [] S) (mCons (mCall m_Lcircle mNil) mNil)))
  (sSeq (sSet 5 (mLst (mCons (mCall (fStrO [(15, m_Row_str)]) (mCons (mMethO [(15, m_Row_raised)] (mVar 4) (mCons (mC (.int 2)) mNil)) mNil)) (mCons (mMethO [(15, m_Row_at)] (mVar 4) (mCons (mC (.int 1)) mNil)) (mCons (mCall (fStrO [(15, m_Row_str)]) (mCons (mMethO [(15, m_Row_raised)] (mCmethK 15 (mkK 2 1 g_Row_power_2_many m_Row_power) (mCons (mC (.int 3)) mNil) (mCons (mUn uNeg (mC (.int 1))) mNil)) (mCons (mUn uNeg (mC (.int 2))) mNil)) mNil)) (mCons (mCall (fStrO [(15, m_Row_str)]) (mCons (mMethO [(15, m_Row_spread)] (mVar 4) (mCons (mUn uNeg (mC (.int 3))) mNil)) mNil)) (mCons (mCall (fStrO [(15, m_Row_str)]) (mCons (mMethO [(15, m_Row_shifted)] (mVar 4) (mCons (mC (.int 2)) mNil)) mNil)) mNil)))))))
  (sSeq (sIf (mTst cNeG (mVar 5) (mLst (mCons (mC (.str [120, 94, 45, 52, 32, 43, 32, 50, 32, 43, 32, 120, 94, 52])) (mCons (mUn uNeg (mC (.int 2))) (mCons (mC (.str [120, 94, 45, 54])) (mCons (mC (.str [45, 120, 94, 45, 54, 32, 45, 32, 120, 94, 54])) (mCons (mC (.str [45, 49, 32, 45, 32, 120, 94, 52])) mNil))))))) (sRet (mC (.bl false))) sSkip)
  (sRet (mAndT (mBin (eqO [(15, m_Row_eq)] eqts cEqG) (mMethO [(15, m_Row_quotient)] (mCall (fun ds S => n_Row_init_2 ds [] S) (mCons (mDisp [((mC (.int 0)), (mC (.int 1))), ((mC (.int 1)), (mC (.int 1)))]) mNil)) (mCons (mCall (fun ds S => n_Row_init_2 ds [] S) (mCons (mDisp [((mC (.int 5)), (mC (.int 1))), ((mC (.int 6)), (mC (.int 1)))]) mNil)) mNil)) (mCmeth 15 (mkK 2 0 g_Row_power_2 m_Row_power) (mCons (mUn uNeg (mC (.int 5))) mNil))) (mBin cIs (mCall m_Ltold_quotient (mCons (mDisp [((mUn uNeg (mC (.int 2))), (mUn uNeg (mC (.int 1)))), ((mC (.int 2)), (mUn uNeg (mC (.int 1))))]) (mCons (mDisp [((mC (.int 0)), (mC (.int 1))), ((mC (.int 1)), (mC (.int 1)))]) mNil))) (mC .non))))))))
def m_law : MF := mkF 6 1 b_law
def b_law1 : MS := (sFor (mIts itRng1 (mCons (mCall fMax2 (mCons (mC (.int 1)) (mCons (mCall fMin2 (mCons (mC (.int 3)) (mCons (mCall fLenG (mCons (mVar 0) mNil)) mNil))) mNil))) mNil)) (.nm 1) (sSeq (sSet 2 (mCall mDice (mCons (mVar 0) (mCons (mVar 1) mNil))))
  (sFor (mIts itRng1 (mCons (mC (.int 2)) mNil)) (.nm 3) (sIf (tNotM (mTru (mCall m_Lright (mCons (mVar 2) mNil)))) (sRet (mC (.bl false))) sSkip))))
def b_law2 : MS := (sSeq (sSet 4 (mCall (fun ds S => n_Row_init_2 ds [] S) (mCons (mCall m_Lcircle mNil) mNil)))
  (sSeq (sSet 5 (mLst (mCons (mCall (fStrO [(15, m_Row_str)]) (mCons (mMethO [(15, m_Row_raised)] (mVar 4) (mCons (mC (.int 2)) mNil)) mNil)) (mCons (mMethO [(15, m_Row_at)] (mVar 4) (mCons (mC (.int 1)) mNil)) (mCons (mCall (fStrO [(15, m_Row_str)]) (mCons (mMethO [(15, m_Row_raised)] (mCmethK 15 (mkK 2 1 g_Row_power_2_many m_Row_power) (mCons (mC (.int 3)) mNil) (mCons (mUn uNeg (mC (.int 1))) mNil)) (mCons (mUn uNeg (mC (.int 2))) mNil)) mNil)) (mCons (mCall (fStrO [(15, m_Row_str)]) (mCons (mMethO [(15, m_Row_spread)] (mVar 4) (mCons (mUn uNeg (mC (.int 3))) mNil)) mNil)) (mCons (mCall (fStrO [(15, m_Row_str)]) (mCons (mMethO [(15, m_Row_shifted)] (mVar 4) (mCons (mC (.int 2)) mNil)) mNil)) mNil)))))))
  (sSeq (sIf (mTst cNeG (mVar 5) (mLst (mCons (mC (.str [120, 94, 45, 52, 32, 43, 32, 50, 32, 43, 32, 120, 94, 52])) (mCons (mUn uNeg (mC (.int 2))) (mCons (mC (.str [120, 94, 45, 54])) (mCons (mC (.str [45, 120, 94, 45, 54, 32, 45, 32, 120, 94, 54])) (mCons (mC (.str [45, 49, 32, 45, 32, 120, 94, 52])) mNil))))))) (sRet (mC (.bl false))) sSkip)
  (sRet (mAndT (mBin (eqO [(15, m_Row_eq)] eqts cEqG) (mMethO [(15, m_Row_quotient)] (mCall (fun ds S => n_Row_init_2 ds [] S) (mCons (mDisp [((mC (.int 0)), (mC (.int 1))), ((mC (.int 1)), (mC (.int 1)))]) mNil)) (mCons (mCall (fun ds S => n_Row_init_2 ds [] S) (mCons (mDisp [((mC (.int 5)), (mC (.int 1))), ((mC (.int 6)), (mC (.int 1)))]) mNil)) mNil)) (mCmeth 15 (mkK 2 0 g_Row_power_2 m_Row_power) (mCons (mUn uNeg (mC (.int 5))) mNil))) (mBin cIs (mCall m_Ltold_quotient (mCons (mDisp [((mUn uNeg (mC (.int 2))), (mUn uNeg (mC (.int 1)))), ((mC (.int 2)), (mUn uNeg (mC (.int 1))))]) (mCons (mDisp [((mC (.int 0)), (mC (.int 1))), ((mC (.int 1)), (mC (.int 1)))]) mNil))) (mC .non)))))))
theorem two_law (T : TT P G mg A) (b1 : ∀ ns : List Int, ns.length ≤ 63 → AllS (b_law1 (some (.scr ns) :: List.replicate 5 none) ⟨0, []⟩) (fun sd _ => sd.length = 6) fun d _ => d = .bl true) (b2 : AllS (b_law2 (List.replicate 6 none) ⟨0, []⟩) (fun _ _ => False) fun d _ => d = .bl true) : FnT G P w mg base 16 63 A.a_law :=
  fn_two (N := ["_law_script", "_law_spot", "_law_dice_here", "_law_turn", "_law_circle_here", "_law_told"]) T.f_law sc_law rfl (T.f_law.binds fun _ _ _ _ _ _ us hl => match us, hl with | [_], _ => rfl) (fun cdv Ar outer s H E hr hg => ⟨_, _, rfl, (ps_form (by rfl) (pi_range1m (by rfl) T.n_range (pa_consm (pm_callB (cm_max2 rfl) (by rfl) T.n_max (by decide +kernel) (pa_consm pm_int (pa_consm (pm_callB (cm_min2 rfl) (by rfl) T.n_min (by decide +kernel) (pa_consm pm_int (pa_consm (pm_callB cm_lenG (by rfl) T.n_len (by decide +kernel) (pa_consm (pm_var (i := 0)) pa_nilm)) pa_nilm))) pa_nilm))) pa_nilm)) (pgn (i := 1) sc_law.nd) (pss_consm (ps_setm (i := 2) sc_law.nd (pm_call (cm_fnG (ok_Ldice T) (hr.mono (by decide)) hg) (by rfl) T.g_Ldice T.f_Ldice.kp (pa_consm (pm_var (i := 0)) (pa_consm (pm_var (i := 1)) pa_nilm))))
    (pss_onem (ps_form (by rfl) (pi_range1m (by rfl) T.n_range (pa_consm pm_int pa_nilm)) (pgn (i := 3) sc_law.nd) (pss_onem (ps_ifm (pt_notm (pt_tru (pm_call (cm_fnG (ok_Lright T) (hr.mono (by decide)) hg) (by rfl) T.g_Lright T.f_Lright.kp (pa_consm (pm_var (i := 2)) pa_nilm)))) (pss_onem (ps_retm pm_bl)) pss_nilm)))))), (pss_consm (ps_setm (i := 4) sc_law.nd (pm_call (CallMK.pos (cm_make T.ca_Row T.mk_Row (ok_Row_init T) (B_Row_init_2 T) (hr.mono (by decide)) hg)) (by rfl) T.g_Row T.mk_Row.kp (pa_consm (pm_call0 (cm_fnG (ok_Lcircle T) (hr.mono (by decide)) hg) (by rfl) T.g_Lcircle T.f_Lcircle.kp) pa_nilm)))
    (pss_consm (ps_setm (i := 5) sc_law.nd (pm_lst (pa_consm (pm_callT (cm_strO (.cons (soOk T.ca_Row T.me_Row_str (ok_Row_str T) (hr.mono (by decide)) hg) .nil)) (by rfl) T.n_str (by decide +kernel) (pa_consm (pm_methO (.cons (meOk T.ca_Row T.sc_Row.1 T.me_Row_raised (cm_fnG (ok_Row_raised T) (hr.mono (by decide)) hg)) .nil) (pm_var (i := 4)) (pa_consm pm_int pa_nilm)) pa_nilm)) (pa_consm (pm_methO (.cons (meOk T.ca_Row T.sc_Row.1 T.me_Row_at (cm_fnG (ok_Row_at T) (hr.mono (by decide)) hg)) .nil) (pm_var (i := 4)) (pa_consm pm_int pa_nilm)) (pa_consm (pm_callT (cm_strO (.cons (soOk T.ca_Row T.me_Row_str (ok_Row_str T) (hr.mono (by decide)) hg) .nil)) (by rfl) T.n_str (by decide +kernel) (pa_consm (pm_methO (.cons (meOk T.ca_Row T.sc_Row.1 T.me_Row_raised (cm_fnG (ok_Row_raised T) (hr.mono (by decide)) hg)) .nil) (pm_cmethK T.ca_Row (by rfl) T.g_Row T.cm_Row_power (ok_Row_power T) (B_Row_power_2_many T) (hr.mono (by decide)) hg (pa_consm pm_int pa_nilm) (pk_consm (pm_un um_neg pm_int) pk_nilm)) (pa_consm (pm_un um_neg pm_int) pa_nilm)) pa_nilm)) (pa_consm (pm_callT (cm_strO (.cons (soOk T.ca_Row T.me_Row_str (ok_Row_str T) (hr.mono (by decide)) hg) .nil)) (by rfl) T.n_str (by decide +kernel) (pa_consm (pm_methO (.cons (meOk T.ca_Row T.sc_Row.1 T.me_Row_spread (cm_fnG (ok_Row_spread T) (hr.mono (by decide)) hg)) .nil) (pm_var (i := 4)) (pa_consm (pm_un um_neg pm_int) pa_nilm)) pa_nilm)) (pa_consm (pm_callT (cm_strO (.cons (soOk T.ca_Row T.me_Row_str (ok_Row_str T) (hr.mono (by decide)) hg) .nil)) (by rfl) T.n_str (by decide +kernel) (pa_consm (pm_methO (.cons (meOk T.ca_Row T.sc_Row.1 T.me_Row_shifted (cm_fnG (ok_Row_shifted T) (hr.mono (by decide)) hg)) .nil) (pm_var (i := 4)) (pa_consm pm_int pa_nilm)) pa_nilm)) pa_nilm)))))))
    (pss_consm (ps_ifm (pt_cmp (om_neG hr.u65) (pm_var (i := 5)) (pm_lst (pa_consm (pm_str (by decide +kernel)) (pa_consm (pm_un um_neg pm_int) (pa_consm (pm_str (by decide +kernel)) (pa_consm (pm_str (by decide +kernel)) (pa_consm (pm_str (by decide +kernel)) pa_nilm)))))) (nomark _)) (pss_onem (ps_retm pm_bl)) pss_nilm)
    (pss_onem (ps_retm (pm_andT (pm_cmp (om_eqO T.ko.bt (.cons (eqOk T.ca_Row T.eq_Row (ok_Row_eq T) (hr.mono (by decide)) hg) .nil) (om_eqG hr.u65)) (pm_methO (.cons (meOk T.ca_Row T.sc_Row.1 T.me_Row_quotient (cm_fnG (ok_Row_quotient T) (hr.mono (by decide)) hg)) .nil) (pm_call (CallMK.pos (cm_make T.ca_Row T.mk_Row (ok_Row_init T) (B_Row_init_2 T) (hr.mono (by decide)) hg)) (by rfl) T.g_Row T.mk_Row.kp (pa_consm (pm_disp (.cons pm_int pm_int (.cons pm_int pm_int .nil))) pa_nilm)) (pa_consm (pm_call (CallMK.pos (cm_make T.ca_Row T.mk_Row (ok_Row_init T) (B_Row_init_2 T) (hr.mono (by decide)) hg)) (by rfl) T.g_Row T.mk_Row.kp (pa_consm (pm_disp (.cons pm_int pm_int (.cons pm_int pm_int .nil))) pa_nilm)) pa_nilm)) (pm_cmeth T.ca_Row (by rfl) T.g_Row T.cm_Row_power (ok_Row_power T) (B_Row_power_2 T) (hr.mono (by decide)) hg (pa_consm (pm_un um_neg pm_int) pa_nilm)) (nomark _)) (pm_one (pm_cmp om_is (pm_call (cm_fnG (ok_Ltold_quotient T) (hr.mono (by decide)) hg) (by rfl) T.g_Ltold_quotient T.f_Ltold_quotient.kp (pa_consm (pm_disp (.cons (pm_un um_neg pm_int) (pm_un um_neg pm_int) (.cons pm_int (pm_un um_neg pm_int) .nil))) (pa_consm (pm_disp (.cons pm_int pm_int (.cons pm_int pm_int .nil))) pa_nilm))) pm_non (nomark _)))))))))⟩) b1 b2
end
def cal (C_InvalidRow C_InvalidNumber C_Row C_TooMany C_InvalidOperation : Addr) : Nat → Value := caL [(11, Value.ref C_InvalidRow), (13, Value.ref C_InvalidNumber), (15, Value.ref C_Row), (14, Value.ref C_TooMany), (12, Value.ref C_InvalidOperation)]
theorem all_mk {K : PySem.W.Frag} {h : Heap} {mg : Str → Option Value} (X : K.In h) (Gn : h.Ns mainGlobals mg) (LL : PySem.W.LooseAre [("BOUND", PySem.W.WData.int 1000000000000000000000000000000000000000000000000000000000000)] mg h)
    {f_is_integer : Addr} {oc_is_integer kV_is_integer dc_is_integer pm_is_integer cd_is_integer ct_is_integer : Value} {od_is_integer an_is_integer : Option Addr} {sl_is_integer : Array (Option Value)}
    {f_is_power : Addr} {oc_is_power kV_is_power dc_is_power pm_is_power cd_is_power ct_is_power : Value} {od_is_power an_is_power : Option Addr} {sl_is_power : Array (Option Value)}
    {f_are_terms : Addr} {oc_are_terms kV_are_terms dc_are_terms pm_are_terms cd_are_terms ct_are_terms : Value} {od_are_terms an_are_terms : Option Addr} {sl_are_terms : Array (Option Value)}
    {f_Row_getitem : Addr} {oc_Row_getitem kV_Row_getitem dc_Row_getitem pm_Row_getitem cd_Row_getitem ct_Row_getitem : Value} {od_Row_getitem an_Row_getitem : Option Addr} {sl_Row_getitem : Array (Option Value)}
    {f_sorted_terms : Addr} {oc_sorted_terms kV_sorted_terms dc_sorted_terms pm_sorted_terms cd_sorted_terms ct_sorted_terms : Value} {od_sorted_terms an_sorted_terms : Option Addr} {sl_sorted_terms : Array (Option Value)}
    {f_Row_init : Addr} {oc_Row_init dc_Row_init pm_Row_init cd_Row_init ct_Row_init : Value} {od_Row_init an_Row_init : Option Addr} {sl_Row_init : Array (Option Value)}
    {kD_Row_init : Addr} {ku_Row_init : Value}
    {f_product_terms : Addr} {oc_product_terms kV_product_terms dc_product_terms pm_product_terms cd_product_terms ct_product_terms : Value} {od_product_terms an_product_terms : Option Addr} {sl_product_terms : Array (Option Value)}
    {f_operand_terms : Addr} {oc_operand_terms kV_operand_terms dc_operand_terms pm_operand_terms cd_operand_terms ct_operand_terms : Value} {od_operand_terms an_operand_terms : Option Addr} {sl_operand_terms : Array (Option Value)}
    {f_Row_mul : Addr} {oc_Row_mul kV_Row_mul dc_Row_mul pm_Row_mul cd_Row_mul ct_Row_mul : Value} {od_Row_mul an_Row_mul : Option Addr} {sl_Row_mul : Array (Option Value)}
    {f_summed_terms : Addr} {oc_summed_terms kV_summed_terms dc_summed_terms pm_summed_terms cd_summed_terms ct_summed_terms : Value} {od_summed_terms an_summed_terms : Option Addr} {sl_summed_terms : Array (Option Value)}
    {f_Row_add : Addr} {oc_Row_add kV_Row_add dc_Row_add pm_Row_add cd_Row_add ct_Row_add : Value} {od_Row_add an_Row_add : Option Addr} {sl_Row_add : Array (Option Value)}
    {f_Row_neg : Addr} {oc_Row_neg kV_Row_neg dc_Row_neg pm_Row_neg cd_Row_neg ct_Row_neg : Value} {od_Row_neg an_Row_neg : Option Addr} {sl_Row_neg : Array (Option Value)}
    {f_Row_sub : Addr} {oc_Row_sub kV_Row_sub dc_Row_sub pm_Row_sub cd_Row_sub ct_Row_sub : Value} {od_Row_sub an_Row_sub : Option Addr} {sl_Row_sub : Array (Option Value)}
    {f_Row_eq : Addr} {oc_Row_eq kV_Row_eq dc_Row_eq pm_Row_eq cd_Row_eq ct_Row_eq : Value} {od_Row_eq an_Row_eq : Option Addr} {sl_Row_eq : Array (Option Value)}
    {f_wall : Addr} {oc_wall kV_wall dc_wall pm_wall cd_wall ct_wall : Value} {od_wall an_wall : Option Addr} {sl_wall : Array (Option Value)}
    {f_power_text : Addr} {oc_power_text kV_power_text dc_power_text pm_power_text cd_power_text ct_power_text : Value} {od_power_text an_power_text : Option Addr} {sl_power_text : Array (Option Value)}
    {f_term_text : Addr} {oc_term_text kV_term_text dc_term_text pm_term_text cd_term_text ct_term_text : Value} {od_term_text an_term_text : Option Addr} {sl_term_text : Array (Option Value)}
    {f_terms_text : Addr} {oc_terms_text kV_terms_text dc_terms_text pm_terms_text cd_terms_text ct_terms_text : Value} {od_terms_text an_terms_text : Option Addr} {sl_terms_text : Array (Option Value)}
    {f_quotient_terms : Addr} {oc_quotient_terms kV_quotient_terms dc_quotient_terms pm_quotient_terms cd_quotient_terms ct_quotient_terms : Value} {od_quotient_terms an_quotient_terms : Option Addr} {sl_quotient_terms : Array (Option Value)}
    {f_require_row : Addr} {oc_require_row kV_require_row dc_require_row pm_require_row cd_require_row ct_require_row : Value} {od_require_row an_require_row : Option Addr} {sl_require_row : Array (Option Value)}
    {f_Ldice : Addr} {oc_Ldice kV_Ldice dc_Ldice pm_Ldice cd_Ldice ct_Ldice : Value} {od_Ldice an_Ldice : Option Addr} {sl_Ldice : Array (Option Value)}
    {f_Lroll : Addr} {oc_Lroll kV_Lroll dc_Lroll pm_Lroll cd_Lroll ct_Lroll : Value} {od_Lroll an_Lroll : Option Addr} {sl_Lroll : Array (Option Value)}
    {f_Lpick : Addr} {oc_Lpick kV_Lpick dc_Lpick pm_Lpick cd_Lpick ct_Lpick : Value} {od_Lpick an_Lpick : Option Addr} {sl_Lpick : Array (Option Value)}
    {f_Lrow : Addr} {oc_Lrow kV_Lrow dc_Lrow pm_Lrow cd_Lrow ct_Lrow : Value} {od_Lrow an_Lrow : Option Addr} {sl_Lrow : Array (Option Value)}
    {f_Ladded : Addr} {oc_Ladded kV_Ladded dc_Ladded pm_Ladded cd_Ladded ct_Ladded : Value} {od_Ladded an_Ladded : Option Addr} {sl_Ladded : Array (Option Value)}
    {f_Ltimes : Addr} {oc_Ltimes kV_Ltimes dc_Ltimes pm_Ltimes cd_Ltimes ct_Ltimes : Value} {od_Ltimes an_Ltimes : Option Addr} {sl_Ltimes : Array (Option Value)}
    {f_Lraised : Addr} {oc_Lraised kV_Lraised dc_Lraised pm_Lraised cd_Lraised ct_Lraised : Value} {od_Lraised an_Lraised : Option Addr} {sl_Lraised : Array (Option Value)}
    {f_Lcircle : Addr} {oc_Lcircle kV_Lcircle dc_Lcircle pm_Lcircle cd_Lcircle ct_Lcircle : Value} {od_Lcircle an_Lcircle : Option Addr} {sl_Lcircle : Array (Option Value)}
    {f_Row_terms : Addr} {oc_Row_terms kV_Row_terms dc_Row_terms pm_Row_terms cd_Row_terms ct_Row_terms : Value} {od_Row_terms an_Row_terms : Option Addr} {sl_Row_terms : Array (Option Value)}
    {pp_Row_terms : Addr} {pr_Row_terms : List Value}
    {f_Lis_row : Addr} {oc_Lis_row kV_Lis_row dc_Lis_row pm_Lis_row cd_Lis_row ct_Lis_row : Value} {od_Lis_row an_Lis_row : Option Addr} {sl_Lis_row : Array (Option Value)}
    {f_Ldrawn_row : Addr} {oc_Ldrawn_row kV_Ldrawn_row dc_Ldrawn_row pm_Ldrawn_row cd_Ldrawn_row ct_Ldrawn_row : Value} {od_Ldrawn_row an_Ldrawn_row : Option Addr} {sl_Ldrawn_row : Array (Option Value)}
    {f_Lquotient : Addr} {oc_Lquotient kV_Lquotient dc_Lquotient pm_Lquotient cd_Lquotient ct_Lquotient : Value} {od_Lquotient an_Lquotient : Option Addr} {sl_Lquotient : Array (Option Value)}
    {f_Row_quotient : Addr} {oc_Row_quotient kV_Row_quotient dc_Row_quotient pm_Row_quotient cd_Row_quotient ct_Row_quotient : Value} {od_Row_quotient an_Row_quotient : Option Addr} {sl_Row_quotient : Array (Option Value)}
    {f_Ltold_quotient : Addr} {oc_Ltold_quotient kV_Ltold_quotient dc_Ltold_quotient pm_Ltold_quotient cd_Ltold_quotient ct_Ltold_quotient : Value} {od_Ltold_quotient an_Ltold_quotient : Option Addr} {sl_Ltold_quotient : Array (Option Value)}
    {f_Lquotient_right : Addr} {oc_Lquotient_right kV_Lquotient_right dc_Lquotient_right pm_Lquotient_right cd_Lquotient_right ct_Lquotient_right : Value} {od_Lquotient_right an_Lquotient_right : Option Addr} {sl_Lquotient_right : Array (Option Value)}
    {f_Lled : Addr} {oc_Lled kV_Lled dc_Lled pm_Lled cd_Lled ct_Lled : Value} {od_Lled an_Lled : Option Addr} {sl_Lled : Array (Option Value)}
    {f_Row_turned : Addr} {oc_Row_turned kV_Row_turned dc_Row_turned pm_Row_turned cd_Row_turned ct_Row_turned : Value} {od_Row_turned an_Row_turned : Option Addr} {sl_Row_turned : Array (Option Value)}
    {pp_Row_turned : Addr} {pr_Row_turned : List Value}
    {f_Row_spread : Addr} {oc_Row_spread kV_Row_spread dc_Row_spread pm_Row_spread cd_Row_spread ct_Row_spread : Value} {od_Row_spread an_Row_spread : Option Addr} {sl_Row_spread : Array (Option Value)}
    {f_Row_shifted : Addr} {oc_Row_shifted kV_Row_shifted dc_Row_shifted pm_Row_shifted cd_Row_shifted ct_Row_shifted : Value} {od_Row_shifted an_Row_shifted : Option Addr} {sl_Row_shifted : Array (Option Value)}
    {f_Row_at : Addr} {oc_Row_at kV_Row_at dc_Row_at pm_Row_at cd_Row_at ct_Row_at : Value} {od_Row_at an_Row_at : Option Addr} {sl_Row_at : Array (Option Value)}
    {f_Row_power : Addr} {oc_Row_power dc_Row_power pm_Row_power cd_Row_power ct_Row_power : Value} {od_Row_power an_Row_power : Option Addr} {sl_Row_power : Array (Option Value)}
    {kD_Row_power : Addr} {ku_Row_power : Value}
    {pp_Row_power : Addr} {pr_Row_power : List Value}
    {f_Row_raised : Addr} {oc_Row_raised kV_Row_raised dc_Row_raised pm_Row_raised cd_Row_raised ct_Row_raised : Value} {od_Row_raised an_Row_raised : Option Addr} {sl_Row_raised : Array (Option Value)}
    {f_Lshapes_right : Addr} {oc_Lshapes_right kV_Lshapes_right dc_Lshapes_right pm_Lshapes_right cd_Lshapes_right ct_Lshapes_right : Value} {od_Lshapes_right an_Lshapes_right : Option Addr} {sl_Lshapes_right : Array (Option Value)}
    {f_Row_low : Addr} {oc_Row_low kV_Row_low dc_Row_low pm_Row_low cd_Row_low ct_Row_low : Value} {od_Row_low an_Row_low : Option Addr} {sl_Row_low : Array (Option Value)}
    {pp_Row_low : Addr} {pr_Row_low : List Value}
    {f_Lright : Addr} {oc_Lright kV_Lright dc_Lright pm_Lright cd_Lright ct_Lright : Value} {od_Lright an_Lright : Option Addr} {sl_Lright : Array (Option Value)}
    {f_Row_str : Addr} {oc_Row_str kV_Row_str dc_Row_str pm_Row_str cd_Row_str ct_Row_str : Value} {od_Row_str an_Row_str : Option Addr} {sl_Row_str : Array (Option Value)}
    {f_law : Addr} {oc_law kV_law dc_law pm_law cd_law ct_law : Value} {od_law an_law : Option Addr} {sl_law : Array (Option Value)}
    {t_MAX_POWER : Tok}
    {t_LETTER : Tok}
    {u_LETTER : Str}
    {t_MAX_RAISED : Tok}
    {C_InvalidRow : Addr}
    {C_InvalidNumber : Addr}
    {C_Row : Addr}
    {C_TooMany : Addr}
    {C_InvalidOperation : Addr}
    {P_Row_own_terms : Addr}
    {D_InvalidNumber I_InvalidNumber cc_InvalidNumber cda_InvalidNumber : Addr} {qu_InvalidNumber file_InvalidNumber : Str} {kV_InvalidNumber dc_InvalidNumber pm_InvalidNumber ct_InvalidNumber oc_InvalidNumber ccl_InvalidNumber cl_InvalidNumber : Value} {an_InvalidNumber od_InvalidNumber cdd_InvalidNumber cld_InvalidNumber : Option Addr} {osl_InvalidNumber ccs_InvalidNumber csl_InvalidNumber : Array (Option Value)} {vs_InvalidNumber : Array Value} {tf_InvalidNumber : Tok}
    {D_TooMany I_TooMany cc_TooMany cda_TooMany : Addr} {qu_TooMany file_TooMany : Str} {kV_TooMany dc_TooMany pm_TooMany ct_TooMany oc_TooMany ccl_TooMany cl_TooMany : Value} {an_TooMany od_TooMany cdd_TooMany cld_TooMany : Option Addr} {osl_TooMany ccs_TooMany csl_TooMany : Array (Option Value)} {vs_TooMany : Array Value} {tf_TooMany : Tok}
    (a_InvalidOperation : PySem.W.nsIn K mainGlobals "InvalidOperation" = some (some (.ref C_InvalidOperation)))
    (a_TooMany : PySem.W.nsIn K mainGlobals "TooMany" = some (some (.ref C_TooMany)))
    (a_Row : PySem.W.nsIn K mainGlobals "Row" = some (some (.ref C_Row)))
    (a_InvalidNumber : PySem.W.nsIn K mainGlobals "InvalidNumber" = some (some (.ref C_InvalidNumber)))
    (a_InvalidRow : PySem.W.nsIn K mainGlobals "InvalidRow" = some (some (.ref C_InvalidRow)))
    (a_is_integer : PySem.W.nsIn K mainGlobals "is_integer" = some (some (.ref f_is_integer)))
    (l_is_integer : K.lookup f_is_integer = some ⟨oc_is_integer, od_is_integer, .func (PySem.W.fnOf "is_integer" "is_integer" (defArgs s_is_integer) (defBody s_is_integer) (defScope s_is_integer) .none kV_is_integer dc_is_integer pm_is_integer an_is_integer cd_is_integer ct_is_integer), sl_is_integer⟩)
    (k_is_integer : PySem.W.codeIn K cd_is_integer "is_integer" = true)
    (q_is_integer : PySem.W.keepIn K (.ref f_is_integer) = true)
    (a_is_power : PySem.W.nsIn K mainGlobals "is_power" = some (some (.ref f_is_power)))
    (l_is_power : K.lookup f_is_power = some ⟨oc_is_power, od_is_power, .func (PySem.W.fnOf "is_power" "is_power" (defArgs s_is_power) (defBody s_is_power) (defScope s_is_power) .none kV_is_power dc_is_power pm_is_power an_is_power cd_is_power ct_is_power), sl_is_power⟩)
    (k_is_power : PySem.W.codeIn K cd_is_power "is_power" = true)
    (q_is_power : PySem.W.keepIn K (.ref f_is_power) = true)
    (a_are_terms : PySem.W.nsIn K mainGlobals "are_terms" = some (some (.ref f_are_terms)))
    (l_are_terms : K.lookup f_are_terms = some ⟨oc_are_terms, od_are_terms, .func (PySem.W.fnOf "are_terms" "are_terms" (defArgs s_are_terms) (defBody s_are_terms) (defScope s_are_terms) .none kV_are_terms dc_are_terms pm_are_terms an_are_terms cd_are_terms ct_are_terms), sl_are_terms⟩)
    (k_are_terms : PySem.W.codeIn K cd_are_terms "are_terms" = true)
    (q_are_terms : PySem.W.keepIn K (.ref f_are_terms) = true)
    (a_Row_getitem : PySem.W.findIn K (.ref C_Row) "__getitem__" = some (some (.ref f_Row_getitem)))
    (l_Row_getitem : K.lookup f_Row_getitem = some ⟨oc_Row_getitem, od_Row_getitem, .func (PySem.W.fnOf "__getitem__" "Row.__getitem__" (defArgs s_Row_getitem) (defBody s_Row_getitem) (defScope s_Row_getitem) .none kV_Row_getitem dc_Row_getitem pm_Row_getitem an_Row_getitem cd_Row_getitem ct_Row_getitem), sl_Row_getitem⟩)
    (k_Row_getitem : PySem.W.codeIn K cd_Row_getitem "Row.__getitem__" = true)
    (q_Row_getitem : PySem.W.keepIn K (.ref f_Row_getitem) = true)
    (a_sorted_terms : PySem.W.nsIn K mainGlobals "sorted_terms" = some (some (.ref f_sorted_terms)))
    (l_sorted_terms : K.lookup f_sorted_terms = some ⟨oc_sorted_terms, od_sorted_terms, .func (PySem.W.fnOf "sorted_terms" "sorted_terms" (defArgs s_sorted_terms) (defBody s_sorted_terms) (defScope s_sorted_terms) .none kV_sorted_terms dc_sorted_terms pm_sorted_terms an_sorted_terms cd_sorted_terms ct_sorted_terms), sl_sorted_terms⟩)
    (k_sorted_terms : PySem.W.codeIn K cd_sorted_terms "sorted_terms" = true)
    (q_sorted_terms : PySem.W.keepIn K (.ref f_sorted_terms) = true)
    (a_Row_init : PySem.W.findIn K (.ref C_Row) "__init__" = some (some (.ref f_Row_init)))
    (l_Row_init : K.lookup f_Row_init = some ⟨oc_Row_init, od_Row_init, .func (PySem.W.fnOf "__init__" "Row.__init__" (defArgs s_Row_init) (defBody s_Row_init) (defScope s_Row_init) .none (.ref kD_Row_init) dc_Row_init pm_Row_init an_Row_init cd_Row_init ct_Row_init), sl_Row_init⟩)
    (k_Row_init : PySem.W.codeIn K cd_Row_init "Row.__init__" = true)
    (q_Row_init : PySem.W.keepIn K (.ref f_Row_init) = true)
    (z_Row_init : PySem.W.nsIn K kD_Row_init "is_known" = some (some ku_Row_init))
    (y_Row_init : RelV (V.bl false) ku_Row_init)
    (a_product_terms : PySem.W.nsIn K mainGlobals "product_terms" = some (some (.ref f_product_terms)))
    (l_product_terms : K.lookup f_product_terms = some ⟨oc_product_terms, od_product_terms, .func (PySem.W.fnOf "product_terms" "product_terms" (defArgs s_product_terms) (defBody s_product_terms) (defScope s_product_terms) .none kV_product_terms dc_product_terms pm_product_terms an_product_terms cd_product_terms ct_product_terms), sl_product_terms⟩)
    (k_product_terms : PySem.W.codeIn K cd_product_terms "product_terms" = true)
    (q_product_terms : PySem.W.keepIn K (.ref f_product_terms) = true)
    (a_operand_terms : PySem.W.nsIn K mainGlobals "operand_terms" = some (some (.ref f_operand_terms)))
    (l_operand_terms : K.lookup f_operand_terms = some ⟨oc_operand_terms, od_operand_terms, .func (PySem.W.fnOf "operand_terms" "operand_terms" (defArgs s_operand_terms) (defBody s_operand_terms) (defScope s_operand_terms) .none kV_operand_terms dc_operand_terms pm_operand_terms an_operand_terms cd_operand_terms ct_operand_terms), sl_operand_terms⟩)
    (k_operand_terms : PySem.W.codeIn K cd_operand_terms "operand_terms" = true)
    (q_operand_terms : PySem.W.keepIn K (.ref f_operand_terms) = true)
    (a_Row_mul : PySem.W.findIn K (.ref C_Row) "__mul__" = some (some (.ref f_Row_mul)))
    (l_Row_mul : K.lookup f_Row_mul = some ⟨oc_Row_mul, od_Row_mul, .func (PySem.W.fnOf "__mul__" "Row.__mul__" (defArgs s_Row_mul) (defBody s_Row_mul) (defScope s_Row_mul) .none kV_Row_mul dc_Row_mul pm_Row_mul an_Row_mul cd_Row_mul ct_Row_mul), sl_Row_mul⟩)
    (k_Row_mul : PySem.W.codeIn K cd_Row_mul "Row.__mul__" = true)
    (q_Row_mul : PySem.W.keepIn K (.ref f_Row_mul) = true)
    (a_summed_terms : PySem.W.nsIn K mainGlobals "summed_terms" = some (some (.ref f_summed_terms)))
    (l_summed_terms : K.lookup f_summed_terms = some ⟨oc_summed_terms, od_summed_terms, .func (PySem.W.fnOf "summed_terms" "summed_terms" (defArgs s_summed_terms) (defBody s_summed_terms) (defScope s_summed_terms) .none kV_summed_terms dc_summed_terms pm_summed_terms an_summed_terms cd_summed_terms ct_summed_terms), sl_summed_terms⟩)
    (k_summed_terms : PySem.W.codeIn K cd_summed_terms "summed_terms" = true)
    (q_summed_terms : PySem.W.keepIn K (.ref f_summed_terms) = true)
    (a_Row_add : PySem.W.findIn K (.ref C_Row) "__add__" = some (some (.ref f_Row_add)))
    (l_Row_add : K.lookup f_Row_add = some ⟨oc_Row_add, od_Row_add, .func (PySem.W.fnOf "__add__" "Row.__add__" (defArgs s_Row_add) (defBody s_Row_add) (defScope s_Row_add) .none kV_Row_add dc_Row_add pm_Row_add an_Row_add cd_Row_add ct_Row_add), sl_Row_add⟩)
    (k_Row_add : PySem.W.codeIn K cd_Row_add "Row.__add__" = true)
    (q_Row_add : PySem.W.keepIn K (.ref f_Row_add) = true)
    (a_Row_neg : PySem.W.findIn K (.ref C_Row) "__neg__" = some (some (.ref f_Row_neg)))
    (l_Row_neg : K.lookup f_Row_neg = some ⟨oc_Row_neg, od_Row_neg, .func (PySem.W.fnOf "__neg__" "Row.__neg__" (defArgs s_Row_neg) (defBody s_Row_neg) (defScope s_Row_neg) .none kV_Row_neg dc_Row_neg pm_Row_neg an_Row_neg cd_Row_neg ct_Row_neg), sl_Row_neg⟩)
    (k_Row_neg : PySem.W.codeIn K cd_Row_neg "Row.__neg__" = true)
    (q_Row_neg : PySem.W.keepIn K (.ref f_Row_neg) = true)
    (a_Row_sub : PySem.W.findIn K (.ref C_Row) "__sub__" = some (some (.ref f_Row_sub)))
    (l_Row_sub : K.lookup f_Row_sub = some ⟨oc_Row_sub, od_Row_sub, .func (PySem.W.fnOf "__sub__" "Row.__sub__" (defArgs s_Row_sub) (defBody s_Row_sub) (defScope s_Row_sub) .none kV_Row_sub dc_Row_sub pm_Row_sub an_Row_sub cd_Row_sub ct_Row_sub), sl_Row_sub⟩)
    (k_Row_sub : PySem.W.codeIn K cd_Row_sub "Row.__sub__" = true)
    (q_Row_sub : PySem.W.keepIn K (.ref f_Row_sub) = true)
    (a_Row_eq : PySem.W.findIn K (.ref C_Row) "__eq__" = some (some (.ref f_Row_eq)))
    (l_Row_eq : K.lookup f_Row_eq = some ⟨oc_Row_eq, od_Row_eq, .func (PySem.W.fnOf "__eq__" "Row.__eq__" (defArgs s_Row_eq) (defBody s_Row_eq) (defScope s_Row_eq) .none kV_Row_eq dc_Row_eq pm_Row_eq an_Row_eq cd_Row_eq ct_Row_eq), sl_Row_eq⟩)
    (k_Row_eq : PySem.W.codeIn K cd_Row_eq "Row.__eq__" = true)
    (q_Row_eq : PySem.W.keepIn K (.ref f_Row_eq) = true)
    (a_wall : PySem.W.nsIn K mainGlobals "_wall" = some (some (.ref f_wall)))
    (l_wall : K.lookup f_wall = some ⟨oc_wall, od_wall, .func (PySem.W.fnOf "_wall" "_wall" (defArgs s_wall) (defBody s_wall) (defScope s_wall) .none kV_wall dc_wall pm_wall an_wall cd_wall ct_wall), sl_wall⟩)
    (k_wall : PySem.W.codeIn K cd_wall "_wall" = true)
    (q_wall : PySem.W.keepIn K (.ref f_wall) = true)
    (a_power_text : PySem.W.nsIn K mainGlobals "power_text" = some (some (.ref f_power_text)))
    (l_power_text : K.lookup f_power_text = some ⟨oc_power_text, od_power_text, .func (PySem.W.fnOf "power_text" "power_text" (defArgs s_power_text) (defBody s_power_text) (defScope s_power_text) .none kV_power_text dc_power_text pm_power_text an_power_text cd_power_text ct_power_text), sl_power_text⟩)
    (k_power_text : PySem.W.codeIn K cd_power_text "power_text" = true)
    (q_power_text : PySem.W.keepIn K (.ref f_power_text) = true)
    (a_term_text : PySem.W.nsIn K mainGlobals "term_text" = some (some (.ref f_term_text)))
    (l_term_text : K.lookup f_term_text = some ⟨oc_term_text, od_term_text, .func (PySem.W.fnOf "term_text" "term_text" (defArgs s_term_text) (defBody s_term_text) (defScope s_term_text) .none kV_term_text dc_term_text pm_term_text an_term_text cd_term_text ct_term_text), sl_term_text⟩)
    (k_term_text : PySem.W.codeIn K cd_term_text "term_text" = true)
    (q_term_text : PySem.W.keepIn K (.ref f_term_text) = true)
    (a_terms_text : PySem.W.nsIn K mainGlobals "terms_text" = some (some (.ref f_terms_text)))
    (l_terms_text : K.lookup f_terms_text = some ⟨oc_terms_text, od_terms_text, .func (PySem.W.fnOf "terms_text" "terms_text" (defArgs s_terms_text) (defBody s_terms_text) (defScope s_terms_text) .none kV_terms_text dc_terms_text pm_terms_text an_terms_text cd_terms_text ct_terms_text), sl_terms_text⟩)
    (k_terms_text : PySem.W.codeIn K cd_terms_text "terms_text" = true)
    (q_terms_text : PySem.W.keepIn K (.ref f_terms_text) = true)
    (a_quotient_terms : PySem.W.nsIn K mainGlobals "quotient_terms" = some (some (.ref f_quotient_terms)))
    (l_quotient_terms : K.lookup f_quotient_terms = some ⟨oc_quotient_terms, od_quotient_terms, .func (PySem.W.fnOf "quotient_terms" "quotient_terms" (defArgs s_quotient_terms) (defBody s_quotient_terms) (defScope s_quotient_terms) .none kV_quotient_terms dc_quotient_terms pm_quotient_terms an_quotient_terms cd_quotient_terms ct_quotient_terms), sl_quotient_terms⟩)
    (k_quotient_terms : PySem.W.codeIn K cd_quotient_terms "quotient_terms" = true)
    (q_quotient_terms : PySem.W.keepIn K (.ref f_quotient_terms) = true)
    (a_require_row : PySem.W.nsIn K mainGlobals "require_row" = some (some (.ref f_require_row)))
    (l_require_row : K.lookup f_require_row = some ⟨oc_require_row, od_require_row, .func (PySem.W.fnOf "require_row" "require_row" (defArgs s_require_row) (defBody s_require_row) (defScope s_require_row) .none kV_require_row dc_require_row pm_require_row an_require_row cd_require_row ct_require_row), sl_require_row⟩)
    (k_require_row : PySem.W.codeIn K cd_require_row "require_row" = true)
    (q_require_row : PySem.W.keepIn K (.ref f_require_row) = true)
    (a_Ldice : PySem.W.nsIn K mainGlobals "_law_dice" = some (some (.ref f_Ldice)))
    (l_Ldice : K.lookup f_Ldice = some ⟨oc_Ldice, od_Ldice, .func (PySem.W.fnOf "_law_dice" "_law_dice" (defArgs s_Ldice) (defBody s_Ldice) (defScope s_Ldice) .none kV_Ldice dc_Ldice pm_Ldice an_Ldice cd_Ldice ct_Ldice), sl_Ldice⟩)
    (k_Ldice : PySem.W.codeIn K cd_Ldice "_law_dice" = true)
    (q_Ldice : PySem.W.keepIn K (.ref f_Ldice) = true)
    (a_Lroll : PySem.W.nsIn K mainGlobals "_law_roll" = some (some (.ref f_Lroll)))
    (l_Lroll : K.lookup f_Lroll = some ⟨oc_Lroll, od_Lroll, .func (PySem.W.fnOf "_law_roll" "_law_roll" (defArgs s_Lroll) (defBody s_Lroll) (defScope s_Lroll) .none kV_Lroll dc_Lroll pm_Lroll an_Lroll cd_Lroll ct_Lroll), sl_Lroll⟩)
    (k_Lroll : PySem.W.codeIn K cd_Lroll "_law_roll" = true)
    (q_Lroll : PySem.W.keepIn K (.ref f_Lroll) = true)
    (a_Lpick : PySem.W.nsIn K mainGlobals "_law_pick" = some (some (.ref f_Lpick)))
    (l_Lpick : K.lookup f_Lpick = some ⟨oc_Lpick, od_Lpick, .func (PySem.W.fnOf "_law_pick" "_law_pick" (defArgs s_Lpick) (defBody s_Lpick) (defScope s_Lpick) .none kV_Lpick dc_Lpick pm_Lpick an_Lpick cd_Lpick ct_Lpick), sl_Lpick⟩)
    (k_Lpick : PySem.W.codeIn K cd_Lpick "_law_pick" = true)
    (q_Lpick : PySem.W.keepIn K (.ref f_Lpick) = true)
    (a_Lrow : PySem.W.nsIn K mainGlobals "_law_row" = some (some (.ref f_Lrow)))
    (l_Lrow : K.lookup f_Lrow = some ⟨oc_Lrow, od_Lrow, .func (PySem.W.fnOf "_law_row" "_law_row" (defArgs s_Lrow) (defBody s_Lrow) (defScope s_Lrow) .none kV_Lrow dc_Lrow pm_Lrow an_Lrow cd_Lrow ct_Lrow), sl_Lrow⟩)
    (k_Lrow : PySem.W.codeIn K cd_Lrow "_law_row" = true)
    (q_Lrow : PySem.W.keepIn K (.ref f_Lrow) = true)
    (a_Ladded : PySem.W.nsIn K mainGlobals "_law_added" = some (some (.ref f_Ladded)))
    (l_Ladded : K.lookup f_Ladded = some ⟨oc_Ladded, od_Ladded, .func (PySem.W.fnOf "_law_added" "_law_added" (defArgs s_Ladded) (defBody s_Ladded) (defScope s_Ladded) .none kV_Ladded dc_Ladded pm_Ladded an_Ladded cd_Ladded ct_Ladded), sl_Ladded⟩)
    (k_Ladded : PySem.W.codeIn K cd_Ladded "_law_added" = true)
    (q_Ladded : PySem.W.keepIn K (.ref f_Ladded) = true)
    (a_Ltimes : PySem.W.nsIn K mainGlobals "_law_times" = some (some (.ref f_Ltimes)))
    (l_Ltimes : K.lookup f_Ltimes = some ⟨oc_Ltimes, od_Ltimes, .func (PySem.W.fnOf "_law_times" "_law_times" (defArgs s_Ltimes) (defBody s_Ltimes) (defScope s_Ltimes) .none kV_Ltimes dc_Ltimes pm_Ltimes an_Ltimes cd_Ltimes ct_Ltimes), sl_Ltimes⟩)
    (k_Ltimes : PySem.W.codeIn K cd_Ltimes "_law_times" = true)
    (q_Ltimes : PySem.W.keepIn K (.ref f_Ltimes) = true)
    (a_Lraised : PySem.W.nsIn K mainGlobals "_law_raised" = some (some (.ref f_Lraised)))
    (l_Lraised : K.lookup f_Lraised = some ⟨oc_Lraised, od_Lraised, .func (PySem.W.fnOf "_law_raised" "_law_raised" (defArgs s_Lraised) (defBody s_Lraised) (defScope s_Lraised) .none kV_Lraised dc_Lraised pm_Lraised an_Lraised cd_Lraised ct_Lraised), sl_Lraised⟩)
    (k_Lraised : PySem.W.codeIn K cd_Lraised "_law_raised" = true)
    (q_Lraised : PySem.W.keepIn K (.ref f_Lraised) = true)
    (a_Lcircle : PySem.W.nsIn K mainGlobals "_law_circle" = some (some (.ref f_Lcircle)))
    (l_Lcircle : K.lookup f_Lcircle = some ⟨oc_Lcircle, od_Lcircle, .func (PySem.W.fnOf "_law_circle" "_law_circle" (defArgs s_Lcircle) (defBody s_Lcircle) (defScope s_Lcircle) .none kV_Lcircle dc_Lcircle pm_Lcircle an_Lcircle cd_Lcircle ct_Lcircle), sl_Lcircle⟩)
    (k_Lcircle : PySem.W.codeIn K cd_Lcircle "_law_circle" = true)
    (q_Lcircle : PySem.W.keepIn K (.ref f_Lcircle) = true)
    (a_Row_terms : PySem.W.findIn K (.ref C_Row) "terms" = some (some (.ref pp_Row_terms)))
    (b_Row_terms : PySem.W.recIn K pp_Row_terms "property" = some (.ref f_Row_terms :: pr_Row_terms))
    (l_Row_terms : K.lookup f_Row_terms = some ⟨oc_Row_terms, od_Row_terms, .func (PySem.W.fnOf "terms" "Row.terms" (defArgs s_Row_terms) (defBody s_Row_terms) (defScope s_Row_terms) .none kV_Row_terms dc_Row_terms pm_Row_terms an_Row_terms cd_Row_terms ct_Row_terms), sl_Row_terms⟩)
    (k_Row_terms : PySem.W.codeIn K cd_Row_terms "Row.terms" = true)
    (q_Row_terms : PySem.W.keepIn K (.ref f_Row_terms) = true)
    (a_Lis_row : PySem.W.nsIn K mainGlobals "_law_is_row" = some (some (.ref f_Lis_row)))
    (l_Lis_row : K.lookup f_Lis_row = some ⟨oc_Lis_row, od_Lis_row, .func (PySem.W.fnOf "_law_is_row" "_law_is_row" (defArgs s_Lis_row) (defBody s_Lis_row) (defScope s_Lis_row) .none kV_Lis_row dc_Lis_row pm_Lis_row an_Lis_row cd_Lis_row ct_Lis_row), sl_Lis_row⟩)
    (k_Lis_row : PySem.W.codeIn K cd_Lis_row "_law_is_row" = true)
    (q_Lis_row : PySem.W.keepIn K (.ref f_Lis_row) = true)
    (a_Ldrawn_row : PySem.W.nsIn K mainGlobals "_law_drawn_row" = some (some (.ref f_Ldrawn_row)))
    (l_Ldrawn_row : K.lookup f_Ldrawn_row = some ⟨oc_Ldrawn_row, od_Ldrawn_row, .func (PySem.W.fnOf "_law_drawn_row" "_law_drawn_row" (defArgs s_Ldrawn_row) (defBody s_Ldrawn_row) (defScope s_Ldrawn_row) .none kV_Ldrawn_row dc_Ldrawn_row pm_Ldrawn_row an_Ldrawn_row cd_Ldrawn_row ct_Ldrawn_row), sl_Ldrawn_row⟩)
    (k_Ldrawn_row : PySem.W.codeIn K cd_Ldrawn_row "_law_drawn_row" = true)
    (q_Ldrawn_row : PySem.W.keepIn K (.ref f_Ldrawn_row) = true)
    (a_Lquotient : PySem.W.nsIn K mainGlobals "_law_quotient" = some (some (.ref f_Lquotient)))
    (l_Lquotient : K.lookup f_Lquotient = some ⟨oc_Lquotient, od_Lquotient, .func (PySem.W.fnOf "_law_quotient" "_law_quotient" (defArgs s_Lquotient) (defBody s_Lquotient) (defScope s_Lquotient) .none kV_Lquotient dc_Lquotient pm_Lquotient an_Lquotient cd_Lquotient ct_Lquotient), sl_Lquotient⟩)
    (k_Lquotient : PySem.W.codeIn K cd_Lquotient "_law_quotient" = true)
    (q_Lquotient : PySem.W.keepIn K (.ref f_Lquotient) = true)
    (a_Row_quotient : PySem.W.findIn K (.ref C_Row) "quotient" = some (some (.ref f_Row_quotient)))
    (l_Row_quotient : K.lookup f_Row_quotient = some ⟨oc_Row_quotient, od_Row_quotient, .func (PySem.W.fnOf "quotient" "Row.quotient" (defArgs s_Row_quotient) (defBody s_Row_quotient) (defScope s_Row_quotient) .none kV_Row_quotient dc_Row_quotient pm_Row_quotient an_Row_quotient cd_Row_quotient ct_Row_quotient), sl_Row_quotient⟩)
    (k_Row_quotient : PySem.W.codeIn K cd_Row_quotient "Row.quotient" = true)
    (q_Row_quotient : PySem.W.keepIn K (.ref f_Row_quotient) = true)
    (a_Ltold_quotient : PySem.W.nsIn K mainGlobals "_law_told_quotient" = some (some (.ref f_Ltold_quotient)))
    (l_Ltold_quotient : K.lookup f_Ltold_quotient = some ⟨oc_Ltold_quotient, od_Ltold_quotient, .func (PySem.W.fnOf "_law_told_quotient" "_law_told_quotient" (defArgs s_Ltold_quotient) (defBody s_Ltold_quotient) (defScope s_Ltold_quotient) .none kV_Ltold_quotient dc_Ltold_quotient pm_Ltold_quotient an_Ltold_quotient cd_Ltold_quotient ct_Ltold_quotient), sl_Ltold_quotient⟩)
    (k_Ltold_quotient : PySem.W.codeIn K cd_Ltold_quotient "_law_told_quotient" = true)
    (q_Ltold_quotient : PySem.W.keepIn K (.ref f_Ltold_quotient) = true)
    (a_Lquotient_right : PySem.W.nsIn K mainGlobals "_law_quotient_right" = some (some (.ref f_Lquotient_right)))
    (l_Lquotient_right : K.lookup f_Lquotient_right = some ⟨oc_Lquotient_right, od_Lquotient_right, .func (PySem.W.fnOf "_law_quotient_right" "_law_quotient_right" (defArgs s_Lquotient_right) (defBody s_Lquotient_right) (defScope s_Lquotient_right) .none kV_Lquotient_right dc_Lquotient_right pm_Lquotient_right an_Lquotient_right cd_Lquotient_right ct_Lquotient_right), sl_Lquotient_right⟩)
    (k_Lquotient_right : PySem.W.codeIn K cd_Lquotient_right "_law_quotient_right" = true)
    (q_Lquotient_right : PySem.W.keepIn K (.ref f_Lquotient_right) = true)
    (a_Lled : PySem.W.nsIn K mainGlobals "_law_led" = some (some (.ref f_Lled)))
    (l_Lled : K.lookup f_Lled = some ⟨oc_Lled, od_Lled, .func (PySem.W.fnOf "_law_led" "_law_led" (defArgs s_Lled) (defBody s_Lled) (defScope s_Lled) .none kV_Lled dc_Lled pm_Lled an_Lled cd_Lled ct_Lled), sl_Lled⟩)
    (k_Lled : PySem.W.codeIn K cd_Lled "_law_led" = true)
    (q_Lled : PySem.W.keepIn K (.ref f_Lled) = true)
    (a_Row_turned : PySem.W.findIn K (.ref C_Row) "turned" = some (some (.ref pp_Row_turned)))
    (b_Row_turned : PySem.W.recIn K pp_Row_turned "property" = some (.ref f_Row_turned :: pr_Row_turned))
    (l_Row_turned : K.lookup f_Row_turned = some ⟨oc_Row_turned, od_Row_turned, .func (PySem.W.fnOf "turned" "Row.turned" (defArgs s_Row_turned) (defBody s_Row_turned) (defScope s_Row_turned) .none kV_Row_turned dc_Row_turned pm_Row_turned an_Row_turned cd_Row_turned ct_Row_turned), sl_Row_turned⟩)
    (k_Row_turned : PySem.W.codeIn K cd_Row_turned "Row.turned" = true)
    (q_Row_turned : PySem.W.keepIn K (.ref f_Row_turned) = true)
    (a_Row_spread : PySem.W.findIn K (.ref C_Row) "spread" = some (some (.ref f_Row_spread)))
    (l_Row_spread : K.lookup f_Row_spread = some ⟨oc_Row_spread, od_Row_spread, .func (PySem.W.fnOf "spread" "Row.spread" (defArgs s_Row_spread) (defBody s_Row_spread) (defScope s_Row_spread) .none kV_Row_spread dc_Row_spread pm_Row_spread an_Row_spread cd_Row_spread ct_Row_spread), sl_Row_spread⟩)
    (k_Row_spread : PySem.W.codeIn K cd_Row_spread "Row.spread" = true)
    (q_Row_spread : PySem.W.keepIn K (.ref f_Row_spread) = true)
    (a_Row_shifted : PySem.W.findIn K (.ref C_Row) "shifted" = some (some (.ref f_Row_shifted)))
    (l_Row_shifted : K.lookup f_Row_shifted = some ⟨oc_Row_shifted, od_Row_shifted, .func (PySem.W.fnOf "shifted" "Row.shifted" (defArgs s_Row_shifted) (defBody s_Row_shifted) (defScope s_Row_shifted) .none kV_Row_shifted dc_Row_shifted pm_Row_shifted an_Row_shifted cd_Row_shifted ct_Row_shifted), sl_Row_shifted⟩)
    (k_Row_shifted : PySem.W.codeIn K cd_Row_shifted "Row.shifted" = true)
    (q_Row_shifted : PySem.W.keepIn K (.ref f_Row_shifted) = true)
    (a_Row_at : PySem.W.findIn K (.ref C_Row) "at" = some (some (.ref f_Row_at)))
    (l_Row_at : K.lookup f_Row_at = some ⟨oc_Row_at, od_Row_at, .func (PySem.W.fnOf "at" "Row.at" (defArgs s_Row_at) (defBody s_Row_at) (defScope s_Row_at) .none kV_Row_at dc_Row_at pm_Row_at an_Row_at cd_Row_at ct_Row_at), sl_Row_at⟩)
    (k_Row_at : PySem.W.codeIn K cd_Row_at "Row.at" = true)
    (q_Row_at : PySem.W.keepIn K (.ref f_Row_at) = true)
    (a_Row_power : PySem.W.findCls K (.ref C_Row) (.type "type") "power" = some (.get (.builtin "classmethod.__get__") (.ref pp_Row_power) .none (.ref C_Row)))
    (b_Row_power : PySem.W.recIn K pp_Row_power "classmethod" = some (.ref f_Row_power :: pr_Row_power))
    (l_Row_power : K.lookup f_Row_power = some ⟨oc_Row_power, od_Row_power, .func (PySem.W.fnOf "power" "Row.power" (defArgs s_Row_power) (defBody s_Row_power) (defScope s_Row_power) .none (.ref kD_Row_power) dc_Row_power pm_Row_power an_Row_power cd_Row_power ct_Row_power), sl_Row_power⟩)
    (k_Row_power : PySem.W.codeIn K cd_Row_power "Row.power" = true)
    (q_Row_power : PySem.W.keepIn K (.ref f_Row_power) = true)
    (z_Row_power : PySem.W.nsIn K kD_Row_power "many" = some (some ku_Row_power))
    (y_Row_power : RelV (V.int 1) ku_Row_power)
    (a_Row_raised : PySem.W.findIn K (.ref C_Row) "raised" = some (some (.ref f_Row_raised)))
    (l_Row_raised : K.lookup f_Row_raised = some ⟨oc_Row_raised, od_Row_raised, .func (PySem.W.fnOf "raised" "Row.raised" (defArgs s_Row_raised) (defBody s_Row_raised) (defScope s_Row_raised) .none kV_Row_raised dc_Row_raised pm_Row_raised an_Row_raised cd_Row_raised ct_Row_raised), sl_Row_raised⟩)
    (k_Row_raised : PySem.W.codeIn K cd_Row_raised "Row.raised" = true)
    (q_Row_raised : PySem.W.keepIn K (.ref f_Row_raised) = true)
    (a_Lshapes_right : PySem.W.nsIn K mainGlobals "_law_shapes_right" = some (some (.ref f_Lshapes_right)))
    (l_Lshapes_right : K.lookup f_Lshapes_right = some ⟨oc_Lshapes_right, od_Lshapes_right, .func (PySem.W.fnOf "_law_shapes_right" "_law_shapes_right" (defArgs s_Lshapes_right) (defBody s_Lshapes_right) (defScope s_Lshapes_right) .none kV_Lshapes_right dc_Lshapes_right pm_Lshapes_right an_Lshapes_right cd_Lshapes_right ct_Lshapes_right), sl_Lshapes_right⟩)
    (k_Lshapes_right : PySem.W.codeIn K cd_Lshapes_right "_law_shapes_right" = true)
    (q_Lshapes_right : PySem.W.keepIn K (.ref f_Lshapes_right) = true)
    (a_Row_low : PySem.W.findIn K (.ref C_Row) "low" = some (some (.ref pp_Row_low)))
    (b_Row_low : PySem.W.recIn K pp_Row_low "property" = some (.ref f_Row_low :: pr_Row_low))
    (l_Row_low : K.lookup f_Row_low = some ⟨oc_Row_low, od_Row_low, .func (PySem.W.fnOf "low" "Row.low" (defArgs s_Row_low) (defBody s_Row_low) (defScope s_Row_low) .none kV_Row_low dc_Row_low pm_Row_low an_Row_low cd_Row_low ct_Row_low), sl_Row_low⟩)
    (k_Row_low : PySem.W.codeIn K cd_Row_low "Row.low" = true)
    (q_Row_low : PySem.W.keepIn K (.ref f_Row_low) = true)
    (a_Lright : PySem.W.nsIn K mainGlobals "_law_right" = some (some (.ref f_Lright)))
    (l_Lright : K.lookup f_Lright = some ⟨oc_Lright, od_Lright, .func (PySem.W.fnOf "_law_right" "_law_right" (defArgs s_Lright) (defBody s_Lright) (defScope s_Lright) .none kV_Lright dc_Lright pm_Lright an_Lright cd_Lright ct_Lright), sl_Lright⟩)
    (k_Lright : PySem.W.codeIn K cd_Lright "_law_right" = true)
    (q_Lright : PySem.W.keepIn K (.ref f_Lright) = true)
    (a_Row_str : PySem.W.findIn K (.ref C_Row) "__str__" = some (some (.ref f_Row_str)))
    (l_Row_str : K.lookup f_Row_str = some ⟨oc_Row_str, od_Row_str, .func (PySem.W.fnOf "__str__" "Row.__str__" (defArgs s_Row_str) (defBody s_Row_str) (defScope s_Row_str) .none kV_Row_str dc_Row_str pm_Row_str an_Row_str cd_Row_str ct_Row_str), sl_Row_str⟩)
    (k_Row_str : PySem.W.codeIn K cd_Row_str "Row.__str__" = true)
    (q_Row_str : PySem.W.keepIn K (.ref f_Row_str) = true)
    (a_law : PySem.W.nsIn K mainGlobals "law" = some (some (.ref f_law)))
    (l_law : K.lookup f_law = some ⟨oc_law, od_law, .func (PySem.W.fnOf "law" "law" (defArgs s_law) (defBody s_law) (defScope s_law) .none kV_law dc_law pm_law an_law cd_law ct_law), sl_law⟩)
    (k_law : PySem.W.codeIn K cd_law "law" = true)
    (q_law : PySem.W.keepIn K (.ref f_law) = true)
    (n_isinstance : PySem.W.nsIn K mainGlobals "isinstance" = some none)
    (n_dict : PySem.W.nsIn K mainGlobals "dict" = some none)
    (n_all : PySem.W.nsIn K mainGlobals "all" = some none)
    (n_int : PySem.W.nsIn K mainGlobals "int" = some none)
    (n_bool : PySem.W.nsIn K mainGlobals "bool" = some none)
    (n_abs : PySem.W.nsIn K mainGlobals "abs" = some none)
    (n_sorted : PySem.W.nsIn K mainGlobals "sorted" = some none)
    (n_super : PySem.W.nsIn K mainGlobals "super" = some none)
    (n_any : PySem.W.nsIn K mainGlobals "any" = some none)
    (n_max : PySem.W.nsIn K mainGlobals "max" = some none)
    (n_min : PySem.W.nsIn K mainGlobals "min" = some none)
    (n_len : PySem.W.nsIn K mainGlobals "len" = some none)
    (n_list : PySem.W.nsIn K mainGlobals "list" = some none)
    (n_range : PySem.W.nsIn K mainGlobals "range" = some none)
    (n_sum : PySem.W.nsIn K mainGlobals "sum" = some none)
    (n_str : PySem.W.nsIn K mainGlobals "str" = some none)
    (v_MAX_POWER : PySem.W.nsIn K mainGlobals "MAX_POWER" = some (some (.int 10000 t_MAX_POWER)))
    (v_LETTER : PySem.W.nsIn K mainGlobals "LETTER" = some (some (.str u_LETTER t_LETTER)))
    (w_LETTER : u_LETTER = ⟨[120].toArray⟩)
    (v_MAX_RAISED : PySem.W.nsIn K mainGlobals "MAX_RAISED" = some (some (.int 100 t_MAX_RAISED)))
    (sc_Row : scB K C_Row = true)
    (mk_Row : mkB K C_Row f_Row_init = true)
    (p_Row_own_terms : PySem.W.findIn K (.ref C_Row) "own_terms" = some (some (.ref P_Row_own_terms)))
    (s1_Row_own_terms : s1B K C_Row P_Row_own_terms "own_terms" 0 = true)
    (me_Row_getitem : meB K C_Row f_Row_getitem "__getitem__" = true)
    (me_Row_neg : meB K C_Row f_Row_neg "__neg__" = true)
    (me_Row_quotient : meB K C_Row f_Row_quotient "quotient" = true)
    (me_Row_spread : meB K C_Row f_Row_spread "spread" = true)
    (me_Row_shifted : meB K C_Row f_Row_shifted "shifted" = true)
    (me_Row_at : meB K C_Row f_Row_at "at" = true)
    (me_Row_raised : meB K C_Row f_Row_raised "raised" = true)
    (me_Row_str : meB K C_Row f_Row_str "__str__" = true)
    (pr_Row_terms : prB K C_Row pp_Row_terms f_Row_terms "terms" = true)
    (pr_Row_turned : prB K C_Row pp_Row_turned f_Row_turned "turned" = true)
    (pr_Row_low : prB K C_Row pp_Row_low f_Row_low "low" = true)
    (cm_Row_power : cmB K C_Row pp_Row_power f_Row_power "power" = true)
    (bo_Row_mul : boB K C_Row f_Row_mul .Mult = true)
    (bo_Row_sub : boB K C_Row f_Row_sub .Sub = true)
    (bo_Row_add : boB K C_Row f_Row_add .Add = true)
    (eq_Row : eqB K (cal C_InvalidRow C_InvalidNumber C_Row C_TooMany C_InvalidOperation) C_Row f_Row_eq eqts = true)
    (p_InvalidRow : kpB K C_InvalidRow = true)
    (i_InvalidNumber : PySem.W.findIn K (.ref C_InvalidNumber) "__init__" = some (some (.ref I_InvalidNumber)))
    (l_InvalidNumber : K.lookup I_InvalidNumber = some ⟨oc_InvalidNumber, od_InvalidNumber, .func (PySem.W.ksFn "__init__" qu_InvalidNumber (defArgs si_InvalidNumber) (defBody si_InvalidNumber) (defScope si_InvalidNumber) .none kV_InvalidNumber dc_InvalidNumber pm_InvalidNumber an_InvalidNumber (.ref cda_InvalidNumber) ct_InvalidNumber cc_InvalidNumber), osl_InvalidNumber⟩)
    (k_InvalidNumber : PySem.W.codeIn K (.ref cda_InvalidNumber) qu_InvalidNumber = true)
    (m_InvalidNumber : K.lookup cda_InvalidNumber = some ⟨ccl_InvalidNumber, cdd_InvalidNumber, .fields vs_InvalidNumber, ccs_InvalidNumber⟩)
    (o_InvalidNumber : vs_InvalidNumber[2]? = some (.str file_InvalidNumber tf_InvalidNumber))
    (u_InvalidNumber : ((pw.main.file : Str) == file_InvalidNumber) = true)
    (w_InvalidNumber : K.lookup cc_InvalidNumber = some ⟨cl_InvalidNumber, cld_InvalidNumber, .cell (some (.ref D_InvalidNumber)), csl_InvalidNumber⟩)
    (x_InvalidNumber : kxB K C_InvalidNumber D_InvalidNumber I_InvalidNumber "value" "IndexError" "IndexError.__new__" "IndexError.__init__" [.type "IndexError", .type "LookupError", .type "Exception", .type "BaseException", .type "object"] = true)
    (i_TooMany : PySem.W.findIn K (.ref C_TooMany) "__init__" = some (some (.ref I_TooMany)))
    (l_TooMany : K.lookup I_TooMany = some ⟨oc_TooMany, od_TooMany, .func (PySem.W.ksFn "__init__" qu_TooMany (defArgs si_TooMany) (defBody si_TooMany) (defScope si_TooMany) .none kV_TooMany dc_TooMany pm_TooMany an_TooMany (.ref cda_TooMany) ct_TooMany cc_TooMany), osl_TooMany⟩)
    (k_TooMany : PySem.W.codeIn K (.ref cda_TooMany) qu_TooMany = true)
    (m_TooMany : K.lookup cda_TooMany = some ⟨ccl_TooMany, cdd_TooMany, .fields vs_TooMany, ccs_TooMany⟩)
    (o_TooMany : vs_TooMany[2]? = some (.str file_TooMany tf_TooMany))
    (u_TooMany : ((pw.main.file : Str) == file_TooMany) = true)
    (w_TooMany : K.lookup cc_TooMany = some ⟨cl_TooMany, cld_TooMany, .cell (some (.ref D_TooMany)), csl_TooMany⟩)
    (x_TooMany : kxB K C_TooMany D_TooMany I_TooMany "limit" "OverflowError" "OverflowError.__new__" "OverflowError.__init__" [.type "OverflowError", .type "ArithmeticError", .type "Exception", .type "BaseException", .type "object"] = true)
    (p_InvalidOperation : kpB K C_InvalidOperation = true)
    (h1 : kitB K ((cal C_InvalidRow C_InvalidNumber C_Row C_TooMany C_InvalidOperation)) kit_t kit_c kit_f = true)
    (h2 : kitB K ((cal C_InvalidRow C_InvalidNumber C_Row C_TooMany C_InvalidOperation)) kix_t kix_c kix_f = true)
    (h3 : slB ((cal C_InvalidRow C_InvalidNumber C_Row C_TooMany C_InvalidOperation)) K (kiB K) kix_t = true)
    (h4 : slB ((cal C_InvalidRow C_InvalidNumber C_Row C_TooMany C_InvalidOperation)) K (scB K) kit_t = true)
    (h5 : exB K ((cal C_InvalidRow C_InvalidNumber C_Row C_TooMany C_InvalidOperation)) kix_t kix_c kix_f = true)
    : ∃ (G : Glo) (A : Ad), G.K = K ∧ TT pw G mg A := by
  have ko : KitOk ⟨K, (cal C_InvalidRow C_InvalidNumber C_Row C_TooMany C_InvalidOperation)⟩ kit := kitOk_of (G := ⟨K, (cal C_InvalidRow C_InvalidNumber C_Row C_TooMany C_InvalidOperation)⟩) (ts := kit_t) (cs := kit_c) (f := kit_f) (p := scB K) bt_caL h1 (by kernel_rfl) h4 (fun _ z => scB_ok z)
  have kx : KixOk ⟨K, (cal C_InvalidRow C_InvalidNumber C_Row C_TooMany C_InvalidOperation)⟩ kix := kixOk_of (G := ⟨K, (cal C_InvalidRow C_InvalidNumber C_Row C_TooMany C_InvalidOperation)⟩) (ts := kix_t) (cs := kix_c) (f := kix_f) h2 (by kernel_rfl) h3
  exact ⟨⟨K, (cal C_InvalidRow C_InvalidNumber C_Row C_TooMany C_InvalidOperation)⟩, { a_is_integer := f_is_integer, fd_is_integer := _, a_is_power := f_is_power, fd_is_power := _, a_are_terms := f_are_terms, fd_are_terms := _, a_Row_getitem := f_Row_getitem, fd_Row_getitem := _, a_sorted_terms := f_sorted_terms, fd_sorted_terms := _, a_Row_init := f_Row_init, fd_Row_init := _, a_product_terms := f_product_terms, fd_product_terms := _, a_operand_terms := f_operand_terms, fd_operand_terms := _, a_Row_mul := f_Row_mul, fd_Row_mul := _, a_summed_terms := f_summed_terms, fd_summed_terms := _, a_Row_add := f_Row_add, fd_Row_add := _, a_Row_neg := f_Row_neg, fd_Row_neg := _, a_Row_sub := f_Row_sub, fd_Row_sub := _, a_Row_eq := f_Row_eq, fd_Row_eq := _, a_wall := f_wall, fd_wall := _, a_power_text := f_power_text, fd_power_text := _, a_term_text := f_term_text, fd_term_text := _, a_terms_text := f_terms_text, fd_terms_text := _, a_quotient_terms := f_quotient_terms, fd_quotient_terms := _, a_require_row := f_require_row, fd_require_row := _, a_Ldice := f_Ldice, fd_Ldice := _, a_Lroll := f_Lroll, fd_Lroll := _, a_Lpick := f_Lpick, fd_Lpick := _, a_Lrow := f_Lrow, fd_Lrow := _, a_Ladded := f_Ladded, fd_Ladded := _, a_Ltimes := f_Ltimes, fd_Ltimes := _, a_Lraised := f_Lraised, fd_Lraised := _, a_Lcircle := f_Lcircle, fd_Lcircle := _, a_Row_terms := f_Row_terms, fd_Row_terms := _, a_Lis_row := f_Lis_row, fd_Lis_row := _, a_Ldrawn_row := f_Ldrawn_row, fd_Ldrawn_row := _, a_Lquotient := f_Lquotient, fd_Lquotient := _, a_Row_quotient := f_Row_quotient, fd_Row_quotient := _, a_Ltold_quotient := f_Ltold_quotient, fd_Ltold_quotient := _, a_Lquotient_right := f_Lquotient_right, fd_Lquotient_right := _, a_Lled := f_Lled, fd_Lled := _, a_Row_turned := f_Row_turned, fd_Row_turned := _, a_Row_spread := f_Row_spread, fd_Row_spread := _, a_Row_shifted := f_Row_shifted, fd_Row_shifted := _, a_Row_at := f_Row_at, fd_Row_at := _, a_Row_power := f_Row_power, fd_Row_power := _, a_Row_raised := f_Row_raised, fd_Row_raised := _, a_Lshapes_right := f_Lshapes_right, fd_Lshapes_right := _, a_Row_low := f_Row_low, fd_Row_low := _, a_Lright := f_Lright, fd_Lright := _, a_Row_str := f_Row_str, fd_Row_str := _, a_law := f_law, fd_law := _, c_InvalidRow := C_InvalidRow, c_InvalidNumber := C_InvalidNumber, c_Row := C_Row, c_TooMany := C_TooMany, c_InvalidOperation := C_InvalidOperation, p_Row_own_terms := P_Row_own_terms, p_Row_terms := pp_Row_terms, p_Row_turned := pp_Row_turned, p_Row_low := pp_Row_low }, rfl, { ko := ko, kx := kx, xm := exOk_of (G := ⟨K, (cal C_InvalidRow C_InvalidNumber C_Row C_TooMany C_InvalidOperation)⟩) h5, g_is_integer := PySem.W.mg_of X Gn a_is_integer, f_is_integer := fun_mk (st := s_is_integer) l_is_integer k_is_integer q_is_integer, g_is_power := PySem.W.mg_of X Gn a_is_power, f_is_power := fun_mk (st := s_is_power) l_is_power k_is_power q_is_power, g_are_terms := PySem.W.mg_of X Gn a_are_terms, f_are_terms := fun_mk (st := s_are_terms) l_are_terms k_are_terms q_are_terms, f_Row_getitem := fun_mk (st := s_Row_getitem) l_Row_getitem k_Row_getitem q_Row_getitem, g_sorted_terms := PySem.W.mg_of X Gn a_sorted_terms, f_sorted_terms := fun_mk (st := s_sorted_terms) l_sorted_terms k_sorted_terms q_sorted_terms, f_Row_init := funD_kw (st := s_Row_init) l_Row_init k_Row_init q_Row_init (kwd_one z_Row_init y_Row_init), g_product_terms := PySem.W.mg_of X Gn a_product_terms, f_product_terms := fun_mk (st := s_product_terms) l_product_terms k_product_terms q_product_terms, g_operand_terms := PySem.W.mg_of X Gn a_operand_terms, f_operand_terms := fun_mk (st := s_operand_terms) l_operand_terms k_operand_terms q_operand_terms, f_Row_mul := fun_mk (st := s_Row_mul) l_Row_mul k_Row_mul q_Row_mul, g_summed_terms := PySem.W.mg_of X Gn a_summed_terms, f_summed_terms := fun_mk (st := s_summed_terms) l_summed_terms k_summed_terms q_summed_terms, f_Row_add := fun_mk (st := s_Row_add) l_Row_add k_Row_add q_Row_add, f_Row_neg := fun_mk (st := s_Row_neg) l_Row_neg k_Row_neg q_Row_neg, f_Row_sub := fun_mk (st := s_Row_sub) l_Row_sub k_Row_sub q_Row_sub, f_Row_eq := fun_mk (st := s_Row_eq) l_Row_eq k_Row_eq q_Row_eq, g_wall := PySem.W.mg_of X Gn a_wall, f_wall := fun_mk (st := s_wall) l_wall k_wall q_wall, g_power_text := PySem.W.mg_of X Gn a_power_text, f_power_text := fun_mk (st := s_power_text) l_power_text k_power_text q_power_text, g_term_text := PySem.W.mg_of X Gn a_term_text, f_term_text := fun_mk (st := s_term_text) l_term_text k_term_text q_term_text, g_terms_text := PySem.W.mg_of X Gn a_terms_text, f_terms_text := fun_mk (st := s_terms_text) l_terms_text k_terms_text q_terms_text, g_quotient_terms := PySem.W.mg_of X Gn a_quotient_terms, f_quotient_terms := fun_mk (st := s_quotient_terms) l_quotient_terms k_quotient_terms q_quotient_terms, g_require_row := PySem.W.mg_of X Gn a_require_row, f_require_row := fun_mk (st := s_require_row) l_require_row k_require_row q_require_row, g_Ldice := PySem.W.mg_of X Gn a_Ldice, f_Ldice := fun_mk (st := s_Ldice) l_Ldice k_Ldice q_Ldice, g_Lroll := PySem.W.mg_of X Gn a_Lroll, f_Lroll := fun_mk (st := s_Lroll) l_Lroll k_Lroll q_Lroll, g_Lpick := PySem.W.mg_of X Gn a_Lpick, f_Lpick := fun_mk (st := s_Lpick) l_Lpick k_Lpick q_Lpick, g_Lrow := PySem.W.mg_of X Gn a_Lrow, f_Lrow := fun_mk (st := s_Lrow) l_Lrow k_Lrow q_Lrow, g_Ladded := PySem.W.mg_of X Gn a_Ladded, f_Ladded := fun_mk (st := s_Ladded) l_Ladded k_Ladded q_Ladded, g_Ltimes := PySem.W.mg_of X Gn a_Ltimes, f_Ltimes := fun_mk (st := s_Ltimes) l_Ltimes k_Ltimes q_Ltimes, g_Lraised := PySem.W.mg_of X Gn a_Lraised, f_Lraised := fun_mk (st := s_Lraised) l_Lraised k_Lraised q_Lraised, g_Lcircle := PySem.W.mg_of X Gn a_Lcircle, f_Lcircle := fun_mk (st := s_Lcircle) l_Lcircle k_Lcircle q_Lcircle, f_Row_terms := fun_mk (st := s_Row_terms) l_Row_terms k_Row_terms q_Row_terms, g_Lis_row := PySem.W.mg_of X Gn a_Lis_row, f_Lis_row := fun_mk (st := s_Lis_row) l_Lis_row k_Lis_row q_Lis_row, g_Ldrawn_row := PySem.W.mg_of X Gn a_Ldrawn_row, f_Ldrawn_row := fun_mk (st := s_Ldrawn_row) l_Ldrawn_row k_Ldrawn_row q_Ldrawn_row, g_Lquotient := PySem.W.mg_of X Gn a_Lquotient, f_Lquotient := fun_mk (st := s_Lquotient) l_Lquotient k_Lquotient q_Lquotient, f_Row_quotient := fun_mk (st := s_Row_quotient) l_Row_quotient k_Row_quotient q_Row_quotient, g_Ltold_quotient := PySem.W.mg_of X Gn a_Ltold_quotient, f_Ltold_quotient := fun_mk (st := s_Ltold_quotient) l_Ltold_quotient k_Ltold_quotient q_Ltold_quotient, g_Lquotient_right := PySem.W.mg_of X Gn a_Lquotient_right, f_Lquotient_right := fun_mk (st := s_Lquotient_right) l_Lquotient_right k_Lquotient_right q_Lquotient_right, g_Lled := PySem.W.mg_of X Gn a_Lled, f_Lled := fun_mk (st := s_Lled) l_Lled k_Lled q_Lled, f_Row_turned := fun_mk (st := s_Row_turned) l_Row_turned k_Row_turned q_Row_turned, f_Row_spread := fun_mk (st := s_Row_spread) l_Row_spread k_Row_spread q_Row_spread, f_Row_shifted := fun_mk (st := s_Row_shifted) l_Row_shifted k_Row_shifted q_Row_shifted, f_Row_at := fun_mk (st := s_Row_at) l_Row_at k_Row_at q_Row_at, f_Row_power := funD_kw (st := s_Row_power) l_Row_power k_Row_power q_Row_power (kwd_one z_Row_power y_Row_power), f_Row_raised := fun_mk (st := s_Row_raised) l_Row_raised k_Row_raised q_Row_raised, g_Lshapes_right := PySem.W.mg_of X Gn a_Lshapes_right, f_Lshapes_right := fun_mk (st := s_Lshapes_right) l_Lshapes_right k_Lshapes_right q_Lshapes_right, f_Row_low := fun_mk (st := s_Row_low) l_Row_low k_Row_low q_Row_low, g_Lright := PySem.W.mg_of X Gn a_Lright, f_Lright := fun_mk (st := s_Lright) l_Lright k_Lright q_Lright, f_Row_str := fun_mk (st := s_Row_str) l_Row_str k_Row_str q_Row_str, g_law := PySem.W.mg_of X Gn a_law, f_law := fun_mk (st := s_law) l_law k_law q_law, n_isinstance := PySem.W.mg_none_of X Gn n_isinstance, n_dict := PySem.W.mg_none_of X Gn n_dict, n_all := PySem.W.mg_none_of X Gn n_all, n_int := PySem.W.mg_none_of X Gn n_int, n_bool := PySem.W.mg_none_of X Gn n_bool, n_abs := PySem.W.mg_none_of X Gn n_abs, n_sorted := PySem.W.mg_none_of X Gn n_sorted, n_super := PySem.W.mg_none_of X Gn n_super, n_any := PySem.W.mg_none_of X Gn n_any, n_max := PySem.W.mg_none_of X Gn n_max, n_min := PySem.W.mg_none_of X Gn n_min, n_len := PySem.W.mg_none_of X Gn n_len, n_list := PySem.W.mg_none_of X Gn n_list, n_range := PySem.W.mg_none_of X Gn n_range, n_sum := PySem.W.mg_none_of X Gn n_sum, n_str := PySem.W.mg_none_of X Gn n_str, c_BOUND := loose_int LL (by simp), c_MAX_POWER := glob_int X Gn v_MAX_POWER, c_LETTER := glob_str X Gn v_LETTER w_LETTER, c_MAX_RAISED := glob_int X Gn v_MAX_RAISED, g_InvalidRow := PySem.W.mg_of X Gn a_InvalidRow, ca_InvalidRow := by kernel_rfl, g_InvalidNumber := PySem.W.mg_of X Gn a_InvalidNumber, ca_InvalidNumber := by kernel_rfl, g_Row := PySem.W.mg_of X Gn a_Row, ca_Row := by kernel_rfl, g_TooMany := PySem.W.mg_of X Gn a_TooMany, ca_TooMany := by kernel_rfl, g_InvalidOperation := PySem.W.mg_of X Gn a_InvalidOperation, ca_InvalidOperation := by kernel_rfl, sc_Row := scB_ok sc_Row, mk_Row := mkB_ok mk_Row, s1_Row_own_terms := s1B_ok s1_Row_own_terms, me_Row_getitem := (meB_ok me_Row_getitem).1, fi_Row_getitem := (meB_ok me_Row_getitem).2, me_Row_neg := (meB_ok me_Row_neg).1, fi_Row_neg := (meB_ok me_Row_neg).2, me_Row_quotient := (meB_ok me_Row_quotient).1, fi_Row_quotient := (meB_ok me_Row_quotient).2, me_Row_spread := (meB_ok me_Row_spread).1, fi_Row_spread := (meB_ok me_Row_spread).2, me_Row_shifted := (meB_ok me_Row_shifted).1, fi_Row_shifted := (meB_ok me_Row_shifted).2, me_Row_at := (meB_ok me_Row_at).1, fi_Row_at := (meB_ok me_Row_at).2, me_Row_raised := (meB_ok me_Row_raised).1, fi_Row_raised := (meB_ok me_Row_raised).2, me_Row_str := (meB_ok me_Row_str).1, fi_Row_str := (meB_ok me_Row_str).2, pr_Row_terms := prB_ok pr_Row_terms, pr_Row_turned := prB_ok pr_Row_turned, pr_Row_low := prB_ok pr_Row_low, cm_Row_power := cmB_ok (by kernel_rfl) a_Row_power cm_Row_power, bo_Row_mul := boB_ok bo_Row_mul, bo_Row_sub := boB_ok bo_Row_sub, bo_Row_add := boB_ok bo_Row_add, eq_Row := eqB_ok eq_Row, kp_InvalidRow := kpB_ok p_InvalidRow, kx_InvalidNumber := kxC_of kxs_InvalidNumber kxt_Index l_InvalidNumber k_InvalidNumber m_InvalidNumber o_InvalidNumber u_InvalidNumber w_InvalidNumber (by decide +kernel) x_InvalidNumber, kx_TooMany := kxC_of kxs_TooMany kxt_Overflow l_TooMany k_TooMany m_TooMany o_TooMany u_TooMany w_TooMany (by decide +kernel) x_TooMany, kp_InvalidOperation := kpB_ok p_InvalidOperation }⟩
end K03

namespace K03
open PySem PySem.Spec PyProof.Rows L2 Y
def isRow (t : W.T) : Sto → D → Prop := fun S d => ∃ n k, d = .loc n ∧ S.get n = some (.ins 15 [some (.loc k)]) ∧ S.get k = some (.dct 0 (enc t))
theorem mono_row {t : W.T} : Mono (isRow t) := fun _ _ _ x ⟨n, k, e, h1, h2⟩ => ⟨n, k, e, x _ _ h1, x _ _ h2⟩
theorem is_integer_ok {S : Sto} {i : Int} (h : i.natAbs < 10 ^ 60) : m_is_integer [.int i] S = .ok (.bl true) S := by
  have e : m_is_integer [.int i] S = .ok (.bl (decide ((if i < 0 then -i else i) < 1000000000000000000000000000000000000000000000000000000000000))) S := rfl
  rw [e]
  have : (if i < 0 then -i else i) < 1000000000000000000000000000000000000000000000000000000000000 := by
    have h2 : i.natAbs < 1000000000000000000000000000000000000000000000000000000000000 := h
    split <;> omega
  rw [decide_eq_true this]
theorem is_power_ok {S : Sto} {i : Int} (h : i.natAbs ≤ 10000) : m_is_power [.int i] S = .ok (.bl true) S := by
  have e : m_is_power [.int i] S = (sRet (mAndT (mCall m_is_integer (mCons (mVar 0) mNil)) (mBin cLe (mCall fAbs (mCons (mVar 0) mNil)) (mC (.int 10000)))) (stD 1 [.int i]) S).res := rfl
  have e1 : (mCall m_is_integer (mCons (mVar 0) mNil)) (stD 1 [.int i]) S = .ok (.bl true) S := is_integer_ok (by
    have : (10000 : Nat) < 10 ^ 60 := by decide
    omega)
  rw [e]
  unfold sRet mAndT
  rw [e1]
  show (Res.ok (D.bl (decide ((if i < 0 then -i else i) ≤ 10000))) S : Res D) = _
  have : (if i < 0 then -i else i) ≤ 10000 := by split <;> omega
  rw [decide_eq_true this]
theorem gi_none {S : Sto} {k : Nat} {lk : Nat} {t : W.T} {e : Int} (h : S.get k = some (.dct lk (enc t))) (m : e ∈ t.map (·.1)) : ixO [(15, m_Row_getitem)] ixG (.loc k) (.int e) S = .ok (.int (W.val t e)) S := by
  have : clsD (.loc k) S = none := by simp only [clsD, h]
  unfold ixO
  rw [this]
  exact ixG_enc h m
theorem sorted_terms_ok {S : Sto} {k : Nat} {t : W.T} (h : S.get k = some (.dct 0 (enc t))) (hn : W.Nd t) (he : W.EB t 10000) (hl : t.length < 16777216) :
    ∃ r S', m_sorted_terms [.loc k] S = .ok (.loc r) S' ∧ Ext S S' ∧ S'.get r = some (.dct 0 (enc (nf t))) := by
  have hkl := Sto.get_lt h
  let ks := sortI (t.map (·.1))
  have ksm : ∀ e ∈ ks, e ∈ t.map (·.1) := fun e he => (sortI_perm _).mem_iff.mp he
  have ksl : ks.length = t.length := by rw [(sortI_perm _).length_eq, List.length_map]
  let S1 := S.new (.lst (ks.map D.int))
  have e1 : (mCall fSorted (mCons (mVar 0) mNil)) (stD 3 [.loc k]) S = .ok (.loc S.n) S1 := by
    show fSorted [.loc k] S = _
    simp only [fSorted, h, enc_keys]
    rfl
  have g1 : S1.get S.n = some (.lst (ks.map D.int)) := Sto.get_new_self
  have gk : S1.get k = some (.dct 0 (enc t)) := Ext.new _ _ h
  let S2 := S1.new (.dct 0 [])
  have n1 : S1.n = S.n + 1 := rfl
  have e2 : (mDc (mIt (mCall fSorted (mCons (mVar 0) mNil))) (.nm 2) (mTst cNeG (mBin (ixO [(15, m_Row_getitem)] ixG) (mVar 0) (mVar 2)) (mC (.int 0))) (mVar 2) (mBin (ixO [(15, m_Row_getitem)] ixG) (mVar 0) (mVar 2)) [2]) (stD 3 [.loc k]) S = .ok (.loc S1.n) (S2.set S1.n (.dct 0 (enc (nf t)))) := by
    unfold mDc mIt
    rw [e1]
    simp only [Res.bind, itOf, g1]
    have ln : itLen (.lst S.n) S1 = ks.length := by simp only [itLen, g1, List.length_map]
    rw [ln]
    have := dc_pure (u := ks) (it := .lst S.n) (g := D.int) (tg := .nm 2) (q := mTst cNeG (mBin (ixO [(15, m_Row_getitem)] ixG) (mVar 0) (mVar 2)) (mC (.int 0))) (ek := mVar 2) (ev := mBin (ixO [(15, m_Row_getitem)] ixG) (mVar 0) (mVar 2)) (sd := wipeD (stD 3 [.loc k]) [2]) (dl := S1.n)
      (p := fun e => decide (W.val t e ≠ 0)) (fk := fun e => e) (fv := fun e => W.val t e) (R := fun S => S.get k = some (.dct 0 (enc t)) ∧ S.get (S1.n - 1) = some (.lst (ks.map D.int)))
      (fun S l ⟨a, b⟩ => ⟨by rw [Sto.get_set_ne (by omega)]; exact a, by rw [Sto.get_set_ne (by omega)]; exact b⟩)
      (fun S' ⟨a, b⟩ i => by
        have : S1.n - 1 = S.n := by omega
        rw [this] at b
        simp only [itNext, b, List.getElem?_map])
      (fun e he => ⟨_, rfl, fun S' ⟨a, _⟩ => by
          have ea := gi_none (S := S') a (ksm e he)
          have eb : mBin (ixO [(15, m_Row_getitem)] ixG) (mVar 0) (mVar 2) [some (.loc k), none, some (.int e)] S' = .ok (.int (W.val t e)) S' := ea
          refine mTst_ok ?_
          refine (mBin_ok (g := cNeG) eb (rfl : mC (.int 0) _ S' = .ok (.int 0) S')).trans ?_
          exact cNeG_int, fun S' ⟨a, _⟩ _ => ⟨rfl, gi_none (S := S') a (ksm e he)⟩⟩)
      (ks.length + 1) 0 [] S2 ⟨by exact Ext.new _ _ gk, by
        have : S1.n - 1 = S.n := by omega
        rw [this]
        exact Ext.new _ _ g1⟩ Sto.get_new_self (by rw [ksl]; simp; omega) (Nat.zero_le _) (Nat.lt_succ_self _)
    rw [List.drop_zero] at this
    have nd : (ks.filter fun e => decide (W.val t e ≠ 0)).Nodup := ((sortI_perm _).nodup_iff.mpr hn).filter _
    rw [fold_put (fk := fun e => e) (fv := fun e => W.val t e) _ [] (by rw [List.map_id']; exact nd) (by simp)] at this
    exact this
  let S3 := S2.set S1.n (.dct 0 (enc (nf t)))
  have g2 : S2.get S1.n = some (.dct 0 []) := Sto.get_new_self
  have g3 : S3.get S1.n = some (.dct 0 (enc (nf t))) := Sto.get_set_self g2
  have x3 : Ext S S3 := fun j c hj => by
    have := Sto.get_lt hj
    show S3.get j = _
    rw [Sto.get_set_ne (by omega)]
    exact Ext.new _ _ (Ext.new _ _ hj)
  obtain ⟨r5, S5, e3, x5, gl⟩ := lock_lc (S0 := S3) (u := nf t) (k := S1.n) (md := mVar 1) (tg := .nm 2) (sd := [some (.loc k), some (.loc S1.n), none]) (e := mBin cGt (mCall fAbs (mCons (mVar 2) mNil)) (mC (.int 10000))) (vs := [2]) (f := fun p => D.bl (decide (10000 < (if p.1 < 0 then -p.1 else p.1)))) g3 rfl
    (dit_k (u := nf t) (k := S1.n) (sd := [some (.loc k), some (.loc S1.n), none]) (m := mVar 1) (fun S lk _ => rfl)) (fun a _ => ⟨_, rfl, fun S _ => rfl⟩) (by have := nf_len t; omega)
  have bl : ∀ l : W.T, W.EB l 10000 → ∃ bs, bools (l.map fun p => D.bl (decide (10000 < (if p.1 < 0 then -p.1 else p.1)))) = some bs ∧ bs.any id = false := by
    intro l
    induction l with
    | nil => intro _; exact ⟨[], rfl, rfl⟩
    | cons p l ih =>
      intro hb
      obtain ⟨bs, h1, h2⟩ := ih fun q hq => hb q (List.mem_cons_of_mem _ hq)
      have h3 := hb p (List.mem_cons_self ..)
      have h4 : ¬ 10000 < (if p.1 < 0 then -p.1 else p.1) := by split <;> omega
      refine ⟨false :: bs, ?_, ?_⟩
      · rw [List.map_cons, decide_eq_false h4]
        simp only [bools, h1]
        rfl
      · simpa using h2
  obtain ⟨bs, hb1, hb2⟩ := bl (nf t) (nf_eb he)
  have e4 : mTru (mCall fAny (mCons (mLock (mVar 1) (mLc (mIt (mVar 1)) (.nm 2) tYesM (mBin cGt (mCall fAbs (mCons (mVar 2) mNil)) (mC (.int 10000))) [2])) mNil)) [some (.loc k), some (.loc S1.n), none] S3 = .ok false S5 := by
    unfold mTru
    rw [mCall1 e3]
    show (fAny [.loc r5] S5).bind truD = _
    simp only [fAny, gl, hb1, hb2]
    rfl
  refine ⟨S1.n, S5, ?_, x3.trans x5, x5 _ _ g3⟩
  show (b_sorted_terms (stD 3 [.loc k]) S).res = _
  unfold b_sorted_terms
  rw [sSeq_nx (sSet_ok e2), sSeq_nx (sd1 := [some (.loc k), some (.loc S1.n), none]) (S1 := S5) ?_]
  · rfl
  · rw [show (stD 3 [.loc k]).set 1 (some (.loc S1.n)) = [some (.loc k), some (.loc S1.n), none] from rfl, sIf_f e4]
    rfl
end K03

namespace K03
open PySem PySem.Spec PyProof.Rows L2 Y
theorem are_terms_ok {S : Sto} {k : Nat} {t : W.T} (h : S.get k = some (.dct 0 (enc t))) (he : W.EB t 10000) (hv : ∀ p ∈ t, p.2.natAbs < 10 ^ 60 ∧ p.2 ≠ 0) (hl : t.length ≤ 16777216) : ∃ S', m_are_terms [.loc k] S = .ok (.bl true) S' ∧ Ext S S' := by
  have e0 : tNotM (mTru (mCall (fIsE kit kix) (mCons (mVar 0) (mCons (mC (.cls 5)) mNil)))) (stD 3 [.loc k]) S = .ok false S := by
    have : (mCall (fIsE kit kix) (mCons (mVar 0) (mCons (mC (.cls 5)) mNil))) (stD 3 [.loc k]) S = .ok (.bl true) S := by
      show fIsE kit kix [.loc k, .cls 5] S = _
      simp only [fIsE, fIsI, tyD, h]
      rfl
    unfold tNotM mTru
    rw [this]
    rfl
  obtain ⟨r, S', e1, x, gl⟩ := lock_lc (S0 := S) (u := t) (k := k) (md := mVar 0) (tg := .tp [(.nm 1), (.nm 2)]) (sd := stD 3 [.loc k]) (e := (mAndT (mCall m_is_power (mCons (mVar 1) mNil)) (mAndT (mCall m_is_integer (mCons (mVar 2) mNil)) (mBin cNeG (mVar 2) (mC (.int 0)))))) (vs := [1, 2]) (f := fun p => D.bl true) h rfl
    (dit_i (u := t) (k := k) (sd := stD 3 [.loc k]) (m := mVar 0) (fun S lk _ => rfl)) (fun p hp => ⟨[some (.loc k), some (.int p.1), some (.int p.2)], rfl, fun S _ => by
      have a1 : (mCall m_is_power (mCons (mVar 1) mNil)) [some (.loc k), some (.int p.1), some (.int p.2)] S = .ok (.bl true) S := is_power_ok (he p hp)
      have a2 : (mCall m_is_integer (mCons (mVar 2) mNil)) [some (.loc k), some (.int p.1), some (.int p.2)] S = .ok (.bl true) S := is_integer_ok (hv p hp).1
      have a3 : mBin cNeG (mVar 2) (mC (.int 0)) [some (.loc k), some (.int p.1), some (.int p.2)] S = .ok (.bl true) S := by
        refine (cNeG_int (a := p.2) (b := 0)).trans ?_
        rw [decide_eq_true (hv p hp).2]
      rw [mAndT_t a1, mAndT_t a2]
      exact a3⟩) hl
  have bl : ∀ l : W.T, ∃ bs, bools (l.map fun _ => D.bl true) = some bs ∧ bs.all id = true := by
    intro l
    induction l with
    | nil => exact ⟨[], rfl, rfl⟩
    | cons p l ih =>
      obtain ⟨bs, h1, h2⟩ := ih
      refine ⟨true :: bs, ?_, by simpa using h2⟩
      rw [List.map_cons]
      simp only [bools, h1]
      rfl
  obtain ⟨bs, b1, b2⟩ := bl t
  refine ⟨S', ?_, x⟩
  show (b_are_terms (stD 3 [.loc k]) S).res = _
  unfold b_are_terms
  rw [sSeq_nx (sd1 := stD 3 [.loc k]) (S1 := S) (by rw [sIf_f e0]; rfl)]
  rw [sRet_ok (x := .bl true) (S1 := S') ?_]
  · rfl
  · rw [mCall1 e1]
    simp only [fAll, gl, b1, b2]
/-- Row(..) -/
theorem init_ok {S : Sto} {k : Nat} {t : W.T} {b : Bool} (h : S.get k = some (.dct 0 (enc t))) (hn : W.Nd t) (he : W.EB t 10000) (hl : t.length < 16777216) (hv : b = true ∨ ∀ p ∈ t, p.2.natAbs < 10 ^ 60 ∧ p.2 ≠ 0) :
    ∃ S', (m_Row_init [.loc S.n, .loc k, .bl b] (S.new (.ins 15 []))) = .ok .non S' ∧ Ext S S' ∧ isRow (nf t) S' (.loc S.n) := by
  have hk := Sto.get_lt h
  have h1 : (S.new (.ins 15 [])).get k = some (.dct 0 (enc t)) := Ext.new _ _ h
  have hs : (S.new (.ins 15 [])).get S.n = some (.ins 15 []) := Sto.get_new_self
  obtain ⟨S1, e1, x1⟩ : ∃ S1, (tAndM (tNotM (mTru (mVar 2))) (tNotM (mTru (mCall m_are_terms (mCons (mVar 1) mNil))))) (stD 3 [.loc S.n, .loc k, .bl b]) (S.new (.ins 15 [])) = .ok false S1 ∧ Ext (S.new (.ins 15 [])) S1 := by
    cases b with
    | true => exact ⟨_, rfl, Ext.refl⟩
    | false =>
      rcases hv with hv | hv
      · cases hv
      · obtain ⟨S1, e1, x1⟩ := are_terms_ok h1 he hv (by omega)
        refine ⟨S1, ?_, x1⟩
        show (tNotM (mTru (mCall m_are_terms (mCons (mVar 1) mNil)))) (stD 3 [.loc S.n, .loc k, .bl false]) (S.new (.ins 15 [])) = _
        have : (mCall m_are_terms (mCons (mVar 1) mNil)) (stD 3 [.loc S.n, .loc k, .bl false]) (S.new (.ins 15 [])) = .ok (.bl true) S1 := e1
        unfold tNotM mTru
        rw [this]
        rfl
  obtain ⟨r, S2, e2, x2, g2⟩ := sorted_terms_ok (x1 _ _ h1) hn he hl
  have g3 : S2.get S.n = some (.ins 15 []) := x2 _ _ (x1 _ _ hs)
  have hr : r ≠ S.n := fun z => by
    subst z
    rw [g2] at g3
    cases g3
  refine ⟨S2.set S.n (.ins 15 [some (.loc r)]), ?_, fun j c hj => ?_, S.n, r, rfl, Sto.get_set_self g3, by rw [Sto.get_set_ne hr]; exact g2⟩
  · show (b_Row_init (stD 3 [.loc S.n, .loc k, .bl b]) (S.new (.ins 15 []))).res = _
    unfold b_Row_init
    rw [sSeq_nx (sd1 := stD 3 [.loc S.n, .loc k, .bl b]) (S1 := S1) (by rw [sIf_f e1]; rfl)]
    have c1 : clsD (.loc S.n) S2 = some 15 := by simp only [clsD, g3]
    have c2 : setD (.loc S.n) 0 (.loc r) S2 = some (S2.set S.n (.ins 15 [some (.loc r)])) := by
      simp only [setD, g3]
      rfl
    have e3 : (mCall m_sorted_terms (mCons (mVar 1) mNil)) (stD 3 [.loc S.n, .loc k, .bl b]) S1 = .ok (.loc r) S2 := e2
    rw [sStA_ok (tab := [(15, 0)]) e3 (rfl : mVar 0 _ S2 = .ok (.loc S.n) S2) c1 rfl c2]
    rfl
  · have := Sto.get_lt hj
    rw [Sto.get_set_ne (by omega)]
    exact x2 _ _ (x1 _ _ (Ext.new _ _ hj))
theorem known_ok {S : Sto} {k : Nat} {t : W.T} (h : S.get k = some (.dct 0 (enc t))) (hn : W.Nd t) (he : W.EB t 10000) (hl : t.length < 16777216) : ∃ d S', n_Row_init_2_is_known [.loc k] [.bl true] S = .ok d S' ∧ Ext S S' ∧ isRow (nf t) S' d := by
  obtain ⟨S', e, x, r⟩ := init_ok (b := true) h hn he hl (.inl rfl)
  refine ⟨.loc S.n, S', ?_, x, r⟩
  show (m_Row_init [.loc S.n, .loc k, .bl true] (S.new (.ins 15 []))).bind _ = _
  rw [e]
  rfl
theorem new_ok {S : Sto} {k : Nat} {t : W.T} (h : S.get k = some (.dct 0 (enc t))) (hn : W.Nd t) (he : W.EB t 10000) (hl : t.length < 16777216) (hv : ∀ p ∈ t, p.2.natAbs < 10 ^ 60 ∧ p.2 ≠ 0) : ∃ d S', n_Row_init_2 [.loc k] [] S = .ok d S' ∧ Ext S S' ∧ isRow (nf t) S' d := by
  obtain ⟨S', e, x, r⟩ := init_ok (b := false) h hn he hl (.inr hv)
  refine ⟨.loc S.n, S', ?_, x, r⟩
  show (m_Row_init [.loc S.n, .loc k, .bl false] (S.new (.ins 15 []))).bind _ = _
  rw [e]
  rfl
/-- operands -/
def isOp (u : W.T) : Sto → D → Prop := fun S d => isRow u S d ∨ ∃ n, d = .int n ∧ u = [(0, n)] ∧ n.natAbs < 10 ^ 60
theorem mono_op {t : W.T} : Mono (isOp t) := fun S S' d x h => by
  rcases h with h | h
  · exact .inl (mono_row S S' d x h)
  · exact .inr h
theorem at_row {S : Sto} {n k : Nat} (h : S.get n = some (.ins 15 [some (.loc k)])) : atD [(15, .slot 0)] (.loc n) S = .ok (.loc k) S := by
  have c1 : clsD (.loc n) S = some 15 := by simp only [clsD, h]
  have c2 : slotD (.loc n) 0 S = some (.loc k) := by
    simp only [slotD, h]
    rfl
  unfold atD
  rw [c1]
  have c3 : List.lookup 15 [((15 : Nat), AtK.slot 0)] = some (.slot 0) := rfl
  simp only [c3, c2]
theorem is_row14 {S : Sto} {n k : Nat} (h : S.get n = some (.ins 15 [some (.loc k)])) : fIsE kit kix [.loc n, .cls 15] S = .ok (.bl true) S := by
  simp only [fIsE, fIsI, tyD, h]
  rfl
theorem operand_ok {S : Sto} {d : D} {u : W.T} (h : isOp u S d) : ∃ k S', m_operand_terms [d] S = .ok (.loc k) S' ∧ Ext S S' ∧ S'.get k = some (.dct 0 (enc u)) := by
  rcases h with ⟨n, k, rfl, h1, h2⟩ | ⟨n, rfl, rfl, hb⟩
  · refine ⟨k, S, ?_, Ext.refl, h2⟩
    show (b_operand_terms (stD 1 [.loc n]) S).res = _
    unfold b_operand_terms
    have e0 : mTru (mCall (fIsE kit kix) (mCons (mVar 0) (mCons (mC (.cls 15)) mNil))) (stD 1 [.loc n]) S = .ok true S := by
      have : (mCall (fIsE kit kix) (mCons (mVar 0) (mCons (mC (.cls 15)) mNil))) (stD 1 [.loc n]) S = .ok (.bl true) S := is_row14 h1
      unfold mTru
      rw [this]
      rfl
    rw [sSeq_rt (x := .loc k) (S1 := S) (by
      rw [sIf_t e0]
      exact sRet_ok (at_row h1))]
    rfl
  · refine ⟨S.n, (S.new (.dct 0 [])).set S.n (.dct 0 (enc [(0, n)])), ?_, Ext.newset, Sto.get_set_self Sto.get_new_self⟩
    show (b_operand_terms (stD 1 [.int n]) S).res = _
    unfold b_operand_terms
    have e0 : mTru (mCall (fIsE kit kix) (mCons (mVar 0) (mCons (mC (.cls 15)) mNil))) (stD 1 [.int n]) S = .ok false S := rfl
    have e1 : mTru (mCall m_is_integer (mCons (mVar 0) mNil)) (stD 1 [.int n]) S = .ok true S := by
      have : (mCall m_is_integer (mCons (mVar 0) mNil)) (stD 1 [.int n]) S = .ok (.bl true) S := is_integer_ok hb
      unfold mTru
      rw [this]
      rfl
    rw [sSeq_nx (sd1 := stD 1 [.int n]) (S1 := S) (by rw [sIf_f e0]; rfl)]
    rw [sSeq_rt (x := .loc S.n) (S1 := (S.new (.dct 0 [])).set S.n (.dct 0 (enc [(0, n)]))) ?_]
    · rfl
    · rw [sIf_t e1]
      refine sRet_ok ?_
      have gz : isDct0 (.loc S.n) (S.new (.dct 0 [])) = true := by
        have : (S.new (.dct 0 [])).get S.n = some (.dct 0 []) := Sto.get_new_self
        simp only [isDct0, this]
      unfold mDisp
      have ep : mPairs [((mC (.int 0)), (mVar 0))] (stD 1 [.int n]) (S.new (.dct 0 [])) = .ok [(.int 0, .int n)] (S.new (.dct 0 [])) := rfl
      rw [ep]
      simp only [Res.bind, gz]
      rfl
/-- summed_terms -/
theorem summed_terms_okM {S : Sto} {k k2 : Nat} {t u : W.T} {m : Int} (h : S.get k = some (.dct 0 (enc t))) (h2 : S.get k2 = some (.dct 0 (enc u))) (hm : ∀ p ∈ u, mulOk m p.2 = true) (hn : W.Nd t) (hl : t.length + u.length < 16777216) :
    ∃ r S', m_summed_terms [.loc k, .loc k2, .int m] S = .ok (.loc r) S' ∧ Ext S S' ∧ S'.get r = some (.dct 0 (enc (W.summed t u m))) := by
  have hk2 := Sto.get_lt h2
  let S1 := S.new (.dct 0 (enc t))
  have g1 : S1.get S.n = some (.dct 0 (enc t)) := Sto.get_new_self
  have gk2 : S1.get k2 = some (.dct 0 (enc u)) := Ext.new _ _ h2
  obtain ⟨sd', S', e1, ⟨x, y, rfl⟩, g2, o2⟩ := lock_for (S0 := S1) (u := u) (k := k2) (f := S.n) (lk := 0) (md := mVar 1) (tg := .tp [(.nm 4), (.nm 5)]) (sd := [some (.loc k), some (.loc k2), some (.int m), some (.loc S.n), none, none]) (b := (sStI stI (mVar 3) (mVar 4) (mBin bAdd (mGet2 (mVar 3) (mVar 4) (mC (.int 0))) (mBin (binO [(15, m_Row_mul)] bMul) (mVar 2) (mVar 5)))))
    (J := fun sd => ∃ x y, sd = [some (.loc k), some (.loc k2), some (.int m), some (.loc S.n), x, y]) (acc := fun pre => W.summed t pre m) gk2 g1 (by omega) rfl
    (dit_i (u := u) (k := k2) (m := mVar 1) (fun S lk _ => rfl)) ⟨_, _, rfl⟩
    (fun pre p post sd S2 hu ⟨x, y, hsd⟩ hf hk ho hnn => by
      subst hsd
      refine ⟨_, [some (.loc k), some (.loc k2), some (.int m), some (.loc S.n), some (.int p.1), some (.int p.2)], S2.set S.n (.dct 0 (enc (W.summed t (pre ++ [p]) m))), rfl, ?_, ⟨_, _, rfl⟩, Sto.get_set_self hf, Off.set⟩
      have len : (W.summed t pre m).length < 16777216 := by
        have := (W.summed_ok m pre hn).2.2.2.1
        have h3 : u.length = pre.length + (post.length + 1) := by rw [hu]; simp
        omega
      have ev : (mBin bAdd (mGet2 (mVar 3) (mVar 4) (mC (.int 0))) (mBin (binO [(15, m_Row_mul)] bMul) (mVar 2) (mVar 5))) [some (.loc k), some (.loc k2), some (.int m), some (.loc S.n), some (.int p.1), some (.int p.2)] S2 = .ok (.int (W.val (W.summed t pre m) p.1 + m * p.2)) S2 := by
        refine (mBin_ok (get2_enc hf rfl rfl) (y := .int (m * p.2)) (S2 := S2) ?_).trans rfl
        show bMul (.int m) (.int p.2) S2 = _
        simp only [bMul, hm p (by rw [hu]; simp), if_true]
      have : W.summed t (pre ++ [p]) m = W.put (W.summed t pre m) p.1 (W.val (W.summed t pre m) p.1 + m * p.2) := by
        unfold W.summed
        rw [List.foldl_append]
        rfl
      refine sStI_ok (f := stI) ev rfl rfl ?_
      rw [this]
      exact stI_enc hf len)
  refine ⟨S.n, S', ?_, Off.ext o2, g2⟩
  show (b_summed_terms (stD 6 [.loc k, .loc k2, .int m]) S).res = _
  unfold b_summed_terms
  have e0 : (mCall fDict (mCons (mVar 0) mNil)) (stD 6 [.loc k, .loc k2, .int m]) S = .ok (.loc S.n) S1 := fDict_d h
  rw [sSeq_nx (sSet_ok e0)]
  rw [show (stD 6 [.loc k, .loc k2, .int m]).set 3 (some (.loc S.n)) = [some (.loc k), some (.loc k2), some (.int m), some (.loc S.n), none, none] from rfl, sSeq_nx e1]
  rfl
theorem summed_terms_ok {S : Sto} {k k2 : Nat} {t u : W.T} {m : Int} (h : S.get k = some (.dct 0 (enc t))) (h2 : S.get k2 = some (.dct 0 (enc u))) (hm : m.natAbs < 18446744073709551616) (hn : W.Nd t) (hl : t.length + u.length < 16777216) :
    ∃ r S', m_summed_terms [.loc k, .loc k2, .int m] S = .ok (.loc r) S' ∧ Ext S S' ∧ S'.get r = some (.dct 0 (enc (W.summed t u m))) := summed_terms_okM h h2 (fun p _ => mulOk_1 hm) hn hl
end K03

namespace K03
open PySem PySem.Spec PyProof.Rows L2 Y
theorem prod1_app {acc : W.T} {p q : Int × Int} {pre : W.T} : W.prod1 acc p (pre ++ [q]) = W.put (W.prod1 acc p pre) (p.1 + q.1) (W.val (W.prod1 acc p pre) (p.1 + q.1) + p.2 * q.2) := by
  unfold W.prod1
  rw [List.foldl_append]
  rfl
theorem prod_app {acc u pre : W.T} {p : Int × Int} : W.prod (pre ++ [p]) u acc = W.prod1 (W.prod pre u acc) p u := by
  unfold W.prod
  rw [List.foldl_append]
  rfl
theorem val_small {t : W.T} {e : Int} (h : W.nrm t < 2 ^ 2000) : (W.val t e).natAbs < 2 ^ 2000 := Nat.lt_of_le_of_lt (W.val_le e t) h
theorem mem_small {t : W.T} {p : Int × Int} (hp : p ∈ t) (h : W.nrm t < 2 ^ 2000) : p.2.natAbs < 2 ^ 2000 := Nat.lt_of_le_of_lt (W.mem_le hp) h
theorem len_steps {t u pre post pre2 post2 : W.T} {p q : Int × Int} (hu : t = pre ++ p :: post) (hu2 : u = pre2 ++ q :: post2) (hl : t.length * u.length < 16777216) : (W.prod1 (W.prod pre u []) p pre2).length < 16777216 := by
  have a := (W.prod_ok u pre (acc := []) .nil)
  have b := (W.prod1_ok p pre2 a.1).2.2.2.1
  have c := a.2.2.2.1
  have h1 : t.length = pre.length + (post.length + 1) := by rw [hu]; simp
  have h2 : u.length = pre2.length + (post2.length + 1) := by rw [hu2]; simp
  have h3 : (pre.length + 1) * u.length ≤ t.length * u.length := Nat.mul_le_mul_right _ (by omega)
  rw [Nat.succ_mul] at h3
  simp only [List.length_nil, Nat.zero_add] at c
  omega
/-- product_terms -/
theorem product_terms_ok {S : Sto} {k k2 : Nat} {t u : W.T} (h : S.get k = some (.dct 0 (enc t))) (h2 : S.get k2 = some (.dct 0 (enc u))) (ht : W.nrm t < 2 ^ 2000) (hu : W.nrm u < 2 ^ 2000) (hl : t.length * u.length < 16777216) :
    ∃ r S', m_product_terms [.loc k, .loc k2] S = .ok (.loc r) S' ∧ Ext S S' ∧ S'.get r = some (.dct 0 (enc (W.prod t u []))) := by
  have hk := Sto.get_lt h
  have hk2 := Sto.get_lt h2
  let S1 := S.new (.dct 0 [])
  have g1 : S1.get S.n = some (.dct 0 (enc [])) := Sto.get_new_self
  have gk : S1.get k = some (.dct 0 (enc t)) := Ext.new _ _ h
  have gk2 : S1.get k2 = some (.dct 0 (enc u)) := Ext.new _ _ h2
  obtain ⟨sd', S', e1, ⟨x3, x4, x5, x6, rfl⟩, g2, o2⟩ := lock_for (S0 := S1) (u := t) (k := k) (f := S.n) (lk := 0) (md := mVar 0) (tg := .tp [(.nm 3), (.nm 4)]) (sd := [some (.loc k), some (.loc k2), some (.loc S.n), none, none, none, none])
    (b := (sLock (mVar 1) (sFor (mItM itDi (mVar 1)) (.tp [(.nm 5), (.nm 6)]) (sStI stI (mVar 2) (mBin bAdd (mVar 3) (mVar 5)) (mBin bAdd (mGet2 (mVar 2) (mBin bAdd (mVar 3) (mVar 5)) (mC (.int 0))) (mBin bMul (mVar 4) (mVar 6)))))))
    (J := fun sd => ∃ x3 x4 x5 x6, sd = [some (.loc k), some (.loc k2), some (.loc S.n), x3, x4, x5, x6]) (acc := fun pre => W.prod pre u []) gk g1 (by omega) rfl
    (dit_i (u := t) (k := k) (m := mVar 0) (fun S lk _ => rfl)) ⟨_, _, _, _, rfl⟩
    (fun pre p post sd S2 hu1 ⟨x3, x4, x5, x6, hsd⟩ hf hkk ho hnn => by
      subst hsd
      have gk3 : ∃ lk, S2.get k2 = some (.dct lk (enc u)) := by
        by_cases z : k2 = k
        · subst z
          obtain ⟨l, hl⟩ := hkk
          rw [gk] at gk2
          have hz : enc t = enc u := (Cell.dct.inj (Option.some.inj gk2)).2
          rw [hz] at hl
          exact ⟨_, hl⟩
        · exact ⟨0, by rw [ho k2 (by omega) z]; exact gk2⟩
      obtain ⟨lk, gk3⟩ := gk3
      have hpm : p ∈ t := by rw [hu1]; simp
      obtain ⟨sd2, S3, e2, ⟨y5, y6, rfl⟩, g3, o3⟩ := lock_for (S0 := S2) (u := u) (k := k2) (f := S.n) (lk := lk) (md := mVar 1) (tg := .tp [(.nm 5), (.nm 6)]) (sd := [some (.loc k), some (.loc k2), some (.loc S.n), some (.int p.1), some (.int p.2), x5, x6])
        (b := (sStI stI (mVar 2) (mBin bAdd (mVar 3) (mVar 5)) (mBin bAdd (mGet2 (mVar 2) (mBin bAdd (mVar 3) (mVar 5)) (mC (.int 0))) (mBin bMul (mVar 4) (mVar 6)))))
        (J := fun sd => ∃ y5 y6, sd = [some (.loc k), some (.loc k2), some (.loc S.n), some (.int p.1), some (.int p.2), y5, y6]) (acc := fun pre2 => W.prod1 (W.prod pre u []) p pre2) gk3 hf (by omega) rfl
        (dit_i (u := u) (k := k2) (m := mVar 1) (fun S lk _ => rfl)) ⟨_, _, rfl⟩
        (fun pre2 q post2 sd S3 hu2 ⟨y5, y6, hsd⟩ hf hkk ho hnn => by
          subst hsd
          refine ⟨_, [some (.loc k), some (.loc k2), some (.loc S.n), some (.int p.1), some (.int p.2), some (.int q.1), some (.int q.2)], S3.set S.n (.dct 0 (enc (W.prod1 (W.prod pre u []) p (pre2 ++ [q])))), rfl, ?_, ⟨_, _, rfl⟩, Sto.get_set_self hf, Off.set⟩
          have hqm : q ∈ u := by rw [hu2]; simp
          refine sStI_ok (f := stI) (d := .int (W.val (W.prod1 (W.prod pre u []) p pre2) (p.1 + q.1) + p.2 * q.2)) (S1 := S3) ?_ rfl rfl ?_
          · refine (mBin_ok (get2_enc hf rfl rfl) (y := .int (p.2 * q.2)) (S2 := S3) ?_).trans rfl
            show bMul (.int p.2) (.int q.2) S3 = _
            simp only [bMul, mulOk_2 (mem_small hpm ht) (mem_small hqm hu), if_true]
          · rw [prod1_app]
            exact stI_enc hf (len_steps hu1 hu2 hl))
      refine ⟨_, _, S3, rfl, e2, ⟨_, _, _, _, rfl⟩, ?_, o3⟩
      rw [prod_app]
      exact g3)
  refine ⟨S.n, S', ?_, Off.ext o2, g2⟩
  show (b_product_terms (stD 7 [.loc k, .loc k2]) S).res = _
  unfold b_product_terms
  rw [sSeq_nx (sSet_ok (rfl : mDct0 _ S = .ok (.loc S.n) S1))]
  rw [show (stD 7 [.loc k, .loc k2]).set 2 (some (.loc S.n)) = [some (.loc k), some (.loc k2), some (.loc S.n), none, none, none, none] from rfl, sSeq_nx e1]
  rfl
/-- _law_row -/
theorem Lrow_okN {S : Sto} {k : Nat} {t : W.T} (h : S.get k = some (.dct 0 (enc t))) (hn : W.Nd t) (hl : t.length < 16777216) : ∃ r S', m_Lrow [.loc k] S = .ok (.loc r) S' ∧ Ext S S' ∧ S'.get r = some (.dct 0 (enc (nf t))) ∧ S.n ≤ r := by
  have hkl := Sto.get_lt h
  let ks := sortI (t.map (·.1))
  have ksm : ∀ e ∈ ks, e ∈ t.map (·.1) := fun e he => (sortI_perm _).mem_iff.mp he
  have ksl : ks.length = t.length := by rw [(sortI_perm _).length_eq, List.length_map]
  let S1 := S.new (.lst (ks.map D.int))
  have e1 : (mCall fSorted (mCons (mVar 0) mNil)) (stD 2 [.loc k]) S = .ok (.loc S.n) S1 := by
    show fSorted [.loc k] S = _
    simp only [fSorted, h, enc_keys]
    rfl
  have g1 : S1.get S.n = some (.lst (ks.map D.int)) := Sto.get_new_self
  have gk : S1.get k = some (.dct 0 (enc t)) := Ext.new _ _ h
  let S2 := S1.new (.lst [])
  have n1 : S1.n = S.n + 1 := rfl
  have g2 : S2.get S1.n = some (.lst []) := Sto.get_new_self
  let S3 := S2.set S1.n (.lst (tupP (nf t)))
  have e2 : (mLc (mIt (mCall fSorted (mCons (mVar 0) mNil))) (.nm 1) (mTst cNeG (mBin (ixO [(15, m_Row_getitem)] ixG) (mVar 0) (mVar 1)) (mC (.int 0))) (mTup (mCons (mVar 1) (mCons (mBin (ixO [(15, m_Row_getitem)] ixG) (mVar 0) (mVar 1)) mNil))) [1]) (stD 2 [.loc k]) S = .ok (.loc S1.n) S3 := by
    unfold mLc mIt
    rw [e1]
    simp only [Res.bind, itOf, g1]
    have ln : itLen (.lst S.n) S1 = ks.length := by simp only [itLen, g1, List.length_map]
    rw [ln]
    have := lc_pure (u := ks) (it := .lst S.n) (g := D.int) (tg := .nm 1) (q := mTst cNeG (mBin (ixO [(15, m_Row_getitem)] ixG) (mVar 0) (mVar 1)) (mC (.int 0))) (e := mTup (mCons (mVar 1) (mCons (mBin (ixO [(15, m_Row_getitem)] ixG) (mVar 0) (mVar 1)) mNil))) (sd := wipeD (stD 2 [.loc k]) [1]) (dl := S1.n)
      (p := fun e => decide (W.val t e ≠ 0)) (f := fun e => .tup [.int e, .int (W.val t e)]) (R := fun S => S.get k = some (.dct 0 (enc t)) ∧ S.get (S1.n - 1) = some (.lst (ks.map D.int)))
      (fun S l ⟨a, b⟩ => ⟨by rw [Sto.get_set_ne (by omega)]; exact a, by rw [Sto.get_set_ne (by omega)]; exact b⟩)
      (fun S' ⟨a, b⟩ i => by
        have : S1.n - 1 = S.n := by omega
        rw [this] at b
        simp only [itNext, b, List.getElem?_map])
      (fun e he => ⟨[some (.loc k), some (.int e)], rfl, fun S' ⟨a, _⟩ => by
          have eb : mBin (ixO [(15, m_Row_getitem)] ixG) (mVar 0) (mVar 1) [some (.loc k), some (.int e)] S' = .ok (.int (W.val t e)) S' := gi_none (S := S') a (ksm e he)
          refine mTst_ok ?_
          refine (mBin_ok (g := cNeG) eb (rfl : mC (.int 0) _ S' = .ok (.int 0) S')).trans ?_
          exact cNeG_int, fun S' ⟨a, _⟩ _ => by
          have eb : mBin (ixO [(15, m_Row_getitem)] ixG) (mVar 0) (mVar 1) [some (.loc k), some (.int e)] S' = .ok (.int (W.val t e)) S' := gi_none (S := S') a (ksm e he)
          exact mTup_ok (mCons_ok (rfl : mVar 1 _ S' = .ok (.int e) S') (mCons_ok eb mNil_ok)) (by simp)⟩)
      (ks.length + 1) 0 [] S2 ⟨by exact Ext.new _ _ gk, by
        have : S1.n - 1 = S.n := by omega
        rw [this]
        exact Ext.new _ _ g1⟩ g2 (by rw [ksl]; simp; omega) (Nat.zero_le _) (Nat.lt_succ_self _)
    rw [List.drop_zero, List.nil_append] at this
    have et : tupP (nf t) = (ks.filter fun e => decide (W.val t e ≠ 0)).map fun e => D.tup [.int e, .int (W.val t e)] := by
      unfold tupP nf
      rw [List.map_map]
      rfl
    rw [← et] at this
    exact this
  have g3 : S3.get S1.n = some (.lst (tupP (nf t))) := Sto.get_set_self g2
  have x3 : Ext S S3 := fun j c hj => by
    have := Sto.get_lt hj
    show S3.get j = _
    rw [Sto.get_set_ne (by omega)]
    exact Ext.new _ _ (Ext.new _ _ hj)
  refine ⟨S3.n, S3.new (.dct 0 (enc (nf t))), ?_, x3.trans Ext.new, Sto.get_new_self, by show S.n ≤ (S2.set S1.n _).n; rw [Sto.set_n]; show S.n ≤ S.n + 1 + 1; omega⟩
  show (b_Lrow (stD 2 [.loc k]) S).res = _
  unfold b_Lrow
  rw [sRet_ok ((mCall1 e2).trans (fDict_l g3 (nf_nf hn).nd))]
  rfl
theorem Lrow_ok {S : Sto} {k : Nat} {t : W.T} (h : S.get k = some (.dct 0 (enc t))) (hn : W.Nd t) (hl : t.length < 16777216) : ∃ r S', m_Lrow [.loc k] S = .ok (.loc r) S' ∧ Ext S S' ∧ S'.get r = some (.dct 0 (enc (nf t))) :=
  let ⟨r, S', a, b, c, _⟩ := Lrow_okN h hn hl
  ⟨r, S', a, b, c⟩
/-- _law_added -/
theorem Ladded_okN {S : Sto} {k k2 : Nat} {t u : W.T} {m : Int} (h : S.get k = some (.dct 0 (enc t))) (h2 : S.get k2 = some (.dct 0 (enc u))) (hm : m.natAbs < 18446744073709551616) (hn : W.Nd t) (hn2 : W.Nd u) (hl : t.length + u.length < 16777216) :
    ∃ r S', m_Ladded [.loc k, .loc k2, .int m] S = .ok (.loc r) S' ∧ Ext S S' ∧ S'.get r = some (.dct 0 (enc (nf (W.summed t u m)))) ∧ S.n ≤ r := by
  have hk2 := Sto.get_lt h2
  let S0 := S.new (.lst (tupP t))
  let S1 := S0.new (.dct 0 (enc t))
  have n0 : S0.n = S.n + 1 := rfl
  have g1 : S1.get S0.n = some (.dct 0 (enc t)) := Sto.get_new_self
  have gk2 : S1.get k2 = some (.dct 0 (enc u)) := Ext.new _ _ (Ext.new _ _ h2)
  obtain ⟨sd', S', e1, ⟨x, rfl⟩, g2, o2⟩ := lock_for (S0 := S1) (u := u) (k := k2) (f := S0.n) (lk := 0) (md := mVar 1) (tg := .nm 4) (sd := [some (.loc k), some (.loc k2), some (.int m), some (.loc S0.n), none])
    (b := (sStI stI (mVar 3) (mVar 4) (mBin (binO [(15, m_Row_add)] bAdd) (mGet2 (mVar 3) (mVar 4) (mC (.int 0))) (mBin (binO [(15, m_Row_mul)] bMul) (mVar 2) (mBin (ixO [(15, m_Row_getitem)] ixG) (mVar 1) (mVar 4))))))
    (J := fun sd => ∃ x, sd = [some (.loc k), some (.loc k2), some (.int m), some (.loc S0.n), x]) (acc := fun pre => W.summed t pre m) gk2 g1 (by omega) rfl
    (dit_k (u := u) (k := k2) (m := mVar 1) (fun S lk _ => rfl)) ⟨_, rfl⟩
    (fun pre p post sd S2 hu ⟨x, hsd⟩ hf ⟨lk, hk⟩ ho hnn => by
      subst hsd
      refine ⟨_, [some (.loc k), some (.loc k2), some (.int m), some (.loc S0.n), some (.int p.1)], S2.set S0.n (.dct 0 (enc (W.summed t (pre ++ [p]) m))), rfl, ?_, ⟨_, rfl⟩, Sto.get_set_self hf, Off.set⟩
      have len : (W.summed t pre m).length < 16777216 := by
        have := (W.summed_ok m pre hn).2.2.2.1
        have h3 : u.length = pre.length + (post.length + 1) := by rw [hu]; simp
        omega
      have hpm : p ∈ u := by rw [hu]; simp
      have ei : mBin (ixO [(15, m_Row_getitem)] ixG) (mVar 1) (mVar 4) [some (.loc k), some (.loc k2), some (.int m), some (.loc S0.n), some (.int p.1)] S2 = .ok (.int p.2) S2 := by
        have := gi_none (S := S2) hk (List.mem_map.mpr ⟨p, hpm, rfl⟩)
        rw [val_mem hn2 p hpm] at this
        exact this
      have e5 : W.summed t (pre ++ [p]) m = W.put (W.summed t pre m) p.1 (W.val (W.summed t pre m) p.1 + m * p.2) := by
        unfold W.summed
        rw [List.foldl_append]
        rfl
      refine sStI_ok (f := stI) (d := .int (W.val (W.summed t pre m) p.1 + m * p.2)) (S1 := S2) ?_ rfl rfl ?_
      · refine (mBin_ok (get2_enc hf rfl rfl) (y := .int (m * p.2)) (S2 := S2) ?_).trans rfl
        refine (mBin_ok (rfl : mVar 2 _ S2 = .ok (.int m) S2) ei).trans ?_
        show bMul (.int m) (.int p.2) S2 = _
        simp only [bMul, mulOk_1 hm, if_true]
      · rw [e5]
        exact stI_enc hf len)
  have x2 : Ext S S' := fun j c hj => by
    have := Sto.get_lt hj
    rw [o2.c j (by omega)]
    exact Ext.new _ _ (Ext.new _ _ hj)
  have sk := W.summed_ok m u hn
  obtain ⟨r, S4, e4, x4, g4, n4⟩ := Lrow_okN g2 sk.1 (by have := sk.2.2.2.1; omega)
  refine ⟨r, S4, ?_, x2.trans x4, g4, by rw [o2.n] at n4; have : S1.n = S.n + 1 + 1 := rfl; omega⟩
  show (b_Ladded (stD 5 [.loc k, .loc k2, .int m]) S).res = _
  unfold b_Ladded
  have e0 : (mCall fDict (mCons (mUn fItems (mVar 0)) mNil)) (stD 5 [.loc k, .loc k2, .int m]) S = .ok (.loc S0.n) S1 := by
    have : (mUn fItems (mVar 0)) (stD 5 [.loc k, .loc k2, .int m]) S = .ok (.loc S.n) S0 := fItems_d h
    rw [mCall1 this]
    exact fDict_l Sto.get_new_self hn
  rw [sSeq_nx (sSet_ok e0)]
  rw [show (stD 5 [.loc k, .loc k2, .int m]).set 3 (some (.loc S0.n)) = [some (.loc k), some (.loc k2), some (.int m), some (.loc S0.n), none] from rfl, sSeq_nx e1]
  refine (congrArg SRes.res (sRet_ok (x := .loc r) (S1 := S4) ?_)).trans rfl
  exact e4
theorem Ladded_ok {S : Sto} {k k2 : Nat} {t u : W.T} {m : Int} (h : S.get k = some (.dct 0 (enc t))) (h2 : S.get k2 = some (.dct 0 (enc u))) (hm : m.natAbs < 18446744073709551616) (hn : W.Nd t) (hn2 : W.Nd u) (hl : t.length + u.length < 16777216) :
    ∃ r S', m_Ladded [.loc k, .loc k2, .int m] S = .ok (.loc r) S' ∧ Ext S S' ∧ S'.get r = some (.dct 0 (enc (nf (W.summed t u m)))) :=
  let ⟨r, S', a, b, c, _⟩ := Ladded_okN h h2 hm hn hn2 hl
  ⟨r, S', a, b, c⟩
/-- _law_times -/
theorem Ltimes_okM {S : Sto} {k k2 : Nat} {t u : W.T} (h : S.get k = some (.dct 0 (enc t))) (h2 : S.get k2 = some (.dct 0 (enc u))) (hn1 : W.Nd t) (hn2 : W.Nd u) (hmm : ∀ p ∈ t, ∀ q ∈ u, mulOk p.2 q.2 = true) (hl : t.length * u.length < 16777216) :
    ∃ r S', m_Ltimes [.loc k, .loc k2] S = .ok (.loc r) S' ∧ Ext S S' ∧ S'.get r = some (.dct 0 (enc (nf (W.prod t u [])))) := by
  have hk := Sto.get_lt h
  have hk2 := Sto.get_lt h2
  let S1 := S.new (.dct 0 [])
  have g1 : S1.get S.n = some (.dct 0 (enc [])) := Sto.get_new_self
  have gk : S1.get k = some (.dct 0 (enc t)) := Ext.new _ _ h
  have gk2 : S1.get k2 = some (.dct 0 (enc u)) := Ext.new _ _ h2
  obtain ⟨sd', S', e1, ⟨x3, x4, rfl⟩, g2, o2⟩ := lock_for (S0 := S1) (u := t) (k := k) (f := S.n) (lk := 0) (md := mVar 0) (tg := .nm 3) (sd := [some (.loc k), some (.loc k2), some (.loc S.n), none, none])
    (b := (sLock (mVar 1) (sFor (mIt (mVar 1)) (.nm 4) (sStI stI (mVar 2) (mBin (binO [(15, m_Row_add)] bAdd) (mVar 3) (mVar 4)) (mBin (binO [(15, m_Row_add)] bAdd) (mGet2 (mVar 2) (mBin (binO [(15, m_Row_add)] bAdd) (mVar 3) (mVar 4)) (mC (.int 0))) (mBin (binO [(15, m_Row_mul)] bMul) (mBin (ixO [(15, m_Row_getitem)] ixG) (mVar 0) (mVar 3)) (mBin (ixO [(15, m_Row_getitem)] ixG) (mVar 1) (mVar 4))))))))
    (J := fun sd => ∃ x3 x4, sd = [some (.loc k), some (.loc k2), some (.loc S.n), x3, x4]) (acc := fun pre => W.prod pre u []) gk g1 (by omega) rfl
    (dit_k (u := t) (k := k) (m := mVar 0) (fun S lk _ => rfl)) ⟨_, _, rfl⟩
    (fun pre p post sd S2 hu1 ⟨x3, x4, hsd⟩ hf hkk ho hnn => by
      subst hsd
      have gk3 : ∃ lk, S2.get k2 = some (.dct lk (enc u)) := by
        by_cases z : k2 = k
        · subst z
          obtain ⟨l, hl⟩ := hkk
          rw [gk] at gk2
          have hz : enc t = enc u := (Cell.dct.inj (Option.some.inj gk2)).2
          rw [hz] at hl
          exact ⟨_, hl⟩
        · exact ⟨0, by rw [ho k2 (by omega) z]; exact gk2⟩
      obtain ⟨lk, gk3⟩ := gk3
      obtain ⟨l1, gk4⟩ := hkk
      have hpm : p ∈ t := by rw [hu1]; simp
      obtain ⟨sd2, S3, e2, ⟨y5, rfl⟩, g3, o3⟩ := lock_for (S0 := S2) (u := u) (k := k2) (f := S.n) (lk := lk) (md := mVar 1) (tg := .nm 4) (sd := [some (.loc k), some (.loc k2), some (.loc S.n), some (.int p.1), x4])
        (b := (sStI stI (mVar 2) (mBin (binO [(15, m_Row_add)] bAdd) (mVar 3) (mVar 4)) (mBin (binO [(15, m_Row_add)] bAdd) (mGet2 (mVar 2) (mBin (binO [(15, m_Row_add)] bAdd) (mVar 3) (mVar 4)) (mC (.int 0))) (mBin (binO [(15, m_Row_mul)] bMul) (mBin (ixO [(15, m_Row_getitem)] ixG) (mVar 0) (mVar 3)) (mBin (ixO [(15, m_Row_getitem)] ixG) (mVar 1) (mVar 4))))))
        (J := fun sd => ∃ y5, sd = [some (.loc k), some (.loc k2), some (.loc S.n), some (.int p.1), y5]) (acc := fun pre2 => W.prod1 (W.prod pre u []) p pre2) gk3 hf (by omega) rfl
        (dit_k (u := u) (k := k2) (m := mVar 1) (fun S lk _ => rfl)) ⟨_, rfl⟩
        (fun pre2 q post2 sd S3 hu2 ⟨y5, hsd⟩ hf ⟨l3, hkk⟩ ho hnn => by
          subst hsd
          refine ⟨_, [some (.loc k), some (.loc k2), some (.loc S.n), some (.int p.1), some (.int q.1)], S3.set S.n (.dct 0 (enc (W.prod1 (W.prod pre u []) p (pre2 ++ [q])))), rfl, ?_, ⟨_, rfl⟩, Sto.get_set_self hf, Off.set⟩
          have hqm : q ∈ u := by rw [hu2]; simp
          have gk5 : ∃ l, S3.get k = some (.dct l (enc t)) := by
            by_cases z : k = k2
            · subst z
              rw [gk] at gk2
              have hz : enc t = enc u := (Cell.dct.inj (Option.some.inj gk2)).2
              rw [hz]
              exact ⟨_, hkk⟩
            · exact ⟨_, by rw [ho k (by omega) z]; exact gk4⟩
          obtain ⟨l5, gk5⟩ := gk5
          have e6 : mBin (ixO [(15, m_Row_getitem)] ixG) (mVar 0) (mVar 3) [some (.loc k), some (.loc k2), some (.loc S.n), some (.int p.1), some (.int q.1)] S3 = .ok (.int p.2) S3 := by
            have := gi_none (S := S3) gk5 (List.mem_map.mpr ⟨p, hpm, rfl⟩)
            rw [val_mem hn1 p hpm] at this
            exact this
          have e7 : mBin (ixO [(15, m_Row_getitem)] ixG) (mVar 1) (mVar 4) [some (.loc k), some (.loc k2), some (.loc S.n), some (.int p.1), some (.int q.1)] S3 = .ok (.int q.2) S3 := by
            have := gi_none (S := S3) hkk (List.mem_map.mpr ⟨q, hqm, rfl⟩)
            rw [val_mem hn2 q hqm] at this
            exact this
          refine sStI_ok (f := stI) (d := .int (W.val (W.prod1 (W.prod pre u []) p pre2) (p.1 + q.1) + p.2 * q.2)) (S1 := S3) ?_ rfl rfl ?_
          · refine (mBin_ok (get2_enc hf rfl rfl) (y := .int (p.2 * q.2)) (S2 := S3) ?_).trans rfl
            refine (mBin_ok e6 e7).trans ?_
            show bMul (.int p.2) (.int q.2) S3 = _
            simp only [bMul, hmm p hpm q hqm, if_true]
          · rw [prod1_app]
            exact stI_enc hf (len_steps hu1 hu2 hl))
      refine ⟨_, _, S3, rfl, e2, ⟨_, _, rfl⟩, ?_, o3⟩
      rw [prod_app]
      exact g3)
  have pk := W.prod_ok u t (acc := []) .nil
  obtain ⟨r, S4, e4, x4, g4⟩ := Lrow_ok g2 pk.1 (by have := pk.2.2.2.1; simp only [List.length_nil, Nat.zero_add] at this; omega)
  refine ⟨r, S4, ?_, (Off.ext o2).trans x4, g4⟩
  show (b_Ltimes (stD 5 [.loc k, .loc k2]) S).res = _
  unfold b_Ltimes
  rw [sSeq_nx (sSet_ok (rfl : mDct0 _ S = .ok (.loc S.n) S1))]
  rw [show (stD 5 [.loc k, .loc k2]).set 2 (some (.loc S.n)) = [some (.loc k), some (.loc k2), some (.loc S.n), none, none] from rfl, sSeq_nx e1]
  refine (congrArg SRes.res (sRet_ok (x := .loc r) (S1 := S4) ?_)).trans rfl
  exact e4
theorem Ltimes_ok {S : Sto} {k k2 : Nat} {t u : W.T} (h : S.get k = some (.dct 0 (enc t))) (h2 : S.get k2 = some (.dct 0 (enc u))) (hn1 : W.Nd t) (hn2 : W.Nd u) (ht : W.nrm t < 2 ^ 2000) (hu : W.nrm u < 2 ^ 2000) (hl : t.length * u.length < 16777216) :
    ∃ r S', m_Ltimes [.loc k, .loc k2] S = .ok (.loc r) S' ∧ Ext S S' ∧ S'.get r = some (.dct 0 (enc (nf (W.prod t u [])))) := Ltimes_okM h h2 hn1 hn2 (fun p hp q hq => mulOk_2 (mem_small hp ht) (mem_small hq hu)) hl
end K03

namespace K03
open PySem PySem.Spec PyProof.Rows L2 Y
section
variable {t u : W.T} {i j : Nat} {S : Sto} {d e : D}
theorem row_cls (h : isRow t S d) : clsD d S = some 15 := by
  obtain ⟨n, k, rfl, h1, _⟩ := h
  simp only [clsD, h1]
theorem row_at (h : isRow t S d) : ∃ k, atD [(15, .slot 0)] d S = .ok (.loc k) S ∧ S.get k = some (.dct 0 (enc t)) := by
  obtain ⟨n, k, rfl, h1, h2⟩ := h
  exact ⟨k, at_row h1, h2⟩
/-- operators -/
theorem row_add (hb : Bk i t) (hu : Bk j u) (hij : i + j ≤ 6) : F2 (isRow t) (isOp u) (isRow (addR t u 1)) m_Row_add := fun S d d' h h' => by
  obtain ⟨k, e1, g1⟩ := row_at h
  obtain ⟨k2, S2, e2, x2, g2⟩ := operand_ok h'
  obtain ⟨r, S3, e3, x3, g3⟩ := summed_terms_ok (m := 1) (x2 _ _ g1) g2 (by decide) hb.nd (by have := hb.l (by omega); have := hu.l (by omega); have := (hb.add hu (m := 1) (by decide)).one; have a := (hb.up (show i ≤ 6 by omega)).len; have b := (hu.up (show j ≤ 6 by omega)).len; omega)
  obtain ⟨a, b, c, dd, ee⟩ := W.summed_ok 1 u hb.nd
  obtain ⟨q, S4, e4, x4, g4⟩ := known_ok g3 a (ee _ (hb.e4 (by omega)) (hu.e4 (by omega))) (by have a := (hb.up (show i ≤ 6 by omega)).len; have b := (hu.up (show j ≤ 6 by omega)).len; omega)
  refine ⟨q, S4, ?_, (x2.trans x3).trans x4, g4⟩
  refine (congrArg SRes.res (sRet_ok (x := q) (S1 := S4) (?_ : mCallK n_Row_init_2_is_known _ _ (stD 2 [d, d']) S = _))).trans rfl
  have c1 : (mUn (atD [(15, .slot 0)]) (mVar 0)) (stD 2 [d, d']) S = .ok (.loc k) S := e1
  have c2 : (mCall m_operand_terms (mCons (mVar 1) mNil)) (stD 2 [d, d']) S = .ok (.loc k2) S2 := e2
  unfold mCallK
  rw [mCons_ok (mCall_ok (f := m_summed_terms) (mCons_ok c1 (mCons_ok c2 (mCons_ok (rfl : mC (.int 1) (stD 2 [d, d']) S2 = .ok (.int 1) S2) mNil_ok))) |>.trans e3) mNil_ok]
  exact e4
theorem row_sub (hb : Bk i t) (hu : Bk j u) (hij : i + j ≤ 6) : F2 (isRow t) (isOp u) (isRow (addR t u (-1))) m_Row_sub := fun S d d' h h' => by
  obtain ⟨k, e1, g1⟩ := row_at h
  obtain ⟨k2, S2, e2, x2, g2⟩ := operand_ok h'
  obtain ⟨r, S3, e3, x3, g3⟩ := summed_terms_ok (m := -1) (x2 _ _ g1) g2 (by decide) hb.nd (by have a := (hb.up (show i ≤ 6 by omega)).len; have b := (hu.up (show j ≤ 6 by omega)).len; omega)
  obtain ⟨a, b, c, dd, ee⟩ := W.summed_ok (-1) u hb.nd
  obtain ⟨q, S4, e4, x4, g4⟩ := known_ok g3 a (ee _ (hb.e4 (by omega)) (hu.e4 (by omega))) (by have a := (hb.up (show i ≤ 6 by omega)).len; have b := (hu.up (show j ≤ 6 by omega)).len; omega)
  refine ⟨q, S4, ?_, (x2.trans x3).trans x4, g4⟩
  refine (congrArg SRes.res (sRet_ok (x := q) (S1 := S4) (?_ : mCallK n_Row_init_2_is_known _ _ (stD 2 [d, d']) S = _))).trans rfl
  have c1 : (mUn (atD [(15, .slot 0)]) (mVar 0)) (stD 2 [d, d']) S = .ok (.loc k) S := e1
  have c2 : (mCall m_operand_terms (mCons (mVar 1) mNil)) (stD 2 [d, d']) S = .ok (.loc k2) S2 := e2
  unfold mCallK
  rw [mCons_ok (mCall_ok (f := m_summed_terms) (mCons_ok c1 (mCons_ok c2 (mCons_ok (rfl : (mUn uNeg (mC (.int 1))) (stD 2 [d, d']) S2 = .ok (.int (-1)) S2) mNil_ok))) |>.trans e3) mNil_ok]
  exact e4
theorem row_mul (hb : Bk i t) (hu : Bk j u) (hij : i + j ≤ 6) : F2 (isRow t) (isOp u) (isRow (mulR t u)) m_Row_mul := fun S d d' h h' => by
  obtain ⟨k, e1, g1⟩ := row_at h
  obtain ⟨k2, S2, e2, x2, g2⟩ := operand_ok h'
  have ln : t.length * u.length < 16777216 := by
    have := Nat.mul_le_mul hb.len hu.len
    rw [← Nat.pow_add] at this
    exact Nat.lt_of_le_of_lt this (Nat.lt_of_le_of_lt (Nat.pow_le_pow_right (by decide) hij) (by decide))
  obtain ⟨r, S3, e3, x3, g3⟩ := product_terms_ok (x2 _ _ g1) g2 (hb.n (by omega)) (hu.n (by omega)) ln
  obtain ⟨a, b, c, dd, ee⟩ := W.prod_ok u t nd_nil
  obtain ⟨q, S4, e4, x4, g4⟩ := known_ok g3 a (eb_mono (ee _ _ _ (by intro p hp; cases hp) hb.eb hu.eb (Nat.le_refl _)) (by omega)) (by simp only [List.length_nil, Nat.zero_add] at dd; omega)
  refine ⟨q, S4, ?_, (x2.trans x3).trans x4, g4⟩
  refine (congrArg SRes.res (sRet_ok (x := q) (S1 := S4) (?_ : mCallK n_Row_init_2_is_known _ _ (stD 2 [d, d']) S = _))).trans rfl
  have c1 : (mUn (atD [(15, .slot 0)]) (mVar 0)) (stD 2 [d, d']) S = .ok (.loc k) S := e1
  have c2 : (mCall m_operand_terms (mCons (mVar 1) mNil)) (stD 2 [d, d']) S = .ok (.loc k2) S2 := e2
  unfold mCallK
  rw [mCons_ok (mCall_ok (f := m_product_terms) (mCons_ok c1 (mCons_ok c2 mNil_ok)) |>.trans e3) mNil_ok]
  exact e4
theorem row_neg (hb : Bk i t) (hi : i ≤ 6) : F1 (isRow t) (isRow (negR t)) m_Row_neg := fun S d h => by
  obtain ⟨k, e1, g1⟩ := row_at (mono_row _ _ _ (Ext.new (c := .dct 0 [])) h)
  obtain ⟨r, S3, e3, x3, g3⟩ := summed_terms_ok (t := []) (k := S.n) (m := -1) (S := S.new (.dct 0 [])) Sto.get_new_self g1 (by decide) nd_nil (by have := hb.l hi; simpa using this)
  obtain ⟨a, b, c, dd, ee⟩ := W.summed_ok (-1) t nd_nil
  obtain ⟨q, S4, e4, x4, g4⟩ := known_ok g3 a (ee _ (by intro p hp; cases hp) (hb.e4 hi)) (by have := hb.l hi; simp only [List.length_nil, Nat.zero_add] at dd; omega)
  refine ⟨q, S4, ?_, (Ext.new.trans x3).trans x4, g4⟩
  refine (congrArg SRes.res (sRet_ok (x := q) (S1 := S4) (?_ : mCallK n_Row_init_2_is_known _ _ (stD 1 [d]) S = _))).trans rfl
  have c1 : (mUn (atD [(15, .slot 0)]) (mVar 0)) (stD 1 [d]) (S.new (.dct 0 [])) = .ok (.loc k) (S.new (.dct 0 [])) := e1
  unfold mCallK
  rw [mCons_ok (mCall_ok (f := m_summed_terms) (mCons_ok (rfl : mDct0 (stD 1 [d]) S = .ok (.loc S.n) (S.new (.dct 0 []))) (mCons_ok c1 (mCons_ok (rfl : (mUn uNeg (mC (.int 1))) (stD 1 [d]) (S.new (.dct 0 [])) = .ok (.int (-1)) (S.new (.dct 0 []))) mNil_ok))) |>.trans e3) mNil_ok]
  exact e4
theorem op_side (h : isOp u S e) : (isIntD e || decide (clsD e S = some 15)) = true := by
  rcases h with h | ⟨n, rfl, _⟩
  · rw [row_cls h]
    simp
  · rfl
theorem bin_row {Q : Sto → D → Prop} {f : MF} {base : D → D → Sto → Res D} (h : F2 (isRow t) (isOp u) Q f) : ∀ S d d', isRow t S d → isOp u S d' → ∃ e S2, binO [(15, f)] base d d' S = .ok e S2 ∧ Ext S S2 ∧ Q S2 e := fun S d d' a b => by
  obtain ⟨e, S2, h1, h2, h3⟩ := h S d d' a b
  refine ⟨e, S2, ?_, h2, h3⟩
  unfold binO
  rw [row_cls a]
  have c3 : List.lookup 15 [((15 : Nat), f)] = some f := rfl
  simp only [c3, op_side b, if_true]
  exact h1
theorem un_row {Q : Sto → D → Prop} {f : MF} {base : D → Sto → Res D} (h : F1 (isRow t) Q f) : ∀ S d, isRow t S d → ∃ e S2, unO [(15, f)] base d S = .ok e S2 ∧ Ext S S2 ∧ Q S2 e := fun S d a => by
  obtain ⟨e, S2, h1, h2, h3⟩ := h S d a
  refine ⟨e, S2, ?_, h2, h3⟩
  unfold unO
  rw [row_cls a]
  have c3 : List.lookup 15 [((15 : Nat), f)] = some f := rfl
  simp only [c3]
  exact h1
theorem row_ty (h : isRow t S d) : tyD d S = some 15 := by
  obtain ⟨n, k, rfl, h1, _⟩ := h
  simp only [tyD, h1]
theorem row_is (h : isRow t S d) : fIsE kit kix [d, .cls 15] S = .ok (.bl true) S := by
  obtain ⟨n, k, rfl, h1, _⟩ := h
  exact is_row14 h1
/-- == -/
theorem row_eq_g {b : Bool} (h : isRow t S d) (h' : isRow u S e) (hb : ∀ k k2, S.get k = some (.dct 0 (enc t)) → S.get k2 = some (.dct 0 (enc u)) → cEqG (.loc k) (.loc k2) S = .ok (.bl b) S) : m_Row_eq [d, e] S = .ok (.bl b) S := by
  obtain ⟨k, e1, g1⟩ := row_at h
  obtain ⟨k2, e2, g2⟩ := row_at h'
  refine (congrArg SRes.res (sRet_ok (x := .bl b) (S1 := S) (?_ : mAndT _ _ (stD 2 [d, e]) S = _))).trans rfl
  have c0 : (mCall (fIsE kit kix) (mCons (mVar 1) (mCons (mC (.cls 15)) mNil))) (stD 2 [d, e]) S = .ok (.bl true) S := row_is h'
  rw [mAndT_t c0]
  have c1 : (mUn (atD [(15, .slot 0)]) (mVar 0)) (stD 2 [d, e]) S = .ok (.loc k) S := e1
  have c2 : (mUn (atD [(15, .slot 0)]) (mVar 1)) (stD 2 [d, e]) S = .ok (.loc k2) S := e2
  rw [mBin_ok c1 c2]
  exact hb k k2 g1 g2
theorem row_eq (hn : W.Nd t) (h : isRow t S d) (h' : isRow t S e) : m_Row_eq [d, e] S = .ok (.bl true) S := row_eq_g h h' fun _ _ a b => eq_dcts hn a b
theorem row_eq0 (h : isRow t S d) (h' : isRow [] S e) : m_Row_eq [d, e] S = .ok (.bl (decide (t = []))) S := row_eq_g h h' fun _ _ a b => cEq_dct0 a b
theorem eqO_row {b : Bool} (h : isRow t S d) (h' : isRow u S e) (he : m_Row_eq [d, e] S = .ok (.bl b) S) : eqO [(15, m_Row_eq)] eqts cEqG d e S = .ok (.bl b) S := by
  unfold eqO
  rw [row_cls h, row_ty h']
  have c3 : List.lookup 15 [((15 : Nat), m_Row_eq)] = some m_Row_eq := rfl
  have c4 : eqts.contains 15 = true := rfl
  simp only [c3, c4, if_true]
  exact he
theorem neO_row {b : Bool} (h : isRow t S d) (h' : isRow u S e) (he : m_Row_eq [d, e] S = .ok (.bl b) S) : neO [(15, m_Row_eq)] eqts cNeG d e S = .ok (.bl (!b)) S := by
  unfold neO
  rw [row_cls h, row_ty h']
  have c3 : List.lookup 15 [((15 : Nat), m_Row_eq)] = some m_Row_eq := rfl
  have c4 : eqts.contains 15 = true := rfl
  simp only [c3, c4, if_true, he]
  rfl
/-- at -/
theorem lock_at {n k : Nat} (h1 : S.get n = some (.ins 15 [some (.loc k)])) (h2 : S.get k = some (.dct 0 (enc t))) {w : List (Option D)} : mItM itDi (mUn (atD [(15, .slot 0)]) (mVar 0)) (some (.loc n) :: w) (S.set k (.dct 1 (enc t))) = .ok (.di k) (S.set k (.dct 1 (enc t))) := by
  have hne : n ≠ k := fun z => by
    subst z
    rw [h1] at h2
    cases h2
  have g1 : (S.set k (.dct 1 (enc t))).get n = some (.ins 15 [some (.loc k)]) := by rw [Sto.get_set_ne hne]; exact h1
  have g2 : (S.set k (.dct 1 (enc t))).get k = some (.dct 1 (enc t)) := Sto.get_set_self h2
  have c1 : (mUn (atD [(15, .slot 0)]) (mVar 0)) (some (.loc n) :: w) (S.set k (.dct 1 (enc t))) = .ok (.loc k) (S.set k (.dct 1 (enc t))) := at_row g1
  unfold mItM
  rw [c1]
  simp only [bind_ok, itDi, g2, enc_isK, if_true]
theorem sum_at : ∀ (t : W.T) (v : Int), ∃ ns, intsD (t.map fun p => D.int (if p.1 % 2 = 0 then p.2 else p.2 * v)) = some ns ∧ ns.sum = W.tot (sg v) t
  | [], v => ⟨[], rfl, rfl⟩
  | p :: t, v => by
    obtain ⟨ns, h1, h2⟩ := sum_at t v
    refine ⟨(if p.1 % 2 = 0 then p.2 else p.2 * v) :: ns, ?_, ?_⟩
    · rw [List.map_cons]
      simp only [intsD, h1]
      rfl
    · rw [List.sum_cons, h2]
      simp only [W.tot, sg]
      split <;> simp
set_option exponentiation.threshold 3000 in
theorem row_at_ok {v : Int} (hv : v = 1 ∨ v = -1) (hb : Bk i t) (hi : i ≤ 6) : F2 (isRow t) (isV (.int v)) (isV (.int (W.tot (sg v) t))) m_Row_at := fun S d d' h h' => by
  cases h'
  obtain ⟨n, k, rfl, h1, h2⟩ := h
  have e0 : (tOrM (tNotM (mTru (mCall m_is_integer (mCons (mVar 1) mNil)))) (mTst cNeG (mCall fAbs (mCons (mVar 1) mNil)) (mC (.int 1)))) (stD 4 [.loc n, .int v]) S = .ok false S := by
    rcases hv with rfl | rfl <;> rfl
  obtain ⟨r, S', e1, x, gl⟩ := lock_lcG (S0 := S) (u := t) (k := k) (mi := mItM itDi (mUn (atD [(15, .slot 0)]) (mVar 0))) (it := .di k) (md := mUn (atD [(15, .slot 0)]) (mVar 0)) (tg := .tp [(.nm 2), (.nm 3)]) (sd := stD 4 [.loc n, .int v]) (e := (mIf (mTst cEqG (mBin bMod (mVar 2) (mC (.int 2))) (mC (.int 0))) (mVar 3) (mBin (binO [(15, m_Row_mul)] bMul) (mVar 3) (mVar 1)))) (vs := [2, 3]) (f := fun p => D.int (if p.1 % 2 = 0 then p.2 else p.2 * v)) h2 (at_row h1)
    (dit_i (sd := stD 4 [.loc n, .int v]) (m := mC (.loc k)) (fun _ _ _ => rfl)).nx (dit_i (sd := stD 4 [.loc n, .int v]) (m := mC (.loc k)) (fun _ _ _ => rfl)).ln (lock_at h1 h2) (fun p hp => ⟨[some (.loc n), some (.int v), some (.int p.1), some (.int p.2)], rfl, fun S _ => by
      have a1 : (mTst cEqG (mBin bMod (mVar 2) (mC (.int 2))) (mC (.int 0))) [some (.loc n), some (.int v), some (.int p.1), some (.int p.2)] S = .ok (decide (p.1 % 2 = 0)) S := mTst_ok (cEqG_int (a := p.1 % 2) (b := 0))
      unfold mIf
      rw [a1]
      show (if decide (p.1 % 2 = 0) = true then mVar 3 [some (.loc n), some (.int v), some (.int p.1), some (.int p.2)] S else bMul (.int p.2) (.int v) S) = _
      by_cases z : p.1 % 2 = 0
      · rw [decide_eq_true z, if_pos rfl]
        show Res.ok (D.int p.2) S = _
        rw [if_pos z]
      · rw [decide_eq_false z, if_neg (by decide), if_neg z]
        have : mulOk p.2 v = true := mulOk_2 (mem_small hp (hb.n hi)) (by rcases hv with rfl | rfl <;> decide)
        simp only [bMul, this, if_true]⟩) (by have := hb.l hi; omega)
  obtain ⟨ns, s1, s2⟩ := sum_at t v
  refine ⟨.int (W.tot (sg v) t), S', ?_, x, rfl⟩
  show (b_Row_at (stD 4 [.loc n, .int v]) S).res = _
  unfold b_Row_at
  rw [sSeq_nx (sd1 := stD 4 [.loc n, .int v]) (S1 := S) (by rw [sIf_f e0]; rfl)]
  refine (congrArg SRes.res (sRet_ok (x := .int (W.tot (sg v) t)) (S1 := S') ?_)).trans rfl
  rw [mCall1 e1]
  simp only [fSum, gl, s1, s2]
end
end K03

namespace K03
open PySem PySem.Spec PyProof.Rows L2 Y
section
variable {t u : W.T} {i j : Nat} {S : Sto} {d e : D}
theorem at_prop {m : MF} {x : D} {S2 : Sto} (h : isRow t S d) (e : m [d] S = .ok x S2) : atD [(15, .prop m)] d S = .ok x S2 := by
  unfold atD
  rw [row_cls h]
  have c3 : List.lookup 15 [((15 : Nat), AtK.prop m)] = some (.prop m) := rfl
  simp only [c3, noX, e]
  rfl
def spanI (t : W.T) : Int := maxI (t.map (·.1)) - minI (t.map (·.1))
/-- Row(..) of a plain dict -/
theorem row_new (ht : W.NF t) (hb : Bk i t) (hi : i ≤ 2) : F1 (isDic t) (isRow t) (fun ds S => n_Row_init_2 ds [] S) := fun S d h => by
  obtain ⟨k, rfl, h⟩ := h
  obtain ⟨d, S', h1, h2, h3⟩ := new_ok h ht.nd (hb.e4 (by omega)) (hb.l (by omega)) fun p hp => ⟨Nat.lt_of_le_of_lt (Nat.le_trans (W.mem_le hp) (hb.up hi).nr) (by decide), ht.nz p hp⟩
  rw [nf_id ht] at h3
  exact ⟨d, S', h1, h2, h3⟩
/-- _law_is_row -/
theorem is_row_ok (hn : W.Nd u) (hl : u.length < 16777216) (e : nf u = t) : F2 (isRow t) (isDic u) (isV (.bl true)) m_Lis_row := fun S d d' h h' => by
  obtain ⟨k, e1, g1⟩ := row_at h
  obtain ⟨k2, rfl, h2⟩ := h'
  -- told.terms
  have t1 : m_Row_terms [d] S = .ok (.loc S.n) (S.new (.dct 0 (enc t))) := by
    refine (congrArg SRes.res (sRet_ok (x := .loc S.n) (S1 := S.new (.dct 0 (enc t))) (?_ : mCall fDict _ (stD 1 [d]) S = _))).trans rfl
    have c1 : (mUn (atD [(15, .slot 0)]) (mVar 0)) (stD 1 [d]) S = .ok (.loc k) S := e1
    rw [mCall1 c1]
    exact fDict_d g1
  let S1 := S.new (.dct 0 (enc t))
  have gs1 : S1.get S.n = some (.dct 0 (enc t)) := Sto.get_new_self
  let S2 := S1.new (.lst (tupP t))
  have gs2 : S2.get S1.n = some (.lst (tupP t)) := Sto.get_new_self
  obtain ⟨r, S3, e3, x3, g3⟩ := Lrow_ok (S := S2) (k := k2) (t := u) (Ext.new _ _ (Ext.new _ _ h2)) hn hl
  rw [e] at g3
  refine ⟨.bl true, S3.new (.lst (tupP t)), ?_, ((Ext.new.trans Ext.new).trans x3).trans Ext.new, rfl⟩
  refine (congrArg SRes.res (sRet_ok (x := .bl true) (S1 := S3.new (.lst (tupP t))) (?_ : mAndT _ _ (stD 2 [d, .loc k2]) S = _))).trans rfl
  have c0 : (mCall (fIsE kit kix) (mCons (mVar 0) (mCons (mC (.cls 15)) mNil))) (stD 2 [d, .loc k2]) S = .ok (.bl true) S := row_is h
  rw [mAndT_t c0]
  have c1 : (mUn fItems (mUn (atD [(15, .prop m_Row_terms)]) (mVar 0))) (stD 2 [d, .loc k2]) S = .ok (.loc S1.n) S2 := by
    have : (mUn (atD [(15, .prop m_Row_terms)]) (mVar 0)) (stD 2 [d, .loc k2]) S = .ok (.loc S.n) S1 := at_prop h t1
    rw [mUn_ok this]
    exact fItems_d gs1
  have c2 : (mUn fItems (mCall m_Lrow (mCons (mVar 1) mNil))) (stD 2 [d, .loc k2]) S2 = .ok (.loc S3.n) (S3.new (.lst (tupP t))) := by
    have : (mCall m_Lrow (mCons (mVar 1) mNil)) (stD 2 [d, .loc k2]) S2 = .ok (.loc r) S3 := e3
    rw [mUn_ok this]
    exact fItems_d g3
  rw [mBin_ok c1 c2]
  have l1 : (S3.new (.lst (tupP t))).get S1.n = some (.lst (tupP t)) := Ext.new _ _ (x3 _ _ gs2)
  have l2 : (S3.new (.lst (tupP t))).get S3.n = some (.lst (tupP t)) := Sto.get_new_self
  have n0 : clsD (.loc S1.n) (S3.new (.lst (tupP t))) = none := by simp only [clsD, l1]
  unfold eqO
  rw [n0]
  exact eq_lists l1 l2
/-! the plain functions as functions of dicts -/
theorem f_added {m : Int} (ht : Bk i t) (hu : Bk j u) (hij : i + j ≤ 6) (hm : m.natAbs ≤ 1) : F3 (isDic t) (isDic u) (isV (.int m)) (isDic (addR t u m)) m_Ladded := fun S d d' d'' h h' h'' => by
  cases h''
  obtain ⟨k, rfl, h⟩ := h
  obtain ⟨k2, rfl, h'⟩ := h'
  obtain ⟨r, S', a, b, c⟩ := Ladded_ok (m := m) h h' (by omega) ht.nd hu.nd (by have a := (ht.up (show i ≤ 6 by omega)).len; have b := (hu.up (show j ≤ 6 by omega)).len; omega)
  exact ⟨_, S', a, b, r, rfl, c⟩
theorem f_times (ht : Bk i t) (hu : Bk j u) (hij : i + j ≤ 6) : F2 (isDic t) (isDic u) (isDic (mulR t u)) m_Ltimes := fun S d d' h h' => by
  obtain ⟨k, rfl, h⟩ := h
  obtain ⟨k2, rfl, h'⟩ := h'
  have ln : t.length * u.length < 16777216 := by
    have := Nat.mul_le_mul ht.len hu.len
    rw [← Nat.pow_add] at this
    exact Nat.lt_of_le_of_lt this (Nat.lt_of_le_of_lt (Nat.pow_le_pow_right (by decide) hij) (by decide))
  obtain ⟨r, S', a, b, c⟩ := Ltimes_ok h h' ht.nd hu.nd (ht.n (by omega)) (hu.n (by omega)) ln
  exact ⟨_, S', a, b, r, rfl, c⟩
theorem f_row (ht : Bk i t) (hi : i ≤ 6) : F1 (isDic t) (isDic (nf t)) m_Lrow := fun S d h => by
  obtain ⟨k, rfl, h⟩ := h
  obtain ⟨r, S', a, b, c⟩ := Lrow_ok h ht.nd (ht.l hi)
  exact ⟨_, S', a, b, r, rfl, c⟩
theorem f_is_row (ht : W.NF t) (hb : Bk i t) (hi : i ≤ 6) : F2 (isRow t) (isDic t) (isV (.bl true)) m_Lis_row := is_row_ok ht.nd (hb.l hi) (nf_id ht)
/-- {0: n} -/
theorem disp_ok {m : ME} {n : Int} {sd : SD} (h : QE (isV (.int n)) m sd S) : QE (isDic [(0, n)]) (mDisp [((mC (.int 0)), m)]) sd S := fun S1 x => by
  obtain ⟨d, S2, e, x2, p⟩ := h (S1.new (.dct 0 [])) (x.trans Ext.new)
  cases p
  have g : S2.get S1.n = some (.dct 0 []) := x2 _ _ Sto.get_new_self
  refine ⟨.loc S1.n, S2.set S1.n (.dct 0 (enc [(0, n)])), ?_, fun k c hk => ?_, S1.n, rfl, Sto.get_set_self g⟩
  · have gz : isDct0 (.loc S1.n) S2 = true := by simp only [isDct0, g]
    unfold mDisp
    have ep : mPairs [((mC (.int 0)), m)] sd (S1.new (.dct 0 [])) = .ok [(.int 0, .int n)] S2 := by
      have e0 : mPairs [((mC (.int 0)), m)] sd (S1.new (.dct 0 [])) = (m sd (S1.new (.dct 0 []))).bind fun vd S2 => (mPairs [] sd S2).bind fun ps S3 => .ok ((.int 0, vd) :: ps) S3 := rfl
      rw [e0, e]
      rfl
    rw [ep]
    simp only [Res.bind, gz]
    rfl
  · have := Sto.get_lt hk
    rw [Sto.get_set_ne (by omega)]
    exact x2 _ _ (Ext.new _ _ hk)
/-- == {} of dicts -/
theorem dic_eq0 {m : ME} {sd : SD} (h : QE (isDic t) m sd S) : QE (isV (.bl (decide (t = [])))) (mBin cEqG m mDct0) sd S := fun S1 x => by
  obtain ⟨d, S2, e, x2, k, rfl, g⟩ := h S1 x
  refine ⟨_, S2.new (.dct 0 []), ?_, x2.trans Ext.new, rfl⟩
  rw [mBin_ok e (rfl : mDct0 sd S2 = .ok (.loc S2.n) (S2.new (.dct 0 [])))]
  exact cEq_dct0 (Ext.new _ _ g) Sto.get_new_self
theorem dic_ne0 {m : ME} {sd : SD} (h : QE (isDic t) m sd S) : QT (!decide (t = [])) (mTst cNeG m mDct0) sd S := fun S1 x => by
  obtain ⟨d, S2, e, x2, k, rfl, g⟩ := h S1 x
  refine ⟨S2.new (.dct 0 []), mTst_ok ?_, x2.trans Ext.new⟩
  rw [mBin_ok e (rfl : mDct0 sd S2 = .ok (.loc S2.n) (S2.new (.dct 0 [])))]
  exact cNe_dct0 (Ext.new _ _ g) Sto.get_new_self
/-! rules over expressions -/
section
variable {sd : SD} {m m1 : ME}
theorem re_op (h : QE (isRow t) m sd S) : QE (isOp t) m sd S := h.mono fun _ _ a => .inl a
theorem re_int {n : Int} (hn : n.natAbs < 10 ^ 60) (h : QE (isV (.int n)) m sd S) : QE (isOp [(0, n)]) m sd S := h.mono fun _ _ a => .inr ⟨n, a, rfl, hn⟩
theorem re_add (hb : Bk i t) (hu : Bk j u) (hij : i + j ≤ 6) (a : QE (isRow t) m sd S) (b : QE (isOp u) m1 sd S) : QE (isRow (addR t u 1)) (mBin (binO [(15, m_Row_add)] bAdd) m m1) sd S := qe_bin (bin_row (row_add hb hu hij)) mono_row a b
theorem re_sub (hb : Bk i t) (hu : Bk j u) (hij : i + j ≤ 6) (a : QE (isRow t) m sd S) (b : QE (isOp u) m1 sd S) : QE (isRow (addR t u (-1))) (mBin (binO [(15, m_Row_sub)] bSub) m m1) sd S := qe_bin (bin_row (row_sub hb hu hij)) mono_row a b
theorem re_mul (hb : Bk i t) (hu : Bk j u) (hij : i + j ≤ 6) (a : QE (isRow t) m sd S) (b : QE (isOp u) m1 sd S) : QE (isRow (mulR t u)) (mBin (binO [(15, m_Row_mul)] bMul) m m1) sd S := qe_bin (bin_row (row_mul hb hu hij)) mono_row a b
theorem re_neg (hb : Bk i t) (hi : i ≤ 6) (a : QE (isRow t) m sd S) : QE (isRow (negR t)) (mUn (unO [(15, m_Row_neg)] uNeg) m) sd S := qe_un (un_row (row_neg hb hi)) a
theorem re_ne (hn : W.Nd t) (e : u = t) (a : QE (isRow t) m sd S) (b : QE (isRow u) m1 sd S) : QT false (mTst (neO [(15, m_Row_eq)] eqts cNeG) m m1) sd S :=
  qt_tst (qe_bin (Q := isV (.bl false)) (fun S d d' h h' => by
    subst e
    exact ⟨_, S, neO_row h h' (row_eq hn h h'), Ext.refl, rfl⟩) mono_row a b)
theorem re_eq (hn : W.Nd t) (e : u = t) (a : QE (isRow t) m sd S) (b : QE (isRow u) m1 sd S) : QE (isV (.bl true)) (mBin (eqO [(15, m_Row_eq)] eqts cEqG) m m1) sd S :=
  qe_bin (Q := isV (.bl true)) (fun S d d' h h' => by
    subst e
    exact ⟨_, S, eqO_row h h' (row_eq hn h h'), Ext.refl, rfl⟩) mono_row a b
theorem re_eq0 (a : QE (isRow t) m sd S) (b : QE (isRow []) m1 sd S) : QE (isV (.bl (decide (t = [])))) (mBin (eqO [(15, m_Row_eq)] eqts cEqG) m m1) sd S :=
  qe_bin (fun S d d' h h' => ⟨_, S, eqO_row h h' (row_eq0 h h'), Ext.refl, rfl⟩) mono_row a b
theorem re_at {v : Int} (hv : v = 1 ∨ v = -1) (hb : Bk i t) (hi : i ≤ 6) (a : QE (isRow t) m sd S) (b : QE (isV (.int v)) m1 sd S) : QE (isV (.int (W.tot (sg v) t))) (mMethO [(15, m_Row_at)] m (mCons m1 mNil)) sd S := fun S1 x => by
  obtain ⟨d, S2, e, x2, p⟩ := a S1 x
  obtain ⟨d1, S3, e1, x3, p1⟩ := b S2 (x.trans x2)
  obtain ⟨d3, S4, e3, x4, p3⟩ := row_at_ok hv hb hi S3 d d1 (mono_row _ _ _ x3 p) p1
  refine ⟨d3, S4, ?_, (x2.trans x3).trans x4, p3⟩
  unfold mMethO
  rw [e]
  have c3 : List.lookup 15 [((15 : Nat), m_Row_at)] = some m_Row_at := rfl
  simp only [bind_ok, row_cls p, c3]
  rw [mCons_ok e1 mNil_ok]
  exact e3
theorem ie_mul {a b : Int} (h : mulOk a b = true) (x : QE (isV (.int a)) m sd S) (y : QE (isV (.int b)) m1 sd S) : QE (isV (.int (a * b))) (mBin (binO [(15, m_Row_mul)] bMul) m m1) sd S :=
  qe_bin (fun S d d' h1 h2 => by
    cases h1
    cases h2
    refine ⟨.int (a * b), S, ?_, Ext.refl, rfl⟩
    show bMul (.int a) (.int b) S = _
    simp only [bMul, h, if_true]) mono_v x y
theorem ie_add {a b : Int} (x : QE (isV (.int a)) m sd S) (y : QE (isV (.int b)) m1 sd S) : QE (isV (.int (a + b))) (mBin (binO [(15, m_Row_add)] bAdd) m m1) sd S :=
  qe_bin (fun S d d' h1 h2 => by
    cases h1
    cases h2
    exact ⟨.int (a + b), S, rfl, Ext.refl, rfl⟩) mono_v x y
theorem ie_ne {a b : Int} (h : a = b) (x : QE (isV (.int a)) m sd S) (y : QE (isV (.int b)) m1 sd S) : QT false (mTst (neO [(15, m_Row_eq)] eqts cNeG) m m1) sd S :=
  qt_tst (qe_bin (Q := isV (.bl false)) (fun S d d' h1 h2 => by
    cases h1
    cases h2
    refine ⟨_, S, ?_, Ext.refl, rfl⟩
    show cNeG (.int a) (.int b) S = _
    rw [cNeG_int, decide_eq_false (by simpa using h)]) mono_v x y)
theorem ie_eq {a b : Int} (h : a = b) (x : QE (isV (.int a)) m sd S) (y : QE (isV (.int b)) m1 sd S) : QE (isV (.bl true)) (mBin (eqO [(15, m_Row_eq)] eqts cEqG) m m1) sd S :=
  qe_bin (Q := isV (.bl true)) (fun S d d' h1 h2 => by
    cases h1
    cases h2
    refine ⟨_, S, ?_, Ext.refl, rfl⟩
    show cEqG (.int a) (.int b) S = _
    rw [cEqG_int, decide_eq_true h]) mono_v x y
theorem be_eq {a b : Bool} (h : a = b) (x : QE (isV (.bl a)) m sd S) (y : QE (isV (.bl b)) m1 sd S) : QE (isV (.bl true)) (mBin (eqO [(15, m_Row_eq)] eqts cEqG) m m1) sd S :=
  qe_bin (Q := isV (.bl true)) (fun S d d' h1 h2 => by
    cases h1
    cases h2
    subst h
    exact ⟨.bl true, S, by cases a <;> rfl, Ext.refl, rfl⟩) mono_v x y
theorem ie_m1 : QE (isV (.int (-1))) (mUn uNeg (mC (.int 1))) sd S := fun S1 x => ⟨_, S1, rfl, Ext.refl, rfl⟩
end
end
end K03

namespace K03
open PySem PySem.Spec PyProof.Rows L2 Y
def qBody : MS := (sSeq (sSet 6 (mCall fMin1 (mCons (mVar 3) mNil)))
  (sSeq (sIf (tOrM (mTst cNeG (mBin bModG (mBin (ixO [(15, m_Row_getitem)] ixG) (mVar 3) (mVar 6)) (mBin (ixO [(15, m_Row_getitem)] ixG) (mVar 1) (mVar 4))) (mC (.int 0))) (mTst cGt (mBin (binO [(15, m_Row_sub)] bSub) (mVar 6) (mVar 4)) (mVar 5))) (sRet (mC .non)) sSkip)
  (sSeq (sSet 7 (mBin bDivG (mBin (ixO [(15, m_Row_getitem)] ixG) (mVar 3) (mVar 6)) (mBin (ixO [(15, m_Row_getitem)] ixG) (mVar 1) (mVar 4))))
  (sSeq (sStI stI (mVar 2) (mBin (binO [(15, m_Row_sub)] bSub) (mVar 6) (mVar 4)) (mVar 7))
  (sSeq (sSet 8 (mCall m_summed_terms (mCons (mVar 3) (mCons (mLock (mVar 1) (mDc (mItM itDi (mVar 1)) (.tp [(.nm 9), (.nm 10)]) tYesM (mBin (binO [(15, m_Row_sub)] bSub) (mBin (binO [(15, m_Row_add)] bAdd) (mVar 9) (mVar 6)) (mVar 4)) (mVar 10) [9, 10])) (mCons (mUn (unO [(15, m_Row_neg)] uNeg) (mVar 7)) mNil)))))
  (sLock (mVar 8) (sSet 3 (mDc (mItM itDi (mVar 8)) (.tp [(.nm 9), (.nm 10)]) (mTst cNeG (mVar 10) (mC (.int 0))) (mVar 9) (mVar 10) [9, 10]))))))))
abbrev sq (k1 k2 kf kr : Nat) (lo ro : Int) (x6 x7 x8 x9 x10 : Option D) : SD := [some (.loc k1), some (.loc k2), some (.loc kf), some (.loc kr), some (.int lo), some (.int ro), x6, x7, x8, x9, x10]
theorem while_t {t : MT} {b : MS} {n : Nat} {sd sd2 : SD} {S S1 S2 : Sto} (e : t sd S = .ok true S1) (e2 : b sd S1 = .nx sd2 S2) : whileLoop t b (n + 1) sd S = whileLoop t b n sd2 S2 := by
  have h : whileLoop t b (n + 1) sd S = bindS (t sd S) sd fun k S1 => if k then (b sd S1).turn (whileLoop t b n) else .nx sd S1 := rfl
  rw [h, e]
  simp only [bindS, if_true]
  rw [e2]
  rfl
theorem set_ext {S0 S : Sto} {j : Nat} {c : Cell} (h : Ext S0 S) (hj : S0.n ≤ j) : Ext S0 (S.set j c) := fun i x hi => by
  have := Sto.get_lt hi
  rw [Sto.get_set_ne (by omega)]
  exact h i x hi
theorem min1_ok {S : Sto} {k : Nat} {t : W.T} (h : S.get k = some (.dct 0 (enc t))) (ne : t ≠ []) : fMin1 [.loc k] S = .ok (.int (lowK t)) S := by
  have hi : intsOf (.loc k) S = some (t.map (·.1)) := by simp only [intsOf, h, enc_keys]
  cases t with
  | nil => exact absurd rfl ne
  | cons p r => simp only [fMin1, hi, List.map_cons]; rfl
theorem max1_ok {S : Sto} {k : Nat} {t : W.T} (h : S.get k = some (.dct 0 (enc t))) (ne : t ≠ []) : fMax1 [.loc k] S = .ok (.int (highK t)) S := by
  have hi : intsOf (.loc k) S = some (t.map (·.1)) := by simp only [intsOf, h, enc_keys]
  cases t with
  | nil => exact absurd rfl ne
  | cons p r => simp only [fMax1, hi, List.map_cons]; rfl
/-- the loop's test while there is a rest, and the least exponent -/
theorem q_test {r : W.T} {k1 k2 kf kr : Nat} {lo ro : Int} {S : Sto} {x6 x7 x8 x9 x10 : Option D} (gr : S.get kr = some (.dct 0 (enc r))) (ne : r ≠ []) : mTst cNeG (mVar 3) mDct0 (sq k1 k2 kf kr lo ro x6 x7 x8 x9 x10) S = .ok true (S.new (.dct 0 [])) := by
  refine mTst_ok ?_
  have e0 : mVar 3 (sq k1 k2 kf kr lo ro x6 x7 x8 x9 x10) S = .ok (.loc kr) S := rfl
  have e1 : mDct0 (sq k1 k2 kf kr lo ro x6 x7 x8 x9 x10) S = .ok (.loc S.n) (S.new (.dct 0 [])) := rfl
  rw [mBin_ok e0 e1, cNe_dct0 (Ext.new _ _ gr) Sto.get_new_self, decide_eq_false ne]
  rfl
theorem fmod_small {a b : Int} : a.fmod b = 0 ∨ a.fmod b ≠ 0 := Decidable.em _
/-- the test of a step -/
theorem q_bad {t u l r : W.T} {k1 k2 kf kr : Nat} {S : Sto} {x7 x8 x9 x10 : Option D} (hu : W.NF u) (nu : u ≠ []) (hl : W.NF l) (lk : Like r l) (ne : l ≠ []) (g2 : S.get k2 = some (.dct 0 (enc u))) (gr : S.get kr = some (.dct 0 (enc r))) {b : Bool} (hb : b = true ↔ Bad t u l) :
    (tOrM (mTst cNeG (mBin bModG (mBin (ixO [(15, m_Row_getitem)] ixG) (mVar 3) (mVar 6)) (mBin (ixO [(15, m_Row_getitem)] ixG) (mVar 1) (mVar 4))) (mC (.int 0))) (mTst cGt (mBin (binO [(15, m_Row_sub)] bSub) (mVar 6) (mVar 4)) (mVar 5))) (sq k1 k2 kf kr (lowK u) (highK t - highK u) (some (.int (lowK l))) x7 x8 x9 x10) S = .ok b S := by
  have hr : r ≠ [] := fun z => ne (lk.nil.mp z)
  have v1 : (mBin (ixO [(15, m_Row_getitem)] ixG) (mVar 3) (mVar 6)) (sq k1 k2 kf kr (lowK u) (highK t - highK u) (some (.int (lowK l))) x7 x8 x9 x10) S = .ok (.int (W.val l (lowK l))) S := by
    have := gi_none (e := lowK l) gr (by rw [← lk.low ne]; exact lowK_mem hr)
    rw [lk.val hl] at this
    exact this
  have v2 : (mBin (ixO [(15, m_Row_getitem)] ixG) (mVar 1) (mVar 4)) (sq k1 k2 kf kr (lowK u) (highK t - highK u) (some (.int (lowK l))) x7 x8 x9 x10) S = .ok (.int (W.val u (lowK u))) S := gi_none (e := lowK u) g2 (lowK_mem nu)
  have v3 : (mBin bModG (mBin (ixO [(15, m_Row_getitem)] ixG) (mVar 3) (mVar 6)) (mBin (ixO [(15, m_Row_getitem)] ixG) (mVar 1) (mVar 4))) (sq k1 k2 kf kr (lowK u) (highK t - highK u) (some (.int (lowK l))) x7 x8 x9 x10) S = .ok (.int ((W.val l (lowK l)).fmod (W.val u (lowK u)))) S := by
    rw [mBin_ok v1 v2]
    simp only [bModG]
    rw [if_pos (val_ne hu (lowK_mem nu))]
  have v4 : (mTst cNeG (mBin bModG (mBin (ixO [(15, m_Row_getitem)] ixG) (mVar 3) (mVar 6)) (mBin (ixO [(15, m_Row_getitem)] ixG) (mVar 1) (mVar 4))) (mC (.int 0))) (sq k1 k2 kf kr (lowK u) (highK t - highK u) (some (.int (lowK l))) x7 x8 x9 x10) S = .ok (decide ((W.val l (lowK l)).fmod (W.val u (lowK u)) ≠ 0)) S := by
    refine mTst_ok ?_
    have e0 : mC (.int 0) (sq k1 k2 kf kr (lowK u) (highK t - highK u) (some (.int (lowK l))) x7 x8 x9 x10) S = .ok (.int 0) S := rfl
    rw [mBin_ok v3 e0]
    exact cNeG_int
  have v5 : (mTst cGt (mBin (binO [(15, m_Row_sub)] bSub) (mVar 6) (mVar 4)) (mVar 5)) (sq k1 k2 kf kr (lowK u) (highK t - highK u) (some (.int (lowK l))) x7 x8 x9 x10) S = .ok (decide (highK t - highK u < lowK l - lowK u)) S := rfl
  unfold tOrM
  rw [v4]
  simp only [bind_ok]
  unfold Bad at hb
  by_cases z : (W.val l (lowK l)).fmod (W.val u (lowK u)) ≠ 0
  · rw [decide_eq_true z, if_pos rfl, hb.mpr (.inl z)]
  · rw [decide_eq_false z, if_neg (by decide), v5]
    congr 1
    cases b with
    | true =>
      rcases hb.mp rfl with h | h
      · exact absurd h z
      · exact decide_eq_true h
    | false => exact decide_eq_false fun h => absurd (hb.mpr (.inr h)) (by decide)
theorem q_loop {t u : W.T} {S0 : Sto} {k1 k2 kf c M : Nat} (g1 : S0.get k1 = some (.dct 0 (enc t))) (g2 : S0.get k2 = some (.dct 0 (enc u))) (hkf : S0.n ≤ kf) {l f : W.T} {res : Option W.T} {n : Nat} (h : DivR t u l f res n) :
    ∀ (fuel a : Nat) (r : W.T) (kr : Nat) (S : Sto) (x6 x7 x8 x9 x10 : Option D), n < fuel → Sz t u l n a c M → Like r l → f.length + n < 1000000 → Ext S0 S → S.get kf = some (.dct 0 (enc f)) → S.get kr = some (.dct 0 (enc r)) → kr ≠ kf →
      (res = none → ∃ S', whileLoop (mTst cNeG (mVar 3) mDct0) qBody fuel (sq k1 k2 kf kr (lowK u) (highK t - highK u) x6 x7 x8 x9 x10) S = .rt .non S' ∧ Ext S0 S') ∧
      ∀ f', res = some f' → ∃ S' y3 y6 y7 y8 y9 y10, whileLoop (mTst cNeG (mVar 3) mDct0) qBody fuel (sq k1 k2 kf kr (lowK u) (highK t - highK u) x6 x7 x8 x9 x10) S = .nx [some (.loc k1), some (.loc k2), some (.loc kf), y3, some (.int (lowK u)), some (.int (highK t - highK u)), y6, y7, y8, y9, y10] S' ∧ Ext S0 S' ∧ S'.get kf = some (.dct 0 (enc f')) := by
  induction h with
  | @done f =>
    intro fuel a r kr S x6 x7 x8 x9 x10 hf sz lk hl x gf gr hne
    cases fuel with
    | zero => omega
    | succ fuel =>
      have hr : r = [] := lk.nil.mpr rfl
      subst hr
      refine ⟨(fun z => by cases z), fun f' z => ?_⟩
      cases z
      refine ⟨S.new (.dct 0 []), some (.loc kr), x6, x7, x8, x9, x10, ?_, x.trans Ext.new, Ext.new _ _ gf⟩
      have e : mTst cNeG (mVar 3) mDct0 (sq k1 k2 kf kr (lowK u) (highK t - highK u) x6 x7 x8 x9 x10) S = .ok false (S.new (.dct 0 [])) := by
        refine mTst_ok ?_
        have e0 : mVar 3 (sq k1 k2 kf kr (lowK u) (highK t - highK u) x6 x7 x8 x9 x10) S = .ok (.loc kr) S := rfl
        have e1 : mDct0 (sq k1 k2 kf kr (lowK u) (highK t - highK u) x6 x7 x8 x9 x10) S = .ok (.loc S.n) (S.new (.dct 0 [])) := rfl
        rw [mBin_ok e0 e1, cNe_dct0 (Ext.new _ _ gr) Sto.get_new_self]
        rfl
      unfold whileLoop
      rw [e]
      rfl
  | @fail l f ne bad =>
    intro fuel a r kr S x6 x7 x8 x9 x10 hf sz lk hl x gf gr hne
    cases fuel with
    | zero => omega
    | succ fuel =>
      have hr : r ≠ [] := fun z => ne (lk.nil.mp z)
      refine ⟨fun _ => ⟨S.new (.dct 0 []), ?_, x.trans Ext.new⟩, fun f' z => by cases z⟩
      have gr1 : (S.new (.dct 0 [])).get kr = some (.dct 0 (enc r)) := Ext.new _ _ gr
      have e1 : (mCall fMin1 (mCons (mVar 3) mNil)) (sq k1 k2 kf kr (lowK u) (highK t - highK u) x6 x7 x8 x9 x10) (S.new (.dct 0 [])) = .ok (.int (lowK l)) (S.new (.dct 0 [])) := by
        rw [← lk.low ne]
        exact min1_ok gr1 hr
      have e2 := q_bad (t := t) (k1 := k1) (kf := kf) (x7 := x7) (x8 := x8) (x9 := x9) (x10 := x10) (b := true) sz.nu sz.ne sz.nl lk ne (Ext.new _ _ (x _ _ g2)) gr1 ⟨fun _ => bad, fun _ => rfl⟩
      unfold whileLoop
      rw [q_test gr hr]
      show (qBody (sq k1 k2 kf kr (lowK u) (highK t - highK u) x6 x7 x8 x9 x10) (S.new (.dct 0 []))).turn _ = _
      unfold qBody
      rw [sSeq_nx (sSet_ok e1)]
      rw [show (sq k1 k2 kf kr (lowK u) (highK t - highK u) x6 x7 x8 x9 x10).set 6 (some (.int (lowK l))) = sq k1 k2 kf kr (lowK u) (highK t - highK u) (some (.int (lowK l))) x7 x8 x9 x10 from rfl]
      rw [sSeq_rt (x := .non) (S1 := S.new (.dct 0 [])) (by rw [sIf_t e2]; rfl)]
      rfl
  | @step l f res n ne bad k ih =>
    intro fuel a r kr S x6 x7 x8 x9 x10 hf sz lk hl x gf gr hne
    cases fuel with
    | zero => omega
    | succ fuel =>
      have hr : r ≠ [] := fun z => ne (lk.nil.mp z)
      let S1 := S.new (.dct 0 [])
      have gr1 : S1.get kr = some (.dct 0 (enc r)) := Ext.new _ _ gr
      have gf1 : S1.get kf = some (.dct 0 (enc f)) := Ext.new _ _ gf
      have x1 : Ext S0 S1 := x.trans Ext.new
      have hk2 := Sto.get_lt g2
      have e1 : (mCall fMin1 (mCons (mVar 3) mNil)) (sq k1 k2 kf kr (lowK u) (highK t - highK u) x6 x7 x8 x9 x10) S1 = .ok (.int (lowK l)) S1 := by
        rw [← lk.low ne]
        exact min1_ok gr1 hr
      have e2 := q_bad (t := t) (k1 := k1) (kf := kf) (x7 := x7) (x8 := x8) (x9 := x9) (x10 := x10) (b := false) sz.nu sz.ne sz.nl lk ne (x1 _ _ g2) gr1 ⟨(fun z => by cases z), fun z => absurd z bad⟩
      have sd6 : (sq k1 k2 kf kr (lowK u) (highK t - highK u) x6 x7 x8 x9 x10).set 6 (some (.int (lowK l))) = sq k1 k2 kf kr (lowK u) (highK t - highK u) (some (.int (lowK l))) x7 x8 x9 x10 := rfl
      -- times
      have v1 : (mBin (ixO [(15, m_Row_getitem)] ixG) (mVar 3) (mVar 6)) (sq k1 k2 kf kr (lowK u) (highK t - highK u) (some (.int (lowK l))) x7 x8 x9 x10) S1 = .ok (.int (W.val l (lowK l))) S1 := by
        have := gi_none (e := lowK l) gr1 (by rw [← lk.low ne]; exact lowK_mem hr)
        rw [lk.val sz.nl] at this
        exact this
      have v2 : (mBin (ixO [(15, m_Row_getitem)] ixG) (mVar 1) (mVar 4)) (sq k1 k2 kf kr (lowK u) (highK t - highK u) (some (.int (lowK l))) x7 x8 x9 x10) S1 = .ok (.int (W.val u (lowK u))) S1 := gi_none (e := lowK u) (x1 _ _ g2) (lowK_mem sz.ne)
      have hlog : (W.val u (lowK u)).natAbs.log2 < 9000 := sz.log _
      have e3 : (mBin bDivG (mBin (ixO [(15, m_Row_getitem)] ixG) (mVar 3) (mVar 6)) (mBin (ixO [(15, m_Row_getitem)] ixG) (mVar 1) (mVar 4))) (sq k1 k2 kf kr (lowK u) (highK t - highK u) (some (.int (lowK l))) x7 x8 x9 x10) S1 = .ok (.int (quo u l)) S1 := by
        rw [mBin_ok v1 v2]
        simp only [bDivG]
        rw [if_pos ⟨val_ne sz.nu (lowK_mem sz.ne), hlog⟩]
        rfl
      -- found
      let S2 := S1.set kf (.dct 0 (enc (W.put f (lowK l - lowK u) (quo u l))))
      have e4 : (sStI stI (mVar 2) (mBin (binO [(15, m_Row_sub)] bSub) (mVar 6) (mVar 4)) (mVar 7)) (sq k1 k2 kf kr (lowK u) (highK t - highK u) (some (.int (lowK l))) (some (.int (quo u l))) x8 x9 x10) S1 = .nx (sq k1 k2 kf kr (lowK u) (highK t - highK u) (some (.int (lowK l))) (some (.int (quo u l))) x8 x9 x10) S2 :=
        sStI_ok (f := stI) (d := .int (quo u l)) (S1 := S1) rfl rfl rfl (stI_enc gf1 (by omega))
      have gf2 : S2.get kf = some (.dct 0 (enc (W.put f (lowK l - lowK u) (quo u l)))) := Sto.get_set_self gf1
      have gr2 : S2.get kr = some (.dct 0 (enc r)) := by show (S1.set _ _).get kr = _; rw [Sto.get_set_ne hne]; exact gr1
      have x2 : Ext S0 S2 := set_ext x1 hkf
      -- shifted
      obtain ⟨r3, S3, e5, _, x3, g3, _⟩ := lock_dcV (S0 := S2) (u := u) (k := k2) (md := mVar 1) (sd := sq k1 k2 kf kr (lowK u) (highK t - highK u) (some (.int (lowK l))) (some (.int (quo u l))) x8 x9 x10) (tg := .tp [(.nm 9), (.nm 10)]) (q := tYesM) (ek := mBin (binO [(15, m_Row_sub)] bSub) (mBin (binO [(15, m_Row_add)] bAdd) (mVar 9) (mVar 6)) (mVar 4)) (ev := mVar 10) (vs := [9, 10]) (p := fun _ => true) (fk := fun a => a.1 + lowK l - lowK u) (fv := fun a => a.2) (x2 _ _ g2) (fun _ _ _ => rfl)
        (fun a _ => ⟨_, rfl, fun S _ => ⟨rfl, rfl, rfl⟩⟩) (by have := sz.ln; rw [Nat.succ_mul] at this; omega)
      have esh : putAll (fun _ => true) (fun a : Int × Int => a.1 + lowK l - lowK u) (fun a => a.2) u = shiftR (lowK l - lowK u) u := by
        rw [putAll_all]
        · unfold shiftR
          refine List.map_congr_left fun a _ => ?_
          show (a.1 + lowK l - lowK u, a.2) = (a.1 + (lowK l - lowK u), a.2)
          congr 1
          omega
        · have := nd_shift (s := lowK l - lowK u) sz.nu.nd
          unfold W.Nd shiftR at this
          rw [List.map_map] at this
          refine (List.map_congr_left fun a _ => ?_) ▸ this
          show a.1 + (lowK l - lowK u) = a.1 + lowK l - lowK u
          omega
      rw [esh] at g3
      -- summed
      obtain ⟨r4, S4, e6, x4, g4⟩ := summed_terms_okM (S := S3) (k := kr) (k2 := r3) (t := r) (u := shiftR (lowK l - lowK u) u) (m := -quo u l) (x3 _ _ gr2) g3 (fun p hp => sz.mul (by rw [Int.natAbs_neg]; exact quo_le sz.ne sz.nu bad) (shift_mem hp)) lk.nd (by rw [shift_len, ← lk.perm.length_eq]; have := sz.len; omega)
      have e7 : (mCall m_summed_terms (mCons (mVar 3) (mCons (mLock (mVar 1) (mDc (mItM itDi (mVar 1)) (.tp [(.nm 9), (.nm 10)]) tYesM (mBin (binO [(15, m_Row_sub)] bSub) (mBin (binO [(15, m_Row_add)] bAdd) (mVar 9) (mVar 6)) (mVar 4)) (mVar 10) [9, 10])) (mCons (mUn (unO [(15, m_Row_neg)] uNeg) (mVar 7)) mNil)))) (sq k1 k2 kf kr (lowK u) (highK t - highK u) (some (.int (lowK l))) (some (.int (quo u l))) x8 x9 x10) S2 = .ok (.loc r4) S4 := by
        have a1 : mVar 3 (sq k1 k2 kf kr (lowK u) (highK t - highK u) (some (.int (lowK l))) (some (.int (quo u l))) x8 x9 x10) S2 = .ok (.loc kr) S2 := rfl
        have a3 : (mUn (unO [(15, m_Row_neg)] uNeg) (mVar 7)) (sq k1 k2 kf kr (lowK u) (highK t - highK u) (some (.int (lowK l))) (some (.int (quo u l))) x8 x9 x10) S3 = .ok (.int (-quo u l)) S3 := rfl
        rw [mCall_ok (mCons_ok a1 (mCons_ok e5 (mCons_ok a3 mNil_ok)))]
        exact e6
      have sk := W.summed_ok (-quo u l) (shiftR (lowK l - lowK u) u) lk.nd
      obtain ⟨r5, S5, _, e8, x5, g5, n5⟩ := lock_dcV (S0 := S4) (u := W.summed r (shiftR (lowK l - lowK u) u) (-quo u l)) (k := r4) (md := mVar 8) (sd := sq k1 k2 kf kr (lowK u) (highK t - highK u) (some (.int (lowK l))) (some (.int (quo u l))) (some (.loc r4)) x9 x10) (tg := .tp [(.nm 9), (.nm 10)]) (q := mTst cNeG (mVar 10) (mC (.int 0))) (ek := mVar 9) (ev := mVar 10) (vs := [9, 10]) (p := fun a => decide (a.2 ≠ 0)) (fk := fun a => a.1) (fv := fun a => a.2) g4 (fun _ _ _ => rfl)
        (fun a _ => ⟨_, rfl, fun S _ => ⟨mTst_ok (cNeG_int (a := a.2) (b := 0)), rfl, rfl⟩⟩) (by have := sk.2.2.2.1; rw [shift_len, ← lk.perm.length_eq] at this; have := sz.len; omega)
      rw [putAll_nz sk.1] at g5
      have x25 : Ext S2 S5 := ((x3.trans x4).trans x5)
      have hne5 : r5 ≠ kf := fun z => by
        have h1 := Sto.get_lt ((x3.trans x4) _ _ gf2)
        omega
      have lk' := lk.next (u := u) sz.nl sz.nu.nd ne
      have hlen : (W.put f (lowK l - lowK u) (quo u l)).length + n < 1000000 := by
        have := W.len_put f (lowK l - lowK u) (quo u l)
        omega
      obtain ⟨i1, i2⟩ := ih fuel (a + c) (nzR (W.summed r (shiftR (lowK l - lowK u) u) (-quo u l))) r5 S5 (some (.int (lowK l))) (some (.int (quo u l))) (some (.loc r4)) x9 x10 (by omega) (sz.next ne bad) lk' hlen (x2.trans x25) (x25 _ _ gf2) g5 hne5
      have run : whileLoop (mTst cNeG (mVar 3) mDct0) qBody (fuel + 1) (sq k1 k2 kf kr (lowK u) (highK t - highK u) x6 x7 x8 x9 x10) S = whileLoop (mTst cNeG (mVar 3) mDct0) qBody fuel (sq k1 k2 kf r5 (lowK u) (highK t - highK u) (some (.int (lowK l))) (some (.int (quo u l))) (some (.loc r4)) x9 x10) S5 := by
        have eb : qBody (sq k1 k2 kf kr (lowK u) (highK t - highK u) x6 x7 x8 x9 x10) S1 = .nx (sq k1 k2 kf r5 (lowK u) (highK t - highK u) (some (.int (lowK l))) (some (.int (quo u l))) (some (.loc r4)) x9 x10) S5 := by
          unfold qBody
          rw [sSeq_nx (sSet_ok e1), sd6, sSeq_nx (sd1 := sq k1 k2 kf kr (lowK u) (highK t - highK u) (some (.int (lowK l))) x7 x8 x9 x10) (S1 := S1) (by rw [sIf_f e2]; rfl), sSeq_nx (sSet_ok e3)]
          rw [show (sq k1 k2 kf kr (lowK u) (highK t - highK u) (some (.int (lowK l))) x7 x8 x9 x10).set 7 (some (.int (quo u l))) = sq k1 k2 kf kr (lowK u) (highK t - highK u) (some (.int (lowK l))) (some (.int (quo u l))) x8 x9 x10 from rfl]
          rw [sSeq_nx e4, sSeq_nx (sSet_ok e7)]
          exact e8 3
        exact while_t (q_test gr hr) eb
      rw [run]
      exact ⟨i1, i2⟩
end K03

namespace K03
open PySem PySem.Spec PyProof.Rows L2 Y
theorem quotient_terms_ok {t u : W.T} {S : Sto} {k1 k2 a c M n : Nat} {res : Option W.T} (g1 : S.get k1 = some (.dct 0 (enc t))) (g2 : S.get k2 = some (.dct 0 (enc u))) (nt : t ≠ []) (h : DivR t u t [] res n) (hn : n < 1000) (sz : Sz t u t n a c M) :
    ∃ S', Ext S S' ∧ (res = none → m_quotient_terms [.loc k1, .loc k2] S = .ok .non S') ∧ ∀ f, res = some f → ∃ r, m_quotient_terms [.loc k1, .loc k2] S = .ok (.loc r) S' ∧ S'.get r = some (.dct 0 (enc f)) := by
  let S1 := S.new (.dct 0 [])
  let S2 := S1.new (.dct 0 (enc t))
  have gf : S2.get S.n = some (.dct 0 (enc [])) := Ext.new _ _ Sto.get_new_self
  have gr : S2.get S1.n = some (.dct 0 (enc t)) := Sto.get_new_self
  have n1 : S1.n = S.n + 1 := rfl
  have x2 : Ext S S2 := Ext.new.trans Ext.new
  have e0 : (mCons mDct0 (mCons (mCall fDict (mCons (mVar 0) mNil)) mNil)) (stD 11 [.loc k1, .loc k2]) S = .ok [.loc S.n, .loc S1.n] S2 := by
    have a1 : mDct0 (stD 11 [.loc k1, .loc k2]) S = .ok (.loc S.n) S1 := rfl
    have a2 : (mCall fDict (mCons (mVar 0) mNil)) (stD 11 [.loc k1, .loc k2]) S1 = .ok (.loc S1.n) S2 := fDict_d (Ext.new _ _ g1)
    exact mCons_ok a1 (mCons_ok a2 mNil_ok)
  have e1 : sPar 2 3 (mCons mDct0 (mCons (mCall fDict (mCons (mVar 0) mNil)) mNil)) (stD 11 [.loc k1, .loc k2]) S = .nx [some (.loc k1), some (.loc k2), some (.loc S.n), some (.loc S1.n), none, none, none, none, none, none, none] S2 := by
    unfold sPar
    rw [e0]
    rfl
  have e2 : sAsgS [(.nm 4), (.nm 5)] (mTup (mCons (mCall fMin1 (mCons (mVar 1) mNil)) (mCons (mBin (binO [(15, m_Row_sub)] bSub) (mCall fMax1 (mCons (mVar 0) mNil)) (mCall fMax1 (mCons (mVar 1) mNil))) mNil))) [some (.loc k1), some (.loc k2), some (.loc S.n), some (.loc S1.n), none, none, none, none, none, none, none] S2 = .nx (sq k1 k2 S.n S1.n (lowK u) (highK t - highK u) none none none none none) S2 := by
    have a1 : (mCall fMin1 (mCons (mVar 1) mNil)) [some (.loc k1), some (.loc k2), some (.loc S.n), some (.loc S1.n), none, none, none, none, none, none, none] S2 = .ok (.int (lowK u)) S2 := min1_ok (x2 _ _ g2) sz.ne
    have a2 : (mCall fMax1 (mCons (mVar 0) mNil)) [some (.loc k1), some (.loc k2), some (.loc S.n), some (.loc S1.n), none, none, none, none, none, none, none] S2 = .ok (.int (highK t)) S2 := max1_ok (x2 _ _ g1) nt
    have a3 : (mCall fMax1 (mCons (mVar 1) mNil)) [some (.loc k1), some (.loc k2), some (.loc S.n), some (.loc S1.n), none, none, none, none, none, none, none] S2 = .ok (.int (highK u)) S2 := max1_ok (x2 _ _ g2) sz.ne
    have a4 : (mBin (binO [(15, m_Row_sub)] bSub) (mCall fMax1 (mCons (mVar 0) mNil)) (mCall fMax1 (mCons (mVar 1) mNil))) [some (.loc k1), some (.loc k2), some (.loc S.n), some (.loc S1.n), none, none, none, none, none, none, none] S2 = .ok (.int (highK t - highK u)) S2 := by
      rw [mBin_ok a2 a3]
      rfl
    unfold sAsgS
    rw [mTup_ok (mCons_ok a1 (mCons_ok a4 mNil_ok)) (by simp)]
    rfl
  obtain ⟨i1, i2⟩ := q_loop (S0 := S) (kf := S.n) (c := c) (M := M) g1 g2 (Nat.le_refl _) h 100000 a t S1.n S2 none none none none none (by omega) sz (Like.refl sz.nl) (by simp; omega) x2 gf gr (by omega)
  have go : ∀ r : SRes, whileLoop (mTst cNeG (mVar 3) mDct0) qBody 100000 (sq k1 k2 S.n S1.n (lowK u) (highK t - highK u) none none none none none) S2 = r → m_quotient_terms [.loc k1, .loc k2] S = (r.andThen (sRet (mVar 2))).res := fun r e => by
    show (b_quotient_terms (stD 11 [.loc k1, .loc k2]) S).res = _
    unfold b_quotient_terms
    rw [sSeq_nx e1, sSeq_nx e2]
    show ((whileLoop (mTst cNeG (mVar 3) mDct0) qBody 100000 (sq k1 k2 S.n S1.n (lowK u) (highK t - highK u) none none none none none) S2).andThen (sRet (mVar 2))).res = _
    rw [e]
  cases res with
  | none =>
    obtain ⟨S', e, x⟩ := i1 rfl
    exact ⟨S', x, fun _ => by rw [go _ e]; rfl, fun f z => by cases z⟩
  | some f =>
    obtain ⟨S', y3, y6, y7, y8, y9, y10, e, x, g⟩ := i2 f rfl
    refine ⟨S', x, fun z => (by cases z), fun f' z => ?_⟩
    cases z
    exact ⟨S.n, by rw [go _ e]; rfl, g⟩
/-! the law's own -/
def lBody : MS := (sSeq (sIf (mTst cEqG (mVar 2) mDct0) (sRet (mCall m_Lrow (mCons (mVar 3) mNil))) sSkip)
  (sSeq (sSet 7 (mCall fMin1 (mCons (mVar 2) mNil)))
  (sSeq (sIf (tOrM (mTst cGt (mBin (binO [(15, m_Row_add)] bAdd) (mBin (binO [(15, m_Row_sub)] bSub) (mVar 7) (mVar 4)) (mVar 5)) (mCall fMax1 (mCons (mVar 0) mNil))) (mTst cNeG (mBin bModG (mCall fInt (mCons (mBin (ixO [(15, m_Row_getitem)] ixG) (mVar 2) (mVar 7)) mNil)) (mCall fAbs (mCons (mBin (ixO [(15, m_Row_getitem)] ixG) (mVar 1) (mVar 4)) mNil))) (mC (.int 0)))) (sRet (mC .non)) sSkip)
  (sSeq (sStI stI (mVar 3) (mBin (binO [(15, m_Row_sub)] bSub) (mVar 7) (mVar 4)) (mBin bDivG (mBin (ixO [(15, m_Row_getitem)] ixG) (mVar 2) (mVar 7)) (mBin (ixO [(15, m_Row_getitem)] ixG) (mVar 1) (mVar 4))))
  (sSet 2 (mCall m_Ladded (mCons (mVar 2) (mCons (mCall m_Ltimes (mCons (mDisp [((mBin (binO [(15, m_Row_sub)] bSub) (mVar 7) (mVar 4)), (mBin (ixO [(15, m_Row_getitem)] ixG) (mVar 3) (mBin (binO [(15, m_Row_sub)] bSub) (mVar 7) (mVar 4))))]) (mCons (mVar 1) mNil))) (mCons (mUn uNeg (mC (.int 1))) mNil)))))))))
abbrev sl (k1 k2 kl kf : Nat) (lo hi : Int) (x6 x7 : Option D) : SD := [some (.loc k1), some (.loc k2), some (.loc kl), some (.loc kf), some (.int lo), some (.int hi), x6, x7]
theorem fmod_abs {a b : Int} : a.fmod (if b < 0 then -b else b) = 0 ↔ a.fmod b = 0 := by
  have h : ∀ {x y : Int}, x.fmod y = 0 ↔ y ∣ x := fun {x y} => ⟨Int.dvd_of_fmod_eq_zero, Int.fmod_eq_zero_of_dvd⟩
  rw [h, h]
  split
  · exact Int.neg_dvd
  · exact Iff.rfl
theorem l_bad {t u l : W.T} {k1 k2 kl kf : Nat} {S : Sto} {x6 : Option D} (hu : W.NF u) (nu : u ≠ []) (hl : W.NF l) (ne : l ≠ []) (nt : t ≠ []) (g1 : S.get k1 = some (.dct 0 (enc t))) (g2 : S.get k2 = some (.dct 0 (enc u))) (gl : S.get kl = some (.dct 0 (enc l))) {b : Bool} (hb : b = true ↔ Bad t u l) :
    (tOrM (mTst cGt (mBin (binO [(15, m_Row_add)] bAdd) (mBin (binO [(15, m_Row_sub)] bSub) (mVar 7) (mVar 4)) (mVar 5)) (mCall fMax1 (mCons (mVar 0) mNil))) (mTst cNeG (mBin bModG (mCall fInt (mCons (mBin (ixO [(15, m_Row_getitem)] ixG) (mVar 2) (mVar 7)) mNil)) (mCall fAbs (mCons (mBin (ixO [(15, m_Row_getitem)] ixG) (mVar 1) (mVar 4)) mNil))) (mC (.int 0)))) (sl k1 k2 kl kf (lowK u) (highK u) x6 (some (.int (lowK l)))) S = .ok b S := by
  have m0 : (mCall fMax1 (mCons (mVar 0) mNil)) (sl k1 k2 kl kf (lowK u) (highK u) x6 (some (.int (lowK l)))) S = .ok (.int (highK t)) S := max1_ok g1 nt
  have a0 : (mBin (binO [(15, m_Row_add)] bAdd) (mBin (binO [(15, m_Row_sub)] bSub) (mVar 7) (mVar 4)) (mVar 5)) (sl k1 k2 kl kf (lowK u) (highK u) x6 (some (.int (lowK l)))) S = .ok (.int (lowK l - lowK u + highK u)) S := rfl
  have v5 : (mTst cGt (mBin (binO [(15, m_Row_add)] bAdd) (mBin (binO [(15, m_Row_sub)] bSub) (mVar 7) (mVar 4)) (mVar 5)) (mCall fMax1 (mCons (mVar 0) mNil))) (sl k1 k2 kl kf (lowK u) (highK u) x6 (some (.int (lowK l)))) S = .ok (decide (highK t < lowK l - lowK u + highK u)) S := by
    refine mTst_ok ?_
    rw [mBin_ok a0 m0]
    rfl
  have v1 : (mBin (ixO [(15, m_Row_getitem)] ixG) (mVar 2) (mVar 7)) (sl k1 k2 kl kf (lowK u) (highK u) x6 (some (.int (lowK l)))) S = .ok (.int (W.val l (lowK l))) S := gi_none (e := lowK l) gl (lowK_mem ne)
  have v2 : (mBin (ixO [(15, m_Row_getitem)] ixG) (mVar 1) (mVar 4)) (sl k1 k2 kl kf (lowK u) (highK u) x6 (some (.int (lowK l)))) S = .ok (.int (W.val u (lowK u))) S := gi_none (e := lowK u) g2 (lowK_mem nu)
  have i1 : (mCall fInt (mCons (mBin (ixO [(15, m_Row_getitem)] ixG) (mVar 2) (mVar 7)) mNil)) (sl k1 k2 kl kf (lowK u) (highK u) x6 (some (.int (lowK l)))) S = .ok (.int (W.val l (lowK l))) S := by
    rw [mCall1 v1]
    rfl
  have i2 : (mCall fAbs (mCons (mBin (ixO [(15, m_Row_getitem)] ixG) (mVar 1) (mVar 4)) mNil)) (sl k1 k2 kl kf (lowK u) (highK u) x6 (some (.int (lowK l)))) S = .ok (.int (if W.val u (lowK u) < 0 then -W.val u (lowK u) else W.val u (lowK u))) S := by
    rw [mCall1 v2]
    rfl
  have nz := val_ne hu (lowK_mem nu)
  have v4 : (mTst cNeG (mBin bModG (mCall fInt (mCons (mBin (ixO [(15, m_Row_getitem)] ixG) (mVar 2) (mVar 7)) mNil)) (mCall fAbs (mCons (mBin (ixO [(15, m_Row_getitem)] ixG) (mVar 1) (mVar 4)) mNil))) (mC (.int 0))) (sl k1 k2 kl kf (lowK u) (highK u) x6 (some (.int (lowK l)))) S = .ok (decide ((W.val l (lowK l)).fmod (W.val u (lowK u)) ≠ 0)) S := by
    refine mTst_ok ?_
    have v3 : (mBin bModG (mCall fInt (mCons (mBin (ixO [(15, m_Row_getitem)] ixG) (mVar 2) (mVar 7)) mNil)) (mCall fAbs (mCons (mBin (ixO [(15, m_Row_getitem)] ixG) (mVar 1) (mVar 4)) mNil))) (sl k1 k2 kl kf (lowK u) (highK u) x6 (some (.int (lowK l)))) S = .ok (.int ((W.val l (lowK l)).fmod (if W.val u (lowK u) < 0 then -W.val u (lowK u) else W.val u (lowK u)))) S := by
      rw [mBin_ok i1 i2]
      simp only [bModG]
      rw [if_pos (by split <;> omega)]
    have e0 : mC (.int 0) (sl k1 k2 kl kf (lowK u) (highK u) x6 (some (.int (lowK l)))) S = .ok (.int 0) S := rfl
    rw [mBin_ok v3 e0]
    refine cNeG_int.trans ?_
    congr 2
    exact decide_eq_decide.mpr (not_congr fmod_abs)
  unfold tOrM
  rw [v5]
  simp only [bind_ok]
  unfold Bad at hb
  by_cases z : highK t < lowK l - lowK u + highK u
  · rw [decide_eq_true z, if_pos rfl, hb.mpr (.inr (by omega))]
  · rw [decide_eq_false z, if_neg (by decide), v4]
    congr 1
    cases b with
    | true =>
      rcases hb.mp rfl with h | h
      · exact decide_eq_true h
      · omega
    | false => exact decide_eq_false fun h => absurd (hb.mpr (.inl h)) (by decide)
end K03

namespace K03
open PySem PySem.Spec PyProof.Rows L2 Y
theorem val_put {e c : Int} : ∀ t : W.T, W.val (W.put t e c) e = c := by
  intro t
  unfold W.put
  split
  · rename_i h
    induction t with
    | nil => simp at h
    | cons p r ih =>
      rw [List.map_cons]
      unfold W.val
      by_cases z : p.1 = e
      · rw [if_pos z]
        simp [z]
      · rw [if_neg z]
        rw [if_neg z]
        refine ih ?_
        rw [List.any_cons, Bool.or_eq_true] at h
        rcases h with h | h
        · exact absurd (by simpa using h) z
        · exact h
  · rename_i h
    rw [Bool.not_eq_true] at h
    induction t with
    | nil => simp [W.val]
    | cons p r ih =>
      rw [List.any_cons, Bool.or_eq_false_iff, decide_eq_false_iff_not] at h
      rw [List.cons_append]
      unfold W.val
      rw [if_neg h.1]
      exact ih h.2
theorem disp2 {mk mv : ME} {sd : SD} {S : Sto} {a b : Int} (h1 : mk sd (S.new (.dct 0 [])) = .ok (.int a) (S.new (.dct 0 []))) (h2 : mv sd (S.new (.dct 0 [])) = .ok (.int b) (S.new (.dct 0 []))) : mDisp [(mk, mv)] sd S = .ok (.loc S.n) ((S.new (.dct 0 [])).set S.n (.dct 0 (enc [(a, b)]))) := by
  have gz : isDct0 (.loc S.n) (S.new (.dct 0 [])) = true := by
    have : (S.new (.dct 0 [])).get S.n = some (.dct 0 []) := Sto.get_new_self
    simp only [isDct0, this]
  have ep : mPairs [(mk, mv)] sd (S.new (.dct 0 [])) = .ok [(.int a, .int b)] (S.new (.dct 0 [])) := by
    have e0 : mPairs [(mk, mv)] sd (S.new (.dct 0 [])) = (mk sd (S.new (.dct 0 []))).bind fun kd S1 => (mv sd S1).bind fun vd S2 => (mPairs [] sd S2).bind fun ps S3 => .ok ((kd, vd) :: ps) S3 := rfl
    rw [e0, h1, bind_ok, h2]
    rfl
  unfold mDisp
  rw [ep]
  simp only [Res.bind, gz]
  rfl
theorem for_nx {it : ItD} {tg : Tg} {b : MS} {n i : Nat} {d : D} {sd sd1 sd2 : SD} {S S2 : Sto} (e : itNext it i S = some (some d)) (e1 : asg tg d sd = some sd1) (e2 : b sd1 S = .nx sd2 S2) : forLoop it tg b (n + 1) i sd S = forLoop it tg b n (i + 1) sd2 S2 := by
  rw [forLoop]
  simp only [e, e1, e2, SRes.turn]
theorem for_rt {it : ItD} {tg : Tg} {b : MS} {n i : Nat} {d v : D} {sd sd1 : SD} {S S2 : Sto} (e : itNext it i S = some (some d)) (e1 : asg tg d sd = some sd1) (e2 : b sd1 S = .rt v S2) : forLoop it tg b (n + 1) i sd S = .rt v S2 := by
  rw [forLoop]
  simp only [e, e1, e2, SRes.turn]
theorem rng_at {n i : Nat} {S : Sto} (h : i < n) : itNext (.rng 0 1 n) i S = some (some (.int i)) := by
  simp only [itNext]
  rw [if_pos h]
  simp
theorem l_loop {t u : W.T} {S0 : Sto} {k1 k2 kf c M : Nat} (g1 : S0.get k1 = some (.dct 0 (enc t))) (g2 : S0.get k2 = some (.dct 0 (enc u))) (hkf : S0.n ≤ kf) {l f : W.T} {res : Option W.T} {n : Nat} (h : DivR t u l f res n) :
    ∀ (i a : Nat) (kl : Nat) (S : Sto) (x6 x7 : Option D), n + i < 200 → Sz t u l n a c M → W.Nd f → f.length + n < 1000000 → Ext S0 S → S.get kf = some (.dct 0 (enc f)) → S.get kl = some (.dct 0 (enc l)) → kl ≠ kf → (t = [] → l = []) →
      ∃ S', Ext S0 S' ∧ (res = none → forLoop (.rng 0 1 200) (.nm 6) lBody (201 - i) i (sl k1 k2 kl kf (lowK u) (highK u) x6 x7) S = .rt .non S') ∧
      ∀ f', res = some f' → ∃ r, forLoop (.rng 0 1 200) (.nm 6) lBody (201 - i) i (sl k1 k2 kl kf (lowK u) (highK u) x6 x7) S = .rt (.loc r) S' ∧ S'.get r = some (.dct 0 (enc (nf f'))) ∧ W.Nd f' := by
  induction h with
  | @done f =>
    intro i a kl S x6 x7 hi sz hn hl x gf gl hne nt0
    have ei : 201 - i = (200 - i) + 1 := by omega
    let S1 := S.new (.dct 0 [])
    have e1 : mTst cEqG (mVar 2) mDct0 (sl k1 k2 kl kf (lowK u) (highK u) (some (.int i)) x7) S = .ok true S1 := by
      refine mTst_ok ?_
      have v0 : mVar 2 (sl k1 k2 kl kf (lowK u) (highK u) (some (.int i)) x7) S = .ok (.loc kl) S := rfl
      have v1 : mDct0 (sl k1 k2 kl kf (lowK u) (highK u) (some (.int i)) x7) S = .ok (.loc S.n) S1 := rfl
      rw [mBin_ok v0 v1, cEq_dct0 (Ext.new _ _ gl) Sto.get_new_self]
      rfl
    obtain ⟨r, S2, e2, x2, g2'⟩ := Lrow_ok (S := S1) (Ext.new _ _ gf) hn (by omega)
    refine ⟨S2, (x.trans Ext.new).trans x2, (fun z => by cases z), fun f' z => ?_⟩
    cases z
    refine ⟨r, ?_, g2', hn⟩
    rw [ei]
    refine for_rt (rng_at (by omega)) (sd1 := sl k1 k2 kl kf (lowK u) (highK u) (some (.int i)) x7) rfl ?_
    unfold lBody
    have e3 : mCall m_Lrow (mCons (mVar 3) mNil) (sl k1 k2 kl kf (lowK u) (highK u) (some (.int i)) x7) S1 = .ok (.loc r) S2 := e2
    rw [sSeq_rt (x := .loc r) (S1 := S2) (by rw [sIf_t e1]; exact sRet_ok e3)]
  | @fail l f ne bad =>
    intro i a kl S x6 x7 hi sz hn hl x gf gl hne nt0
    have nt : t ≠ [] := fun z => ne (nt0 z)
    have ei : 201 - i = (200 - i) + 1 := by omega
    let S1 := S.new (.dct 0 [])
    have gl1 : S1.get kl = some (.dct 0 (enc l)) := Ext.new _ _ gl
    have x1 : Ext S0 S1 := x.trans Ext.new
    have e1 : mTst cEqG (mVar 2) mDct0 (sl k1 k2 kl kf (lowK u) (highK u) (some (.int i)) x7) S = .ok false S1 := by
      refine mTst_ok ?_
      have v0 : mVar 2 (sl k1 k2 kl kf (lowK u) (highK u) (some (.int i)) x7) S = .ok (.loc kl) S := rfl
      have v1 : mDct0 (sl k1 k2 kl kf (lowK u) (highK u) (some (.int i)) x7) S = .ok (.loc S.n) S1 := rfl
      rw [mBin_ok v0 v1, cEq_dct0 gl1 Sto.get_new_self, decide_eq_false ne]
    have e2 : (mCall fMin1 (mCons (mVar 2) mNil)) (sl k1 k2 kl kf (lowK u) (highK u) (some (.int i)) x7) S1 = .ok (.int (lowK l)) S1 := min1_ok gl1 ne
    have e3 := l_bad (t := t) (kf := kf) (x6 := some (.int i)) (b := true) sz.nu sz.ne sz.nl ne nt (x1 _ _ g1) (x1 _ _ g2) gl1 ⟨fun _ => bad, fun _ => rfl⟩
    refine ⟨S1, x1, fun _ => ?_, fun f' z => by cases z⟩
    rw [ei]
    refine for_rt (rng_at (by omega)) (sd1 := sl k1 k2 kl kf (lowK u) (highK u) (some (.int i)) x7) rfl ?_
    unfold lBody
    rw [sSeq_nx (sd1 := sl k1 k2 kl kf (lowK u) (highK u) (some (.int i)) x7) (S1 := S1) (by rw [sIf_f e1]; rfl), sSeq_nx (sSet_ok e2)]
    rw [show (sl k1 k2 kl kf (lowK u) (highK u) (some (.int i)) x7).set 7 (some (.int (lowK l))) = sl k1 k2 kl kf (lowK u) (highK u) (some (.int i)) (some (.int (lowK l))) from rfl]
    rw [sSeq_rt (x := .non) (S1 := S1) (by rw [sIf_t e3]; rfl)]
  | @step l f res n ne bad k ih =>
    intro i a kl S x6 x7 hi sz hn hl x gf gl hne nt0
    have nt : t ≠ [] := fun z => ne (nt0 z)
    have ei : 201 - i = (200 - i) + 1 := by omega
    let S1 := S.new (.dct 0 [])
    have gl1 : S1.get kl = some (.dct 0 (enc l)) := Ext.new _ _ gl
    have gf1 : S1.get kf = some (.dct 0 (enc f)) := Ext.new _ _ gf
    have x1 : Ext S0 S1 := x.trans Ext.new
    have e1 : mTst cEqG (mVar 2) mDct0 (sl k1 k2 kl kf (lowK u) (highK u) (some (.int i)) x7) S = .ok false S1 := by
      refine mTst_ok ?_
      have v0 : mVar 2 (sl k1 k2 kl kf (lowK u) (highK u) (some (.int i)) x7) S = .ok (.loc kl) S := rfl
      have v1 : mDct0 (sl k1 k2 kl kf (lowK u) (highK u) (some (.int i)) x7) S = .ok (.loc S.n) S1 := rfl
      rw [mBin_ok v0 v1, cEq_dct0 gl1 Sto.get_new_self, decide_eq_false ne]
    have e2 : (mCall fMin1 (mCons (mVar 2) mNil)) (sl k1 k2 kl kf (lowK u) (highK u) (some (.int i)) x7) S1 = .ok (.int (lowK l)) S1 := min1_ok gl1 ne
    have e3 := l_bad (t := t) (kf := kf) (x6 := some (.int i)) (b := false) sz.nu sz.ne sz.nl ne nt (x1 _ _ g1) (x1 _ _ g2) gl1 ⟨(fun z => by cases z), fun z => absurd z bad⟩
    -- found
    have v1 : (mBin (ixO [(15, m_Row_getitem)] ixG) (mVar 2) (mVar 7)) (sl k1 k2 kl kf (lowK u) (highK u) (some (.int i)) (some (.int (lowK l)))) S1 = .ok (.int (W.val l (lowK l))) S1 := gi_none (e := lowK l) gl1 (lowK_mem ne)
    have v2 : (mBin (ixO [(15, m_Row_getitem)] ixG) (mVar 1) (mVar 4)) (sl k1 k2 kl kf (lowK u) (highK u) (some (.int i)) (some (.int (lowK l)))) S1 = .ok (.int (W.val u (lowK u))) S1 := gi_none (e := lowK u) (x1 _ _ g2) (lowK_mem sz.ne)
    have v3 : (mBin bDivG (mBin (ixO [(15, m_Row_getitem)] ixG) (mVar 2) (mVar 7)) (mBin (ixO [(15, m_Row_getitem)] ixG) (mVar 1) (mVar 4))) (sl k1 k2 kl kf (lowK u) (highK u) (some (.int i)) (some (.int (lowK l)))) S1 = .ok (.int (quo u l)) S1 := by
      rw [mBin_ok v1 v2]
      simp only [bDivG]
      rw [if_pos ⟨val_ne sz.nu (lowK_mem sz.ne), sz.log _⟩]
      rfl
    let S2 := S1.set kf (.dct 0 (enc (W.put f (lowK l - lowK u) (quo u l))))
    have e4 : (sStI stI (mVar 3) (mBin (binO [(15, m_Row_sub)] bSub) (mVar 7) (mVar 4)) (mBin bDivG (mBin (ixO [(15, m_Row_getitem)] ixG) (mVar 2) (mVar 7)) (mBin (ixO [(15, m_Row_getitem)] ixG) (mVar 1) (mVar 4)))) (sl k1 k2 kl kf (lowK u) (highK u) (some (.int i)) (some (.int (lowK l)))) S1 = .nx (sl k1 k2 kl kf (lowK u) (highK u) (some (.int i)) (some (.int (lowK l)))) S2 :=
      sStI_ok (f := stI) (d := .int (quo u l)) (S1 := S1) v3 rfl rfl (stI_enc gf1 (by omega))
    have gf2 : S2.get kf = some (.dct 0 (enc (W.put f (lowK l - lowK u) (quo u l)))) := Sto.get_set_self gf1
    have x2 : Ext S0 S2 := set_ext x1 hkf
    have gl2 : S2.get kl = some (.dct 0 (enc l)) := by
      show (S1.set _ _).get kl = _
      rw [Sto.get_set_ne hne]
      exact gl1
    -- {at - low: found[..]}
    let S3 := (S2.new (.dct 0 [])).set S2.n (.dct 0 (enc [(lowK l - lowK u, quo u l)]))
    have e5 : (mDisp [((mBin (binO [(15, m_Row_sub)] bSub) (mVar 7) (mVar 4)), (mBin (ixO [(15, m_Row_getitem)] ixG) (mVar 3) (mBin (binO [(15, m_Row_sub)] bSub) (mVar 7) (mVar 4))))]) (sl k1 k2 kl kf (lowK u) (highK u) (some (.int i)) (some (.int (lowK l)))) S2 = .ok (.loc S2.n) S3 := by
      refine disp2 rfl ?_
      have := gi_none (S := S2.new (.dct 0 [])) (e := lowK l - lowK u) (Ext.new _ _ gf2) (by
        unfold W.put
        split
        · rename_i h
          rw [W.keys_rep]
          obtain ⟨p, hp, z⟩ := List.any_eq_true.mp h
          exact List.mem_map.mpr ⟨p, hp, by simpa using z⟩
        · simp)
      rw [val_put] at this
      exact this
    have x3 : Ext S2 S3 := Ext.newset
    have g3 : S3.get S2.n = some (.dct 0 (enc [(lowK l - lowK u, quo u l)])) := Sto.get_set_self Sto.get_new_self
    have hq := quo_le sz.ne sz.nu bad
    obtain ⟨r4, S4, e6, x4, g4⟩ := Ltimes_okM (S := S3) (k := S2.n) (k2 := k2) (t := [(lowK l - lowK u, quo u l)]) (u := u) g3 (x3 _ _ (x2 _ _ g2)) (by simp [W.Nd]) sz.nu.nd (fun p hp q hq' => by
      have : p = (lowK l - lowK u, quo u l) := by simpa using hp
      rw [this]
      exact sz.mul hq (W.mem_le hq')) (by have := sz.len; simp; omega)
    have hml : (mulR [(lowK l - lowK u, quo u l)] u).length ≤ u.length := by
      have h1 : (mulR [(lowK l - lowK u, quo u l)] u).length ≤ _ := nf_len _
      have h2 := (W.prod_ok u [(lowK l - lowK u, quo u l)] nd_nil).2.2.2.1
      simp only [List.length_nil, List.length_cons, Nat.zero_add, Nat.one_mul] at h2
      omega
    obtain ⟨r5, S5, e7, x5, g5, n5⟩ := Ladded_okN (S := S4) (k := kl) (k2 := r4) (t := l) (u := mulR [(lowK l - lowK u, quo u l)] u) (m := -1) ((x3.trans x4) _ _ gl2) g4 (by decide) sz.nl.nd mulR_nf.nd (by have := sz.len; omega)
    have x25 : Ext S2 S5 := (x3.trans x4).trans x5
    have e8 : (mCall m_Ladded (mCons (mVar 2) (mCons (mCall m_Ltimes (mCons (mDisp [((mBin (binO [(15, m_Row_sub)] bSub) (mVar 7) (mVar 4)), (mBin (ixO [(15, m_Row_getitem)] ixG) (mVar 3) (mBin (binO [(15, m_Row_sub)] bSub) (mVar 7) (mVar 4))))]) (mCons (mVar 1) mNil))) (mCons (mUn uNeg (mC (.int 1))) mNil)))) (sl k1 k2 kl kf (lowK u) (highK u) (some (.int i)) (some (.int (lowK l)))) S2 = .ok (.loc r5) S5 := by
      have a1 : mVar 2 (sl k1 k2 kl kf (lowK u) (highK u) (some (.int i)) (some (.int (lowK l)))) S2 = .ok (.loc kl) S2 := rfl
      have a2 : mVar 1 (sl k1 k2 kl kf (lowK u) (highK u) (some (.int i)) (some (.int (lowK l)))) S3 = .ok (.loc k2) S3 := rfl
      have a3 : (mUn uNeg (mC (.int 1))) (sl k1 k2 kl kf (lowK u) (highK u) (some (.int i)) (some (.int (lowK l)))) S4 = .ok (.int (-1)) S4 := rfl
      rw [mCall_ok (mCons_ok a1 (mCons_ok ((mCall_ok (mCons_ok e5 (mCons_ok a2 mNil_ok))).trans e6) (mCons_ok a3 mNil_ok)))]
      exact e7
    have hne5 : r5 ≠ kf := fun z => by
      have := Sto.get_lt ((x3.trans x4) _ _ gf2)
      omega
    have hlen : (W.put f (lowK l - lowK u) (quo u l)).length + n < 1000000 := by
      have := W.len_put f (lowK l - lowK u) (quo u l)
      omega
    obtain ⟨S', xx, i1, i2⟩ := ih (i + 1) (a + c) r5 S5 (some (.int i)) (some (.int (lowK l))) (by omega) (sz.next ne bad) (W.nd_put _ _ hn) hlen (x2.trans x25) (x25 _ _ gf2) g5 hne5 (fun z => absurd z nt)
    have e201 : 201 - (i + 1) = 200 - i := by omega
    have run : forLoop (.rng 0 1 200) (.nm 6) lBody (201 - i) i (sl k1 k2 kl kf (lowK u) (highK u) x6 x7) S = forLoop (.rng 0 1 200) (.nm 6) lBody (201 - (i + 1)) (i + 1) (sl k1 k2 r5 kf (lowK u) (highK u) (some (.int i)) (some (.int (lowK l)))) S5 := by
      rw [ei, e201]
      refine for_nx (rng_at (by omega)) (sd1 := sl k1 k2 kl kf (lowK u) (highK u) (some (.int i)) x7) rfl ?_
      unfold lBody
      rw [sSeq_nx (sd1 := sl k1 k2 kl kf (lowK u) (highK u) (some (.int i)) x7) (S1 := S1) (by rw [sIf_f e1]; rfl), sSeq_nx (sSet_ok e2)]
      rw [show (sl k1 k2 kl kf (lowK u) (highK u) (some (.int i)) x7).set 7 (some (.int (lowK l))) = sl k1 k2 kl kf (lowK u) (highK u) (some (.int i)) (some (.int (lowK l))) from rfl]
      rw [sSeq_nx (sd1 := sl k1 k2 kl kf (lowK u) (highK u) (some (.int i)) (some (.int (lowK l)))) (S1 := S1) (by rw [sIf_f e3]; rfl), sSeq_nx e4, sSet_ok e8]
      rfl
    rw [run]
    exact ⟨S', xx, i1, i2⟩
/-- what is found -/
theorem div_found {t u l f : W.T} {res : Option W.T} {n : Nat} (h : DivR t u l f res n) : ∀ {a c M K : Nat}, Sz t u l n a c M → W.EB u K → W.Nd f → W.EB f (M + K) → ∀ f', res = some f' → W.Nd f' ∧ W.EB f' (M + K) ∧ f'.length ≤ f.length + n := by
  induction h with
  | done =>
    intro a c M K sz hu hn he f' z
    cases z
    exact ⟨hn, he, by omega⟩
  | fail => intro a c M K sz hu hn he f' z; cases z
  | @step l f res n ne bad k ih =>
    intro a c M K sz hu hn he f' z
    obtain ⟨p, hp, e1⟩ := List.mem_map.mp (lowK_mem ne)
    obtain ⟨q, hq, e2⟩ := List.mem_map.mp (lowK_mem sz.ne)
    have h1 := sz.eb p hp
    have h2 := hu q hq
    obtain ⟨a1, a2, a3⟩ := ih (sz.next ne bad) hu (W.nd_put _ _ hn) (W.eb_put he (by omega)) f' z
    have := W.len_put f (lowK l - lowK u) (quo u l)
    exact ⟨a1, a2, by omega⟩
/-- rows that are divided here -/
structure Dv (t : W.T) : Prop where
  nf : W.NF t
  eb : W.EB t 40
  ln : t.length ≤ 1000
  nr : W.nrm t < 10 ^ 59
theorem high_le {t : W.T} (h : Dv t) (ne : t ≠ []) : highK t ≤ 40 ∧ -40 ≤ lowK t := by
  obtain ⟨p, hp, e1⟩ := List.mem_map.mp (highK_mem ne)
  obtain ⟨q, hq, e2⟩ := List.mem_map.mp (lowK_mem ne)
  have := h.eb p hp
  have := h.eb q hq
  omega
theorem highK_nil : highK [] = 0 := rfl
theorem dv_div {t u : W.T} (ht : Dv t) (hu : Dv u) (nu : u ≠ []) : ∃ res n, DivR t u t [] res n ∧ n ≤ 81 ∧ Sz t u t n 200 200 40 := by
  have hi : highK t ≤ 40 := by
    by_cases z : t = []
    · rw [z]
      decide
    · exact (high_le ht z).1
  obtain ⟨res, n, h, hn⟩ := div_ex (t := t) hu.nf nu 81 t [] ht.nf fun ne => by
    have h1 := high_le ht ne
    have h2 := lowK_le nu (highK_mem nu)
    omega
  have p200 : (10 : Nat) ^ 59 + 1 ≤ 2 ^ 200 := by decide
  refine ⟨res, n, h, hn, ht.nf, hu.nf, nu, ?_, by have := ht.nr; omega, by have := hu.nr; omega, by omega, ht.eb, hi, by decide⟩
  have h1 := ht.ln
  have h2 := hu.ln
  have h3 : (n + 1) * u.length ≤ 82 * 1000 := Nat.mul_le_mul (by omega) h2
  omega
theorem Lquotient_ok {t u : W.T} {S : Sto} {k1 k2 n : Nat} {res : Option W.T} (g1 : S.get k1 = some (.dct 0 (enc t))) (g2 : S.get k2 = some (.dct 0 (enc u))) (ht : Dv t) (h : DivR t u t [] res n) (hn : n ≤ 81) (sz : Sz t u t n 200 200 40) :
    ∃ S', Ext S S' ∧ (res = none → m_Lquotient [.loc k1, .loc k2] S = .ok .non S') ∧ ∀ f, res = some f → ∃ r, m_Lquotient [.loc k1, .loc k2] S = .ok (.loc r) S' ∧ S'.get r = some (.dct 0 (enc (nf f))) := by
  let S1 := S.new (.lst (tupP t))
  let S2 := S1.new (.dct 0 (enc t))
  let S3 := S2.new (.dct 0 [])
  have n3 : S2.n = S.n + 1 + 1 := rfl
  have n1 : S1.n = S.n + 1 := rfl
  have gl : S3.get S1.n = some (.dct 0 (enc t)) := Ext.new _ _ Sto.get_new_self
  have gf : S3.get S2.n = some (.dct 0 (enc [])) := Sto.get_new_self
  have x3 : Ext S S3 := (Ext.new.trans Ext.new).trans Ext.new
  have e1 : sPar 2 3 (mCons (mCall fDict (mCons (mUn fItems (mVar 0)) mNil)) (mCons mDct0 mNil)) (stD 8 [.loc k1, .loc k2]) S = .nx [some (.loc k1), some (.loc k2), some (.loc S1.n), some (.loc S2.n), none, none, none, none] S3 := by
    have a0 : (mUn fItems (mVar 0)) (stD 8 [.loc k1, .loc k2]) S = .ok (.loc S.n) S1 := fItems_d g1
    have a1 : (mCall fDict (mCons (mUn fItems (mVar 0)) mNil)) (stD 8 [.loc k1, .loc k2]) S = .ok (.loc S1.n) S2 := by
      rw [mCall1 a0]
      exact fDict_l Sto.get_new_self ht.nf.nd
    have a2 : mDct0 (stD 8 [.loc k1, .loc k2]) S2 = .ok (.loc S2.n) S3 := rfl
    unfold sPar
    rw [mCons_ok a1 (mCons_ok a2 mNil_ok)]
    rfl
  have e2 : sPar 4 5 (mCons (mCall fMin1 (mCons (mVar 1) mNil)) (mCons (mCall fMax1 (mCons (mVar 1) mNil)) mNil)) [some (.loc k1), some (.loc k2), some (.loc S1.n), some (.loc S2.n), none, none, none, none] S3 = .nx (sl k1 k2 S1.n S2.n (lowK u) (highK u) none none) S3 := by
    have a1 : (mCall fMin1 (mCons (mVar 1) mNil)) [some (.loc k1), some (.loc k2), some (.loc S1.n), some (.loc S2.n), none, none, none, none] S3 = .ok (.int (lowK u)) S3 := min1_ok (x3 _ _ g2) sz.ne
    have a2 : (mCall fMax1 (mCons (mVar 1) mNil)) [some (.loc k1), some (.loc k2), some (.loc S1.n), some (.loc S2.n), none, none, none, none] S3 = .ok (.int (highK u)) S3 := max1_ok (x3 _ _ g2) sz.ne
    unfold sPar
    rw [mCons_ok a1 (mCons_ok a2 mNil_ok)]
    rfl
  obtain ⟨S', xx, i1, i2⟩ := l_loop (S0 := S) (kf := S2.n) (c := 200) (M := 40) g1 g2 (by omega) h 0 200 S1.n S3 none none (by omega) sz nd_nil (by simp; omega) x3 gf gl (by omega) (fun z => z)
  have go : ∀ r : SRes, forLoop (.rng 0 1 200) (.nm 6) lBody 201 0 (sl k1 k2 S1.n S2.n (lowK u) (highK u) none none) S3 = r → m_Lquotient [.loc k1, .loc k2] S = (r.andThen (sRet (mC .non))).res := fun r e => by
    show (b_Lquotient (stD 8 [.loc k1, .loc k2]) S).res = _
    unfold b_Lquotient
    rw [sSeq_nx e1, sSeq_nx e2]
    have ef : sFor (mIts itRng1 (mCons (mC (.int 200)) mNil)) (.nm 6) lBody (sl k1 k2 S1.n S2.n (lowK u) (highK u) none none) S3 = r := by
      have er : (mIts itRng1 (mCons (mC (.int 200)) mNil)) (sl k1 k2 S1.n S2.n (lowK u) (highK u) none none) S3 = .ok (.rng 0 1 200) S3 := rfl
      unfold sFor
      rw [er]
      exact e
    show ((sFor (mIts itRng1 (mCons (mC (.int 200)) mNil)) (.nm 6) lBody (sl k1 k2 S1.n S2.n (lowK u) (highK u) none none) S3).andThen (sRet (mC .non))).res = _
    rw [ef]
  refine ⟨S', xx, fun z => ?_, fun f z => ?_⟩
  · rw [go _ (i1 z)]
    rfl
  · obtain ⟨r, e, g, _⟩ := i2 f z
    exact ⟨r, by rw [go _ e]; rfl, g⟩
end K03

namespace K03
open PySem PySem.Spec PyProof.Rows L2 Y
theorem sExpr_ok {m : ME} {sd : SD} {S S1 : Sto} {d : D} (e : m sd S = .ok d S1) : sExpr m sd S = .nx sd S1 := by unfold sExpr; rw [e]; rfl
theorem sSeq_ex {a b : MS} {sd sd1 : SD} {S S1 : Sto} {x : Ex} (e : a sd S = .ex x sd1 S1) : sSeq a b sd S = .ex x sd1 S1 := by unfold sSeq; rw [e]; rfl
theorem require_ok {t : W.T} {S : Sto} {d : D} (h : isRow t S d) : m_require_row [d] S = .ok .non S := by
  have e0 : tNotM (mTru (mCall (fIsE kit kix) (mCons (mVar 0) (mCons (mC (.cls 15)) mNil)))) (stD 1 [d]) S = .ok false S := by
    have : (mCall (fIsE kit kix) (mCons (mVar 0) (mCons (mC (.cls 15)) mNil))) (stD 1 [d]) S = .ok (.bl true) S := row_is h
    exact tNot_ok (k := true) (mTru_b this)
  show (b_require_row (stD 1 [d]) S).res = _
  unfold b_require_row
  rw [sIf_f e0]
  rfl
/-- what the quotient is: none, or what is found -/
inductive Quo (t u : W.T) : Option W.T → Prop
  | zero (h : u = []) : Quo t u none
  | div {res : Option W.T} {n : Nat} (h : u ≠ []) (d : DivR t u t [] res n) (hn : n ≤ 81) (sz : Sz t u t n 200 200 40) : Quo t u res
theorem quo_ex {t u : W.T} (ht : Dv t) (hu : Dv u) : ∃ res, Quo t u res := by
  by_cases z : u = []
  · exact ⟨none, .zero z⟩
  · obtain ⟨res, n, a, b, c⟩ := dv_div ht hu z
    exact ⟨res, .div z a b c⟩
theorem quotient_ok {t u : W.T} {S : Sto} {d e : D} {res : Option W.T} (ht : Dv t) (hu : Dv u) (q : Quo t u res) (h : isRow t S d) (h' : isRow u S e) :
    ∃ S', Ext S S' ∧ (res = none → m_Row_quotient [d, e] S = .exc ⟨12, []⟩ S') ∧ ∀ f, res = some f → ∃ v, m_Row_quotient [d, e] S = .ok v S' ∧ isRow (nf f) S' v := by
  have e1 : sExpr (mCall m_require_row (mCons (mVar 1) mNil)) (stD 3 [d, e]) S = .nx (stD 3 [d, e]) S := sExpr_ok (show mCall m_require_row (mCons (mVar 1) mNil) (stD 3 [d, e]) S = .ok .non S from require_ok h')
  obtain ⟨k2, a2, g2⟩ := row_at h'
  let S1 := S.new (.dct 0 [])
  have e2 : mTst cEqG (mUn (atD [(15, .slot 0)]) (mVar 1)) mDct0 (stD 3 [d, e]) S = .ok (decide (u = [])) S1 := by
    refine mTst_ok ?_
    have v0 : (mUn (atD [(15, .slot 0)]) (mVar 1)) (stD 3 [d, e]) S = .ok (.loc k2) S := a2
    have v1 : mDct0 (stD 3 [d, e]) S = .ok (.loc S.n) S1 := rfl
    rw [mBin_ok v0 v1]
    exact cEq_dct0 (Ext.new _ _ g2) Sto.get_new_self
  have go : ∀ r, sSeq (sIf (mTst cEqG (mUn (atD [(15, .slot 0)]) (mVar 1)) mDct0) (sRaiseP 12) sSkip)
    (sSeq (sSet 2 (mIf (mTst cNeG (mUn (atD [(15, .slot 0)]) (mVar 0)) mDct0) (mCall m_quotient_terms (mCons (mUn (atD [(15, .slot 0)]) (mVar 0)) (mCons (mUn (atD [(15, .slot 0)]) (mVar 1)) mNil))) mDct0))
    (sSeq (sIf (mTst cIs (mVar 2) (mC .non)) (sRaiseP 12) sSkip)
    (sRet (mCallK n_Row_init_2_is_known (mCons (mVar 2) mNil) (mCons (mC (.bl true)) mNil))))) (stD 3 [d, e]) S = r → m_Row_quotient [d, e] S = r.res := fun r er => by
    show (b_Row_quotient (stD 3 [d, e]) S).res = _
    unfold b_Row_quotient
    rw [sSeq_nx e1, er]
  cases q with
  | zero z =>
    rw [decide_eq_true z] at e2
    refine ⟨S1, Ext.new, fun _ => ?_, fun f z => by cases z⟩
    rw [go _ (sSeq_ex (sd1 := stD 3 [d, e]) (x := ⟨12, []⟩) (S1 := S1) (by rw [sIf_t e2]; rfl))]
    rfl
  | @div _ n nu dv hn sz =>
    rw [decide_eq_false nu] at e2
    obtain ⟨k1, a1, g1⟩ := row_at (mono_row _ _ _ (Ext.new (c := .dct 0 [])) h)
    let S2 := S1.new (.dct 0 [])
    have e3 : mTst cNeG (mUn (atD [(15, .slot 0)]) (mVar 0)) mDct0 (stD 3 [d, e]) S1 = .ok (!decide (t = [])) S2 := by
      refine mTst_ok ?_
      have v0 : (mUn (atD [(15, .slot 0)]) (mVar 0)) (stD 3 [d, e]) S1 = .ok (.loc k1) S1 := a1
      have v1 : mDct0 (stD 3 [d, e]) S1 = .ok (.loc S1.n) S2 := rfl
      rw [mBin_ok v0 v1]
      exact cNe_dct0 (Ext.new _ _ g1) Sto.get_new_self
    have x2 : Ext S S2 := Ext.new.trans Ext.new
    -- what is told of the terms
    have tell : ∃ S3, Ext S2 S3 ∧ (res = none → (mIf (mTst cNeG (mUn (atD [(15, .slot 0)]) (mVar 0)) mDct0) (mCall m_quotient_terms (mCons (mUn (atD [(15, .slot 0)]) (mVar 0)) (mCons (mUn (atD [(15, .slot 0)]) (mVar 1)) mNil))) mDct0) (stD 3 [d, e]) S1 = .ok .non S3) ∧
        ∀ f, res = some f → ∃ r, (mIf (mTst cNeG (mUn (atD [(15, .slot 0)]) (mVar 0)) mDct0) (mCall m_quotient_terms (mCons (mUn (atD [(15, .slot 0)]) (mVar 0)) (mCons (mUn (atD [(15, .slot 0)]) (mVar 1)) mNil))) mDct0) (stD 3 [d, e]) S1 = .ok (.loc r) S3 ∧ S3.get r = some (.dct 0 (enc f)) := by
      by_cases z : t = []
      · subst z
        cases dv with
        | done =>
          rw [decide_eq_true rfl] at e3
          refine ⟨S2.new (.dct 0 []), Ext.new, (fun z => by cases z), fun f z => ?_⟩
          cases z
          refine ⟨S2.n, ?_, Sto.get_new_self⟩
          unfold mIf
          rw [e3]
          rfl
        | fail ne _ => exact absurd rfl ne
        | step ne _ _ => exact absurd rfl ne
      · rw [decide_eq_false z] at e3
        obtain ⟨k1', a1', g1'⟩ := row_at (mono_row _ _ _ x2 h)
        obtain ⟨k2', a2', g2'⟩ := row_at (mono_row _ _ _ x2 h')
        obtain ⟨S3, x3, i1, i2⟩ := quotient_terms_ok g1' g2' z dv (by omega) sz
        have em : (mIf (mTst cNeG (mUn (atD [(15, .slot 0)]) (mVar 0)) mDct0) (mCall m_quotient_terms (mCons (mUn (atD [(15, .slot 0)]) (mVar 0)) (mCons (mUn (atD [(15, .slot 0)]) (mVar 1)) mNil))) mDct0) (stD 3 [d, e]) S1 = m_quotient_terms [.loc k1', .loc k2'] S2 := by
          have c1 : (mUn (atD [(15, .slot 0)]) (mVar 0)) (stD 3 [d, e]) S2 = .ok (.loc k1') S2 := a1'
          have c2 : (mUn (atD [(15, .slot 0)]) (mVar 1)) (stD 3 [d, e]) S2 = .ok (.loc k2') S2 := a2'
          unfold mIf
          rw [e3]
          show mCall m_quotient_terms (mCons (mUn (atD [(15, .slot 0)]) (mVar 0)) (mCons (mUn (atD [(15, .slot 0)]) (mVar 1)) mNil)) (stD 3 [d, e]) S2 = _
          rw [mCall_ok (mCons_ok c1 (mCons_ok c2 mNil_ok))]
        rw [em]
        exact ⟨S3, x3, i1, i2⟩
    obtain ⟨S3, x3, i1, i2⟩ := tell
    cases res with
    | none =>
      refine ⟨S3, x2.trans x3, fun _ => ?_, fun f z => by cases z⟩
      rw [go (.ex ⟨12, []⟩ [some d, some e, some .non] S3) ?_]
      · rfl
      · rw [sSeq_nx (sd1 := stD 3 [d, e]) (S1 := S1) (by rw [sIf_f e2]; rfl), sSeq_nx (sSet_ok (i1 rfl))]
        rfl
    | some f =>
      obtain ⟨r, er, gr⟩ := i2 f rfl
      obtain ⟨f1, f2, f3⟩ := div_found dv sz hu.eb nd_nil (by intro p hp; cases hp) f rfl
      obtain ⟨v, S4, e4, x4, g4⟩ := known_ok gr f1 (eb_mono f2 (by decide)) (by simp only [List.length_nil] at f3; omega)
      refine ⟨S4, (x2.trans x3).trans x4, (fun z => by cases z), fun f' z => ?_⟩
      cases z
      refine ⟨v, ?_, g4⟩
      rw [go (.rt v S4) ?_]
      · rfl
      · rw [sSeq_nx (sd1 := stD 3 [d, e]) (S1 := S1) (by rw [sIf_f e2]; rfl), sSeq_nx (sSet_ok er)]
        have e5 : sIf (mTst cIs (mVar 2) (mC .non)) (sRaiseP 12) sSkip [some d, some e, some (.loc r)] S3 = .nx [some d, some e, some (.loc r)] S3 := rfl
        rw [show (stD 3 [d, e]).set 2 (some (.loc r)) = [some d, some e, some (.loc r)] from rfl, sSeq_nx e5]
        refine sRet_ok ?_
        show mCallK n_Row_init_2_is_known (mCons (mVar 2) mNil) (mCons (mC (.bl true)) mNil) [some d, some e, some (.loc r)] S3 = _
        exact e4
/-- told by the package, errors caught -/
theorem told_ok {t u : W.T} {S : Sto} {d e : D} {res : Option W.T} (ht : Dv t) (hu : Dv u) (q : Quo t u res) (h : isDic t S d) (h' : isDic u S e) :
    ∃ S', Ext S S' ∧ (res = none → m_Ltold_quotient [d, e] S = .ok .non S') ∧ ∀ f, res = some f → ∃ v, m_Ltold_quotient [d, e] S = .ok v S' ∧ isRow (nf f) S' v := by
  obtain ⟨k1, rfl, h⟩ := h
  obtain ⟨k2, rfl, h'⟩ := h'
  have small : ∀ {w : W.T}, Dv w → ∀ p ∈ w, p.2.natAbs < 10 ^ 60 ∧ p.2 ≠ 0 := fun {w} hw p hp => ⟨Nat.lt_of_le_of_lt (W.mem_le hp) (Nat.lt_trans hw.nr (by decide)), hw.nf.nz p hp⟩
  obtain ⟨r1, S1, e1, x1, g1⟩ := new_ok h ht.nf.nd (eb_mono ht.eb (by decide)) (by have := ht.ln; omega) (small ht)
  obtain ⟨r2, S2, e2, x2, g2⟩ := new_ok (x1 _ _ h') hu.nf.nd (eb_mono hu.eb (by decide)) (by have := hu.ln; omega) (small hu)
  rw [nf_id ht.nf] at g1
  rw [nf_id hu.nf] at g2
  obtain ⟨S3, x3, i1, i2⟩ := quotient_ok ht hu q (mono_row _ _ _ x2 g1) g2
  have em : (mMethO [(15, m_Row_quotient)] (mCall (fun ds S => n_Row_init_2 ds [] S) (mCons (mVar 0) mNil)) (mCons (mCall (fun ds S => n_Row_init_2 ds [] S) (mCons (mVar 1) mNil)) mNil)) (stD 2 [.loc k1, .loc k2]) S = m_Row_quotient [r1, r2] S2 := by
    have c1 : (mCall (fun ds S => n_Row_init_2 ds [] S) (mCons (mVar 0) mNil)) (stD 2 [.loc k1, .loc k2]) S = .ok r1 S1 := by
      have v0 : mVar 0 (stD 2 [.loc k1, .loc k2]) S = .ok (.loc k1) S := rfl
      rw [mCall1 v0]
      exact e1
    have c2 : (mCall (fun ds S => n_Row_init_2 ds [] S) (mCons (mVar 1) mNil)) (stD 2 [.loc k1, .loc k2]) S1 = .ok r2 S2 := by
      have v1 : mVar 1 (stD 2 [.loc k1, .loc k2]) S1 = .ok (.loc k2) S1 := rfl
      rw [mCall1 v1]
      exact e2
    unfold mMethO
    rw [c1]
    have c3 : List.lookup 15 [((15 : Nat), m_Row_quotient)] = some m_Row_quotient := rfl
    simp only [bind_ok, row_cls g1, c3]
    rw [mCons_ok c2 mNil_ok]
    rfl
  refine ⟨S3, (x1.trans x2).trans x3, fun z => ?_, fun f z => ?_⟩
  · show (catch1 kix 12 _ (sRet _ (stD 2 [.loc k1, .loc k2]) S)).res = _
    unfold sRet
    rw [em, i1 z]
    rfl
  · obtain ⟨v, ev, gv⟩ := i2 f z
    refine ⟨v, ?_, gv⟩
    show (catch1 kix 12 _ (sRet _ (stD 2 [.loc k1, .loc k2]) S)).res = _
    unfold sRet
    rw [em, ev]
    rfl
theorem cIs_non {d : D} {S : Sto} : cIs .non .non S = .ok (.bl true) S := rfl
theorem quotient_right_ok {t u : W.T} (ht : Dv t) (hu : Dv u) : F2 (isDic t) (isDic u) (isV (.bl true)) m_Lquotient_right := fun S d e h h' => by
  obtain ⟨res, q⟩ := quo_ex ht hu
  obtain ⟨k1, rfl, g1⟩ := h
  obtain ⟨k2, rfl, g2⟩ := h'
  let S1 := S.new (.dct 0 [])
  have c1 : mTst cNeG (mVar 1) mDct0 (stD 4 [.loc k1, .loc k2]) S = .ok (!decide (u = [])) S1 := by
    refine mTst_ok ?_
    have v0 : mVar 1 (stD 4 [.loc k1, .loc k2]) S = .ok (.loc k2) S := rfl
    have v1 : mDct0 (stD 4 [.loc k1, .loc k2]) S = .ok (.loc S.n) S1 := rfl
    rw [mBin_ok v0 v1]
    exact cNe_dct0 (Ext.new _ _ g2) Sto.get_new_self
  -- what is due
  have due : ∃ S2, Ext S S2 ∧ (res = none → (mIf (mTst cNeG (mVar 1) mDct0) (mCall m_Lquotient (mCons (mVar 0) (mCons (mVar 1) mNil))) (mC .non)) (stD 4 [.loc k1, .loc k2]) S = .ok .non S2) ∧
      ∀ f, res = some f → ∃ r, (mIf (mTst cNeG (mVar 1) mDct0) (mCall m_Lquotient (mCons (mVar 0) (mCons (mVar 1) mNil))) (mC .non)) (stD 4 [.loc k1, .loc k2]) S = .ok (.loc r) S2 ∧ S2.get r = some (.dct 0 (enc (nf f))) := by
    have q' := q
    cases q' with
    | zero z =>
      rw [decide_eq_true z] at c1
      refine ⟨S1, Ext.new, fun _ => ?_, fun f z => by cases z⟩
      unfold mIf
      rw [c1]
      rfl
    | @div _ n nu dv hn sz =>
      rw [decide_eq_false nu] at c1
      obtain ⟨S2, x2, i1, i2⟩ := Lquotient_ok (S := S1) (Ext.new _ _ g1) (Ext.new _ _ g2) ht dv hn sz
      have em : (mIf (mTst cNeG (mVar 1) mDct0) (mCall m_Lquotient (mCons (mVar 0) (mCons (mVar 1) mNil))) (mC .non)) (stD 4 [.loc k1, .loc k2]) S = m_Lquotient [.loc k1, .loc k2] S1 := by
        have v0 : mVar 0 (stD 4 [.loc k1, .loc k2]) S1 = .ok (.loc k1) S1 := rfl
        have v1 : mVar 1 (stD 4 [.loc k1, .loc k2]) S1 = .ok (.loc k2) S1 := rfl
        unfold mIf
        rw [c1]
        simp only [bind_ok, Bool.not_false, if_true]
        rw [mCall_ok (mCons_ok v0 (mCons_ok v1 mNil_ok))]
      rw [em]
      exact ⟨S2, Ext.new.trans x2, i1, i2⟩
  obtain ⟨S2, x2, d1, d2⟩ := due
  obtain ⟨S3, x3, t1, t2⟩ := told_ok (S := S2) ht hu q ⟨k1, rfl, x2 _ _ g1⟩ ⟨k2, rfl, x2 _ _ g2⟩
  cases res with
  | none =>
    refine ⟨.bl true, S3, ?_, x2.trans x3, rfl⟩
    show (b_Lquotient_right (stD 4 [.loc k1, .loc k2]) S).res = _
    unfold b_Lquotient_right
    rw [sSeq_nx (sSet_ok (d1 rfl))]
    rw [show (stD 4 [.loc k1, .loc k2]).set 2 (some .non) = [some (.loc k1), some (.loc k2), some .non, none] from rfl]
    have e3 : mCall m_Ltold_quotient (mCons (mVar 0) (mCons (mVar 1) mNil)) [some (.loc k1), some (.loc k2), some .non, none] S2 = .ok .non S3 := by
      have v0 : mVar 0 [some (.loc k1), some (.loc k2), some .non, none] S2 = .ok (.loc k1) S2 := rfl
      have v1 : mVar 1 [some (.loc k1), some (.loc k2), some .non, none] S2 = .ok (.loc k2) S2 := rfl
      rw [mCall_ok (mCons_ok v0 (mCons_ok v1 mNil_ok))]
      exact t1 rfl
    rw [sSeq_nx (sSet_ok e3)]
    have c5 : mTst cIs (mVar 2) (mC .non) [some (.loc k1), some (.loc k2), some .non, some .non] S3 = .ok true S3 := rfl
    refine (congrArg SRes.res (sRet_ok (x := .bl true) (S1 := S3) ?_)).trans rfl
    show mIf (mTst cIs (mVar 2) (mC .non)) (mBin cIs (mVar 3) (mC .non)) (mCall m_Lis_row (mCons (mVar 3) (mCons (mVar 2) mNil))) [some (.loc k1), some (.loc k2), some .non, some .non] S3 = _
    unfold mIf
    rw [c5]
    simp only [bind_ok, if_true]
    rfl
  | some f =>
    obtain ⟨r, er, gr⟩ := d2 f rfl
    obtain ⟨v, ev, gv⟩ := t2 f rfl
    have fnd : W.Nd f ∧ f.length ≤ 1000 := by
      cases q with
      | @div _ n nu dv hn sz =>
        obtain ⟨f1, _, f3⟩ := div_found dv sz hu.eb nd_nil (by intro p hp; cases hp) f rfl
        exact ⟨f1, by simp only [List.length_nil] at f3; omega⟩
    have nn := nf_nf fnd.1
    obtain ⟨b, S4, e4, x4, p4⟩ := is_row_ok (t := nf f) (u := nf f) nn.nd (by have := nf_len f; omega) (nf_id nn) S3 v (.loc r) gv ⟨r, rfl, x3 _ _ gr⟩
    cases p4
    refine ⟨.bl true, S4, ?_, (x2.trans x3).trans x4, rfl⟩
    show (b_Lquotient_right (stD 4 [.loc k1, .loc k2]) S).res = _
    unfold b_Lquotient_right
    rw [sSeq_nx (sSet_ok er)]
    rw [show (stD 4 [.loc k1, .loc k2]).set 2 (some (.loc r)) = [some (.loc k1), some (.loc k2), some (.loc r), none] from rfl]
    have e3 : mCall m_Ltold_quotient (mCons (mVar 0) (mCons (mVar 1) mNil)) [some (.loc k1), some (.loc k2), some (.loc r), none] S2 = .ok v S3 := by
      have v0 : mVar 0 [some (.loc k1), some (.loc k2), some (.loc r), none] S2 = .ok (.loc k1) S2 := rfl
      have v1 : mVar 1 [some (.loc k1), some (.loc k2), some (.loc r), none] S2 = .ok (.loc k2) S2 := rfl
      rw [mCall_ok (mCons_ok v0 (mCons_ok v1 mNil_ok))]
      exact ev
    rw [sSeq_nx (sSet_ok e3)]
    refine (congrArg SRes.res (sRet_ok (x := .bl true) (S1 := S4) ?_)).trans rfl
    have c5 : mTst cIs (mVar 2) (mC .non) [some (.loc k1), some (.loc k2), some (.loc r), some v] S3 = .ok false S3 := rfl
    show mIf (mTst cIs (mVar 2) (mC .non)) (mBin cIs (mVar 3) (mC .non)) (mCall m_Lis_row (mCons (mVar 3) (mCons (mVar 2) mNil))) [some (.loc k1), some (.loc k2), some (.loc r), some v] S3 = _
    have v2 : mVar 2 [some (.loc k1), some (.loc k2), some (.loc r), some v] S3 = .ok (.loc r) S3 := rfl
    have v3 : mVar 3 [some (.loc k1), some (.loc k2), some (.loc r), some v] S3 = .ok v S3 := rfl
    unfold mIf
    rw [c5]
    simp only [bind_ok, Bool.false_eq_true, if_false]
    rw [mCall_ok (mCons_ok v3 (mCons_ok v2 mNil_ok))]
    exact e4
end K03

namespace K03
open PySem PySem.Spec PyProof.Rows L2 Y
/-- Row({k: factor for .. in self.own_terms.items()}, is_known=True) -/
theorem led_ok {t : W.T} {φ : Int → Int} {S : Sto} {n : Nat} {w : List (Option D)} {tg : Tg} {ek ev : ME} {vs : List Nat} (inj : ∀ x y, φ x = φ y → x = y) (hn : W.Nd t) (hl : t.length < 16777216) (hb : W.EB (mapK φ t) 10000) (h : isRow t S (.loc n))
    (he : ∀ a ∈ t, ∃ sd1, asg tg (.tup [.int a.1, .int a.2]) (wipeD (some (.loc n) :: w) vs) = some sd1 ∧ ∀ S, ek sd1 S = .ok (.int (φ a.1)) S ∧ ev sd1 S = .ok (.int a.2) S) :
    ∃ v S', mCallK n_Row_init_2_is_known (mCons (mLock (mUn (atD [(15, .slot 0)]) (mVar 0)) (mDc (mItM itDi (mUn (atD [(15, .slot 0)]) (mVar 0))) tg tYesM ek ev vs)) mNil) (mCons (mC (.bl true)) mNil) (some (.loc n) :: w) S = .ok v S' ∧ Ext S S' ∧ isRow (ledR φ t) S' v := by
  obtain ⟨n', k, e, h1, h2⟩ := h
  cases e
  have di := dit_i (u := t) (k := k) (sd := some (.loc n) :: w) (m := mC (.loc k)) (fun _ _ _ => rfl)
  obtain ⟨r, S1, e1, _, x1, g1, _⟩ := lock_dc (S0 := S) (u := t) (k := k) (md := mUn (atD [(15, .slot 0)]) (mVar 0)) (mi := mItM itDi (mUn (atD [(15, .slot 0)]) (mVar 0))) (it := .di k) (sd := some (.loc n) :: w) (tg := tg) (q := tYesM) (ek := ek) (ev := ev) (vs := vs) (p := fun _ => true) (fk := fun a => φ a.1) (fv := fun a => a.2) h2 (at_row h1) di.nx di.ln (lock_at h1 h2)
    (fun a ha => let ⟨sd1, q1, q2⟩ := he a ha; ⟨sd1, q1, fun S _ => ⟨rfl, (q2 S).1, (q2 S).2⟩⟩) (by omega)
  have hm := mapK_nd inj hn
  have ep : putAll (fun _ => true) (fun a : Int × Int => φ a.1) (fun a => a.2) t = mapK φ t := putAll_all (by
    unfold W.Nd mapK at hm
    rw [List.map_map] at hm
    exact hm)
  rw [ep] at g1
  obtain ⟨v, S2, e2, x2, g2⟩ := known_ok g1 hm hb (by rw [mapK_len]; exact hl)
  refine ⟨v, S2, ?_, x1.trans x2, g2⟩
  unfold mCallK
  rw [mCons_ok e1 mNil_ok]
  exact e2
theorem turned_ok {t : W.T} {i : Nat} (hb : Bk i t) (hi : i ≤ 6) : F1 (isRow t) (isRow (ledR (fun x => -x) t)) m_Row_turned := fun S d h => by
  obtain ⟨n, k, rfl, h1, h2⟩ := id h
  obtain ⟨v, S', e, x, g⟩ := led_ok (w := [none, none]) (tg := .tp [(.nm 1), (.nm 2)]) (ek := mUn (unO [(15, m_Row_neg)] uNeg) (mVar 1)) (ev := mVar 2) (vs := [1, 2]) (φ := fun x => -x) neg_inj' hb.nd (hb.l hi) (mapK_eb (hb.e4 hi) fun x hx => by rw [Int.natAbs_neg]; exact hx) h (fun a _ => ⟨_, rfl, fun S => ⟨rfl, rfl⟩⟩)
  exact ⟨v, S', (congrArg SRes.res (sRet_ok e)).trans rfl, x, g⟩
theorem spread_ok {t : W.T} {i : Nat} {m : Int} (hm : m ≠ 0) (hm2 : m.natAbs ≤ 10) (hb : Bk i t) (hi : i ≤ 6) : F2 (isRow t) (isV (.int m)) (isRow (ledR (fun x => x * m) t)) m_Row_spread := fun S d d' h h' => by
  cases h'
  obtain ⟨n, k, rfl, h1, h2⟩ := id h
  have e0 : (tOrM (tNotM (mTru (mCall m_is_integer (mCons (mVar 1) mNil)))) (mTst cEqG (mVar 1) (mC (.int 0)))) (stD 4 [.loc n, .int m]) S = .ok false S := by
    have i1 : (mCall m_is_integer (mCons (mVar 1) mNil)) (stD 4 [.loc n, .int m]) S = .ok (.bl true) S := is_integer_ok (Nat.lt_of_le_of_lt hm2 (by decide))
    have i2 : tNotM (mTru (mCall m_is_integer (mCons (mVar 1) mNil))) (stD 4 [.loc n, .int m]) S = .ok false S := tNot_ok (k := true) (mTru_b i1)
    have i3 : mTst cEqG (mVar 1) (mC (.int 0)) (stD 4 [.loc n, .int m]) S = .ok false S := mTst_ok ((cEqG_int (a := m) (b := 0)).trans (by rw [decide_eq_false hm]))
    unfold tOrM
    rw [i2]
    exact i3
  have hmul : ∀ x : Int, x.natAbs ≤ 20 * i → mulOk x m = true := fun x hx => mulOk_1 (by omega)
  obtain ⟨v, S', e, x, g⟩ := led_ok (w := [some (.int m), none, none]) (tg := .tp [(.nm 2), (.nm 3)]) (ek := mBin (binO [(15, m_Row_mul)] bMul) (mVar 2) (mVar 1)) (ev := mVar 3) (vs := [2, 3]) (φ := fun x => x * m) (fun x y q => Int.eq_of_mul_eq_mul_right hm q) hb.nd (hb.l hi) (mapK_eb hb.eb fun x hx => by
      rw [Int.natAbs_mul]
      exact Nat.le_trans (Nat.mul_le_mul hx hm2) (by omega)) h (fun a ha => ⟨_, rfl, fun S => ⟨by
        show bMul (.int a.1) (.int m) S = _
        simp only [bMul, hmul a.1 (hb.eb a ha), if_true], rfl⟩⟩)
  refine ⟨v, S', ?_, x, g⟩
  show (b_Row_spread (stD 4 [.loc n, .int m]) S).res = _
  unfold b_Row_spread
  rw [sSeq_nx (sd1 := stD 4 [.loc n, .int m]) (S1 := S) (by rw [sIf_f e0]; rfl)]
  exact (congrArg SRes.res (sRet_ok e)).trans rfl
theorem shifted_ok {t : W.T} {i : Nat} {m : Int} (hm2 : m.natAbs ≤ 1000) (hb : Bk i t) (hi : i ≤ 6) : F2 (isRow t) (isV (.int m)) (isRow (ledR (fun x => x + m) t)) m_Row_shifted := fun S d d' h h' => by
  cases h'
  obtain ⟨n, k, rfl, h1, h2⟩ := id h
  have e0 : tNotM (mTru (mCall m_is_integer (mCons (mVar 1) mNil))) (stD 4 [.loc n, .int m]) S = .ok false S := by
    have i1 : (mCall m_is_integer (mCons (mVar 1) mNil)) (stD 4 [.loc n, .int m]) S = .ok (.bl true) S := is_integer_ok (Nat.lt_of_le_of_lt hm2 (by decide))
    exact tNot_ok (k := true) (mTru_b i1)
  obtain ⟨v, S', e, x, g⟩ := led_ok (w := [some (.int m), none, none]) (tg := .tp [(.nm 2), (.nm 3)]) (ek := mBin (binO [(15, m_Row_add)] bAdd) (mVar 2) (mVar 1)) (ev := mVar 3) (vs := [2, 3]) (φ := fun x => x + m) (fun x y q => by omega) hb.nd (hb.l hi) (mapK_eb hb.eb fun x hx => by omega) h (fun a ha => ⟨_, rfl, fun S => ⟨rfl, rfl⟩⟩)
  refine ⟨v, S', ?_, x, g⟩
  show (b_Row_shifted (stD 4 [.loc n, .int m]) S).res = _
  unfold b_Row_shifted
  rw [sSeq_nx (sd1 := stD 4 [.loc n, .int m]) (S1 := S) (by rw [sIf_f e0]; rfl)]
  exact (congrArg SRes.res (sRet_ok e)).trans rfl
end K03

namespace K03
open PySem PySem.Spec PyProof.Rows L2 Y
theorem Lled_ok {t : W.T} {a b : Int} (inj : ∀ x y : Int, a * x + b = a * y + b → x = y) (ha : a.natAbs < 18446744073709551616) (hn : W.Nd t) (hl : t.length < 16777216) : F3 (isDic t) (isV (.int a)) (isV (.int b)) (isDic (ledR (fun x => a * x + b) t)) m_Lled := fun S d d' d'' h h' h'' => by
  cases h'
  cases h''
  obtain ⟨k, rfl, h⟩ := h
  have di := dit_k (u := t) (k := k) (sd := stD 4 [.loc k, .int a, .int b]) (m := mVar 0) (fun _ _ _ => rfl)
  obtain ⟨r, S1, e1, x1, g1⟩ := lock_lc (S0 := S) (u := t) (k := k) (md := mVar 0) (tg := .nm 3) (sd := stD 4 [.loc k, .int a, .int b]) (e := (mTup (mCons (mBin (binO [(15, m_Row_add)] bAdd) (mBin (binO [(15, m_Row_mul)] bMul) (mVar 1) (mVar 3)) (mVar 2)) (mCons (mBin (ixO [(15, m_Row_getitem)] ixG) (mVar 0) (mVar 3)) mNil)))) (vs := [3]) (f := fun p => .tup [.int (a * p.1 + b), .int p.2]) h rfl di
    (fun p hp => ⟨[some (.loc k), some (.int a), some (.int b), some (.int p.1)], rfl, fun S2 g => by
      have v1 : (mBin (binO [(15, m_Row_mul)] bMul) (mVar 1) (mVar 3)) [some (.loc k), some (.int a), some (.int b), some (.int p.1)] S2 = .ok (.int (a * p.1)) S2 := by
        show bMul (.int a) (.int p.1) S2 = _
        simp only [bMul, mulOk_1 ha, if_true]
      have v2 : (mBin (binO [(15, m_Row_add)] bAdd) (mBin (binO [(15, m_Row_mul)] bMul) (mVar 1) (mVar 3)) (mVar 2)) [some (.loc k), some (.int a), some (.int b), some (.int p.1)] S2 = .ok (.int (a * p.1 + b)) S2 := by
        have v0 : mVar 2 [some (.loc k), some (.int a), some (.int b), some (.int p.1)] S2 = .ok (.int b) S2 := rfl
        rw [mBin_ok v1 v0]
        rfl
      have v3 : (mBin (ixO [(15, m_Row_getitem)] ixG) (mVar 0) (mVar 3)) [some (.loc k), some (.int a), some (.int b), some (.int p.1)] S2 = .ok (.int p.2) S2 := by
        have := gi_none (S := S2) g (List.mem_map.mpr ⟨p, hp, rfl⟩)
        rw [val_mem hn p hp] at this
        exact this
      exact mTup_ok (mCons_ok v2 (mCons_ok v3 mNil_ok)) (by simp)⟩) (by omega)
  have hm := mapK_nd inj hn
  have et : (t.map fun p : Int × Int => D.tup [.int (a * p.1 + b), .int p.2]) = tupP (mapK (fun x => a * x + b) t) := by
    unfold tupP mapK
    rw [List.map_map]
    rfl
  rw [et] at g1
  obtain ⟨r2, S2, e2, x2, g2⟩ := Lrow_ok (S := S1.new (.dct 0 (enc (mapK (fun x => a * x + b) t)))) (k := S1.n) Sto.get_new_self hm (by rw [mapK_len]; exact hl)
  refine ⟨.loc r2, S2, ?_, (x1.trans Ext.new).trans x2, r2, rfl, g2⟩
  refine (congrArg SRes.res (sRet_ok (x := .loc r2) (S1 := S2) (?_ : mCall m_Lrow _ (stD 4 [.loc k, .int a, .int b]) S = _))).trans rfl
  rw [mCall1 ((mCall1 e1).trans (fDict_l g1 hm))]
  exact e2
/-- Row.power -/
theorem power_ok {S : Sto} {e m : Int} (he : e.natAbs ≤ 10000) (hm : m.natAbs < 10 ^ 60) : ∃ v S', m_Row_power [.cls 15, .int e, .int m] S = .ok v S' ∧ Ext S S' ∧ isRow (nf [(e, m)]) S' v := by
  have e0 : (tOrM (tNotM (mTru (mCall m_is_power (mCons (mVar 1) mNil)))) (tNotM (mTru (mCall m_is_integer (mCons (mVar 2) mNil))))) (stD 3 [.cls 15, .int e, .int m]) S = .ok false S := by
    have i1 : (mCall m_is_power (mCons (mVar 1) mNil)) (stD 3 [.cls 15, .int e, .int m]) S = .ok (.bl true) S := is_power_ok he
    have i2 : (mCall m_is_integer (mCons (mVar 2) mNil)) (stD 3 [.cls 15, .int e, .int m]) S = .ok (.bl true) S := is_integer_ok hm
    have i3 : tNotM (mTru (mCall m_is_power (mCons (mVar 1) mNil))) (stD 3 [.cls 15, .int e, .int m]) S = .ok false S := tNot_ok (k := true) (mTru_b i1)
    have i4 : tNotM (mTru (mCall m_is_integer (mCons (mVar 2) mNil))) (stD 3 [.cls 15, .int e, .int m]) S = .ok false S := tNot_ok (k := true) (mTru_b i2)
    unfold tOrM
    rw [i3]
    exact i4
  have e1 : mDisp [((mVar 1), (mVar 2))] (stD 3 [.cls 15, .int e, .int m]) S = .ok (.loc S.n) ((S.new (.dct 0 [])).set S.n (.dct 0 (enc [(e, m)]))) := disp2 rfl rfl
  obtain ⟨v, S', e2, x, g⟩ := known_ok (S := (S.new (.dct 0 [])).set S.n (.dct 0 (enc [(e, m)]))) (k := S.n) (t := [(e, m)]) (Sto.get_set_self Sto.get_new_self) (by simp [W.Nd]) (fun p hp => by
    have : p = (e, m) := by simpa using hp
    rw [this]
    exact he) (by simp)
  refine ⟨v, S', ?_, Ext.newset.trans x, g⟩
  show (b_Row_power (stD 3 [.cls 15, .int e, .int m]) S).res = _
  unfold b_Row_power
  rw [sSeq_nx (sd1 := stD 3 [.cls 15, .int e, .int m]) (S1 := S) (by rw [sIf_f e0]; rfl)]
  refine (congrArg SRes.res (sRet_ok (x := v) (S1 := S') ?_)).trans rfl
  unfold mCallK
  rw [mCons_ok e1 mNil_ok]
  exact e2
theorem re_pow {sd : SD} {S : Sto} {m : ME} {e : Int} (he : e.natAbs ≤ 10000) (h : QE (isV (.int e)) m sd S) : QE (isRow (nf [(e, 1)])) (mCmeth 15 (mkK 2 0 g_Row_power_2 m_Row_power) (mCons m mNil)) sd S := fun S1 x => by
  obtain ⟨d, S2, e1, x2, p⟩ := h S1 x
  cases p
  obtain ⟨v, S3, e3, x3, g3⟩ := power_ok (S := S2) (m := 1) he (by decide)
  refine ⟨v, S3, ?_, x2.trans x3, g3⟩
  unfold mCmeth
  rw [mCons_ok e1 mNil_ok]
  simp only [bind_ok]
  unfold mkK
  rw [if_pos ⟨rfl, rfl⟩]
  exact e3
theorem re_powK {sd : SD} {S : Sto} {m m1 : ME} {e s : Int} (he : e.natAbs ≤ 10000) (hs : s.natAbs < 10 ^ 60) (h : QE (isV (.int e)) m sd S) (h1 : QE (isV (.int s)) m1 sd S) : QE (isRow (nf [(e, s)])) (mCmethK 15 (mkK 2 1 g_Row_power_2_many m_Row_power) (mCons m mNil) (mCons m1 mNil)) sd S := fun S1 x => by
  obtain ⟨d, S2, e1, x2, p⟩ := h S1 x
  cases p
  obtain ⟨d2, S3, e2, x3, p2⟩ := h1 S2 (x.trans x2)
  cases p2
  obtain ⟨v, S4, e3, x4, g3⟩ := power_ok (S := S3) (m := s) he hs
  refine ⟨v, S4, ?_, (x2.trans x3).trans x4, g3⟩
  unfold mCmethK
  rw [mCons_ok e1 mNil_ok]
  simp only [bind_ok]
  rw [mCons_ok e2 mNil_ok]
  simp only [bind_ok]
  unfold mkK
  rw [if_pos ⟨rfl, rfl⟩]
  exact e3
end K03

namespace K03
open PySem PySem.Spec PyProof.Rows L2 Y
/-- a product of n times the same row -/
def powR (t : W.T) : Nat → W.T
  | 0 => [(0, 1)]
  | n + 1 => mulR (powR t n) t
theorem powR_nf (t : W.T) : ∀ n, W.NF (powR t n)
  | 0 => ⟨by simp [powR], by simp [powR]⟩
  | n + 1 => mulR_nf
theorem powR_bk {t : W.T} (h : Bk 1 t) : ∀ n, Bk (n + 1) (powR t n)
  | 0 => bk_one (by decide)
  | n + 1 => (powR_bk h n).mul h
/-- _law_raised -/
theorem Lraised_ok {t : W.T} {n : Nat} (hb : Bk 1 t) (hn : n ≤ 4) : F2 (isDic t) (isV (.int n)) (isDic (powR t n)) m_Lraised := fun S d d' h h' => by
  cases h'
  obtain ⟨k, rfl, h⟩ := h
  let S1 := (S.new (.dct 0 [])).set S.n (.dct 0 (enc [(0, 1)]))
  have e0 : mDisp [((mC (.int 0)), (mC (.int 1)))] (stD 4 [.loc k, .int n]) S = .ok (.loc S.n) S1 := disp2 rfl rfl
  have va : (mCons (mVar 1) mNil) [some (.loc k), some (.int n), some (.loc S.n), none] S1 = .ok [.int n] S1 := rfl
  obtain ⟨sd', S', e1, ⟨f, x, rfl, x1, g1⟩⟩ := for_rng_det (tg := .nm 3) (b := sSet 2 (mCall m_Ltimes (mCons (mVar 2) (mCons (mVar 0) mNil)))) (R := fun i sd S' => ∃ f x, sd = [some (.loc k), some (.int n), some (.loc f), x] ∧ Ext S S' ∧ S'.get f = some (.dct 0 (enc (powR t i)))) va (by omega)
    ⟨S.n, none, rfl, Ext.newset, Sto.get_set_self Sto.get_new_self⟩ (fun i sd S2 hi ⟨f, x, e, x2, g2⟩ => by
      subst e
      obtain ⟨v, S3, e3, x3, r, rfl, g3⟩ := f_times (powR_bk hb i) hb (by omega) S2 (.loc f) (.loc k) ⟨f, rfl, g2⟩ ⟨k, rfl, x2 _ _ h⟩
      refine ⟨_, [some (.loc k), some (.int n), some (.loc r), some (.int i)], S3, rfl, ?_, r, _, rfl, x2.trans x3, g3⟩
      have v2 : mVar 2 [some (.loc k), some (.int n), some (.loc f), some (.int i)] S2 = .ok (.loc f) S2 := rfl
      have v0 : mVar 0 [some (.loc k), some (.int n), some (.loc f), some (.int i)] S2 = .ok (.loc k) S2 := rfl
      have em : mCall m_Ltimes (mCons (mVar 2) (mCons (mVar 0) mNil)) [some (.loc k), some (.int n), some (.loc f), some (.int i)] S2 = .ok (.loc r) S3 := by
        rw [mCall_ok (mCons_ok v2 (mCons_ok v0 mNil_ok))]
        exact e3
      exact sSet_ok em)
  refine ⟨.loc f, S', ?_, x1, f, rfl, g1⟩
  show (b_Lraised (stD 4 [.loc k, .int n]) S).res = _
  unfold b_Lraised
  rw [sSeq_nx (sSet_ok e0)]
  rw [show (stD 4 [.loc k, .int n]).set 2 (some (.loc S.n)) = [some (.loc k), some (.int n), some (.loc S.n), none] from rfl, sSeq_nx e1]
  rfl
end K03

namespace K03
open PySem PySem.Spec PyProof.Rows L2 Y
theorem qe_pure {m : ME} {sd : SD} {S : Sto} {d : D} (h : ∀ S1, Ext S S1 → m sd S1 = .ok d S1) : QE (isV d) m sd S := fun S1 x => ⟨d, S1, h S1 x, Ext.refl, rfl⟩
theorem qt_pure {m : MT} {sd : SD} {S : Sto} {b : Bool} (h : ∀ S1, Ext S S1 → m sd S1 = .ok b S1) : QT b m sd S := fun S1 x => ⟨S1, h S1 x, Ext.refl⟩
theorem lock_atk {t : W.T} {S : Sto} {n k : Nat} (h1 : S.get n = some (.ins 15 [some (.loc k)])) (h2 : S.get k = some (.dct 0 (enc t))) {w : List (Option D)} : mIt (mUn (atD [(15, .slot 0)]) (mVar 0)) (some (.loc n) :: w) (S.set k (.dct 1 (enc t))) = .ok (.dk k) (S.set k (.dct 1 (enc t))) := by
  have hne : n ≠ k := fun z => by
    subst z
    rw [h1] at h2
    cases h2
  have g1 : (S.set k (.dct 1 (enc t))).get n = some (.ins 15 [some (.loc k)]) := by rw [Sto.get_set_ne hne]; exact h1
  have g2 : (S.set k (.dct 1 (enc t))).get k = some (.dct 1 (enc t)) := Sto.get_set_self h2
  have c1 : (mUn (atD [(15, .slot 0)]) (mVar 0)) (some (.loc n) :: w) (S.set k (.dct 1 (enc t))) = .ok (.loc k) (S.set k (.dct 1 (enc t))) := at_row g1
  unfold mIt
  rw [c1]
  simp only [bind_ok, itOf, g2]
theorem bools_map {α : Type} (p : α → Bool) : ∀ l : List α, bools (l.map fun a => D.bl (p a)) = some (l.map p)
  | [] => rfl
  | a :: l => by
    rw [List.map_cons]
    simp only [bools, bools_map p l]
    rfl
theorem any_none {α : Type} {p : α → Bool} {l : List α} (h : ∀ a ∈ l, p a = false) : (l.map p).any id = false := by
  rw [List.any_map, List.any_eq_false]
  intro a ha
  simp [h a ha]
theorem absI {i : Int} {S : Sto} : fAbs [.int i] S = .ok (.int (i.natAbs : Int)) S := by
  simp only [fAbs]
  have : (if i < 0 then -i else i) = (i.natAbs : Int) := by split <;> omega
  rw [this]
theorem raised_core {t b : W.T} {pw : Nat → W.T} {n : Int} (hn : n.natAbs ≤ 100) (hneg : n < 0 → ∃ e s, t = [(e, s)] ∧ (s = 1 ∨ s = -1)) (hpow : ∀ p ∈ t, (p.1 * n).natAbs ≤ 10000) (hsm : ∀ p ∈ t, p.1.natAbs < 18446744073709551616) (hl : t.length < 16777216) (h0 : pw 0 = [(0, 1)])
    (hmul : ∀ i, i < n.natAbs → F2 (isRow (pw i)) (isOp b) (isRow (pw (i + 1))) m_Row_mul) (hb : n < 0 → F1 (isRow t) (isRow b) m_Row_turned) (hb' : 0 ≤ n → b = t) : F2 (isRow t) (isV (.int n)) (isRow (pw n.natAbs)) m_Row_raised := by
  refine f2_of fun S d d' h h' => ?_
  cases h'
  show QR _ b_Row_raised [some d, some (.int n), none, none, none, none] S
  unfold b_Row_raised
  have hh : ∀ {S1}, Ext S S1 → isRow t S1 d := fun x => mono_row _ _ _ x h
  -- first test
  have t1 : QT false (tOrM (tNotM (mTru (mCall m_is_integer (mCons (mVar 1) mNil)))) (mTst cGt (mCall fAbs (mCons (mVar 1) mNil)) (mC (.int 100)))) [some d, some (.int n), none, none, none, none] S := by
    refine qt_orf (qt_not (b := true) (qt_tru (qe_pure fun S1 _ => ?_))) (qt_pure fun S1 _ => ?_)
    · exact (is_integer_ok (i := n) (S := S1) (Nat.lt_of_le_of_lt hn (by decide)))
    · have e1 : (mCall fAbs (mCons (mVar 1) mNil)) [some d, some (.int n), none, none, none, none] S1 = .ok (.int (n.natAbs : Int)) S1 := absI
      refine mTst_ok ((mBin_ok e1 (rfl : mC (.int 100) _ S1 = .ok (.int 100) S1)).trans ?_)
      simp only [cGt]
      rw [decide_eq_false (by omega)]
  refine qr_iff t1 ?_
  -- second test
  have t2 : QT false (tAndM (mTst cLt (mVar 1) (mC (.int 0))) (tOrM (mTst cNeG (mCall fLenG (mCons (mUn (atD [(15, .slot 0)]) (mVar 0)) mNil)) (mC (.int 1))) (mTst cNeG (mCall fAbs (mCons (mBin (ixO [(15, m_Row_getitem)] ixG) (mUn fValues (mUn (atD [(15, .slot 0)]) (mVar 0))) (mC (.int 0))) mNil)) (mC (.int 1))))) [some d, some (.int n), none, none, none, none] S := by
    by_cases hn0 : n < 0
    · obtain ⟨e, s, rfl, hs⟩ := hneg hn0
      refine qt_andt (qt_pure fun S1 _ => ?_) (qt_orf (qt_pure fun S1 x => ?_) (fun S1 x => ?_))
      · refine mTst_ok (?_ : cLt (.int n) (.int 0) S1 = _)
        simp only [cLt]
        rw [decide_eq_true hn0]
      · obtain ⟨r, k, rfl, h1, h2⟩ := hh x
        have a1 : (mUn (atD [(15, .slot 0)]) (mVar 0)) [some (.loc r), some (.int n), none, none, none, none] S1 = .ok (.loc k) S1 := at_row h1
        have a2 : (mCall fLenG (mCons (mUn (atD [(15, .slot 0)]) (mVar 0)) mNil)) [some (.loc r), some (.int n), none, none, none, none] S1 = .ok (.int 1) S1 := by
          rw [mCall1 a1]
          simp only [fLenG, h2, enc_isK, if_true]
          rfl
        exact mTst_ok ((mBin_ok a2 (rfl : mC (.int 1) _ S1 = .ok (.int 1) S1)).trans cNeG_int)
      · obtain ⟨r, k, rfl, h1, h2⟩ := hh x
        have a1 : (mUn (atD [(15, .slot 0)]) (mVar 0)) [some (.loc r), some (.int n), none, none, none, none] S1 = .ok (.loc k) S1 := at_row h1
        have a2 : (mUn fValues (mUn (atD [(15, .slot 0)]) (mVar 0))) [some (.loc r), some (.int n), none, none, none, none] S1 = .ok (.loc S1.n) (S1.new (.lst [.int s])) := by
          rw [mUn_ok a1]
          simp only [fValues, h2, enc_isK, if_true]
          rfl
        have g3 : (S1.new (.lst [.int s])).get S1.n = some (.lst [.int s]) := Sto.get_new_self
        have a3 : (mBin (ixO [(15, m_Row_getitem)] ixG) (mUn fValues (mUn (atD [(15, .slot 0)]) (mVar 0))) (mC (.int 0))) [some (.loc r), some (.int n), none, none, none, none] S1 = .ok (.int s) (S1.new (.lst [.int s])) := by
          rw [mBin_ok a2 (rfl : mC (.int 0) _ (S1.new (.lst [.int s])) = .ok (.int 0) (S1.new (.lst [.int s])))]
          have c0 : clsD (.loc S1.n) (S1.new (.lst [.int s])) = none := by simp only [clsD, g3]
          have i0 : isDct (.loc S1.n) (S1.new (.lst [.int s])) = false := by simp only [isDct, g3]
          unfold ixO
          rw [c0]
          show ixG (.loc S1.n) (.int 0) (S1.new (.lst [.int s])) = _
          unfold ixG
          rw [i0]
          show ixD (.loc S1.n) (.int 0) (S1.new (.lst [.int s])) = _
          simp only [ixD, g3]
          rfl
        have a4 : (mCall fAbs (mCons (mBin (ixO [(15, m_Row_getitem)] ixG) (mUn fValues (mUn (atD [(15, .slot 0)]) (mVar 0))) (mC (.int 0))) mNil)) [some (.loc r), some (.int n), none, none, none, none] S1 = .ok (.int 1) (S1.new (.lst [.int s])) := by
          rw [mCall1 a3]
          rcases hs with rfl | rfl <;> rfl
        exact ⟨_, mTst_ok ((mBin_ok a4 (rfl : mC (.int 1) _ (S1.new (.lst [.int s])) = .ok (.int 1) (S1.new (.lst [.int s])))).trans cNeG_int), Ext.new⟩
    · refine qt_andf (qt_pure fun S1 _ => ?_)
      refine mTst_ok (?_ : cLt (.int n) (.int 0) S1 = _)
      simp only [cLt]
      rw [decide_eq_false hn0]
  refine qr_iff t2 ?_
  -- third test
  have t3 : QT false (mTru (mCall fAny (mCons (mLock (mUn (atD [(15, .slot 0)]) (mVar 0)) (mLc (mIt (mUn (atD [(15, .slot 0)]) (mVar 0))) (.nm 2) tYesM (mBin cGt (mCall fAbs (mCons (mBin (binO [(15, m_Row_mul)] bMul) (mVar 2) (mVar 1)) mNil)) (mC (.int 10000))) [2])) mNil))) [some d, some (.int n), none, none, none, none] S := fun S1 x => by
    obtain ⟨r, k, rfl, h1, h2⟩ := hh x
    have di := dit_k (u := t) (k := k) (sd := [some (.loc r), some (.int n), none, none, none, none]) (m := mC (.loc k)) (fun _ _ _ => rfl)
    obtain ⟨q, S2, e1, x1, g1⟩ := lock_lcG (S0 := S1) (u := t) (k := k) (md := mUn (atD [(15, .slot 0)]) (mVar 0)) (mi := mIt (mUn (atD [(15, .slot 0)]) (mVar 0))) (it := .dk k) (sd := [some (.loc r), some (.int n), none, none, none, none]) (tg := .nm 2) (e := (mBin cGt (mCall fAbs (mCons (mBin (binO [(15, m_Row_mul)] bMul) (mVar 2) (mVar 1)) mNil)) (mC (.int 10000)))) (vs := [2]) (f := fun p => .bl (decide (10000 < ((p.1 * n).natAbs : Int)))) h2 (at_row h1) di.nx di.ln (lock_atk h1 h2)
      (fun p hp => ⟨[some (.loc r), some (.int n), some (.int p.1), none, none, none], rfl, fun S3 _ => by
        have b1 : (mBin (binO [(15, m_Row_mul)] bMul) (mVar 2) (mVar 1)) [some (.loc r), some (.int n), some (.int p.1), none, none, none] S3 = .ok (.int (p.1 * n)) S3 := by
          show bMul (.int p.1) (.int n) S3 = _
          simp only [bMul, mulOk_1 (hsm p hp), if_true]
        have b2 : (mCall fAbs (mCons (mBin (binO [(15, m_Row_mul)] bMul) (mVar 2) (mVar 1)) mNil)) [some (.loc r), some (.int n), some (.int p.1), none, none, none] S3 = .ok (.int ((p.1 * n).natAbs : Int)) S3 := by
          rw [mCall1 b1, absI]
        rw [mBin_ok b2 (rfl : mC (.int 10000) _ S3 = .ok (.int 10000) S3)]
        rfl⟩) (by omega)
    refine ⟨S2, mTru_b ?_, x1⟩
    rw [mCall1 e1]
    simp only [fAny, g1, bools_map (fun p : Int × Int => decide (10000 < ((p.1 * n).natAbs : Int))) t]
    rw [any_none fun p hp => decide_eq_false (by have := hpow p hp; omega)]
  refine qr_iff t3 ?_
  -- base
  have qb : QE (isRow b) (mIf (mTst cGe (mVar 1) (mC (.int 0))) (mVar 0) (mUn (atD [(15, .prop m_Row_turned)]) (mVar 0))) [some d, some (.int n), none, none, none, none] S := by
    by_cases hn0 : n < 0
    · refine qe_iff (qt_pure fun S1 _ => mTst_ok (?_ : cGe (.int n) (.int 0) S1 = _)) (qe_un (fun S d h => ?_) (qe_var h mono_row rfl))
      · simp only [cGe]
        rw [decide_eq_false (by omega)]
      · obtain ⟨e, S2, e1, x1, g1⟩ := hb hn0 S d h
        exact ⟨e, S2, at_prop h e1, x1, g1⟩
    · rw [hb' (by omega)]
      refine qe_ift (qt_pure fun S1 _ => mTst_ok (?_ : cGe (.int n) (.int 0) S1 = _)) (qe_var h mono_row rfl)
      simp only [cGe]
      rw [decide_eq_true (by omega)]
  refine qr_set qb fun bd S1 x1 pb => ?_
  refine qr_set (re_pow (e := 0) (by decide) qe_c) fun p0 S2 x2 pp => ?_
  show QR _ _ [some d, some (.int n), none, some bd, some p0, none] S2
  intro S3 x3
  have va : (mCons (mCall fAbs (mCons (mVar 1) mNil)) mNil) [some d, some (.int n), none, some bd, some p0, none] S3 = .ok [.int (n.natAbs : Int)] S3 := by
    have e1 : (mCall fAbs (mCons (mVar 1) mNil)) [some d, some (.int n), none, some bd, some p0, none] S3 = .ok (.int (n.natAbs : Int)) S3 := absI
    exact mCons_ok e1 mNil_ok
  have pb3 := mono_row _ _ _ x3 (mono_row _ _ _ x2 pb)
  have pp3 := mono_row _ _ _ x3 pp
  have e01 : nf [(0, 1)] = [(0, 1)] := by decide
  rw [e01, ← h0] at pp3
  obtain ⟨sd', S', e1, ⟨f, x5, rfl, x4, g1⟩⟩ := for_rng_det (tg := .nm 5) (b := sSet 4 (mBin (binO [(15, m_Row_mul)] bMul) (mVar 4) (mVar 3))) (R := fun i sd S' => ∃ f x5, sd = [some d, some (.int n), none, some bd, some f, x5] ∧ Ext S3 S' ∧ isRow (pw i) S' f) va (by omega)
    ⟨p0, none, rfl, Ext.refl, pp3⟩ (fun i sd S4 hi ⟨f, x5, e, x4, g4⟩ => by
      subst e
      obtain ⟨v, S5, e5, x5', g5⟩ := bin_row (base := bMul) (hmul i hi) S4 f bd g4 (.inl (mono_row _ _ _ x4 pb3))
      refine ⟨_, [some d, some (.int n), none, some bd, some v, some (.int i)], S5, rfl, ?_, v, _, rfl, x4.trans x5', g5⟩
      have v4 : mVar 4 [some d, some (.int n), none, some bd, some f, some (.int i)] S4 = .ok f S4 := rfl
      have v3 : mVar 3 [some d, some (.int n), none, some bd, some f, some (.int i)] S4 = .ok bd S4 := rfl
      exact sSet_ok ((mBin_ok v4 v3).trans e5))
  refine ⟨f, S', ?_, x4, g1⟩
  rw [sSeq_nx e1]
  rfl
/-- few times a small row -/
theorem raised_ok {t : W.T} {n : Nat} (hb : Bk 1 t) (hn : n ≤ 4) : F2 (isRow t) (isV (.int n)) (isRow (powR t n)) m_Row_raised := by
  have := raised_core (t := t) (b := t) (pw := powR t) (n := n) (by omega) (fun h => by omega) (fun p hp => by
    have := hb.eb p hp
    rw [Int.natAbs_mul]
    have h1 : (n : Int).natAbs = n := rfl
    rw [h1]
    exact Nat.le_trans (Nat.mul_le_mul this hn) (by decide)) (fun p hp => by have := hb.eb p hp; omega) (hb.l (by decide)) rfl (fun i hi => row_mul (powR_bk hb i) hb (by have : i < n := hi; omega)) (fun h => by omega) (fun _ => rfl)
  exact this
/-- powers of one power -/
def one (e s : Int) : W.T := [(e, s)]
theorem one_nf {e s : Int} (h : s ≠ 0) : W.NF (one e s) := ⟨by simp [one], by simp [one, h]⟩
theorem mul_ones {a x b y : Int} (h : x * y ≠ 0) : mulR (one a x) (one b y) = one (a + b) (x * y) := nf_eq' mulR_nf (one_nf h) fun g => by
  rw [mulR_tot]
  simp only [one, W.tot, Int.add_zero]
  rw [Int.mul_assoc]
end K03

namespace K03
open PySem PySem.Spec PyProof.Rows L2 Y
section
variable {t u : W.T} {i j : Nat} {S : Sto} {sd : SD} {m m1 : ME}
theorem row_mulG {M K : Nat} (ht : W.nrm t < 2 ^ 2000) (hu : W.nrm u < 2 ^ 2000) (ln : t.length * u.length < 16777216) (et : W.EB t M) (eu : W.EB u K) (hm : M + K ≤ 10000) : F2 (isRow t) (isOp u) (isRow (mulR t u)) m_Row_mul := fun S d d' h h' => by
  obtain ⟨k, e1, g1⟩ := row_at h
  obtain ⟨k2, S2, e2, x2, g2⟩ := operand_ok h'
  obtain ⟨r, S3, e3, x3, g3⟩ := product_terms_ok (x2 _ _ g1) g2 ht hu ln
  obtain ⟨a, b, c, dd, ee⟩ := W.prod_ok u t nd_nil
  obtain ⟨q, S4, e4, x4, g4⟩ := known_ok g3 a (eb_mono (ee _ _ _ (by intro p hp; cases hp) et eu (Nat.le_refl _)) (by omega)) (by simp only [List.length_nil, Nat.zero_add] at dd; omega)
  refine ⟨q, S4, ?_, (x2.trans x3).trans x4, g4⟩
  refine (congrArg SRes.res (sRet_ok (x := q) (S1 := S4) (?_ : mCallK n_Row_init_2_is_known _ _ (stD 2 [d, d']) S = _))).trans rfl
  have c1 : (mUn (atD [(15, .slot 0)]) (mVar 0)) (stD 2 [d, d']) S = .ok (.loc k) S := e1
  have c2 : (mCall m_operand_terms (mCons (mVar 1) mNil)) (stD 2 [d, d']) S = .ok (.loc k2) S2 := e2
  unfold mCallK
  rw [mCons_ok (mCall_ok (f := m_product_terms) (mCons_ok c1 (mCons_ok c2 mNil_ok)) |>.trans e3) mNil_ok]
  exact e4
def pws (s : Int) : Nat → Int
  | 0 => 1
  | n + 1 => pws s n * s
theorem pws_abs {s : Int} (h : s = 1 ∨ s = -1) : ∀ n, pws s n = 1 ∨ pws s n = -1
  | 0 => .inl rfl
  | n + 1 => by
    have ih := pws_abs h n
    unfold pws
    rcases h with rfl | rfl <;> rcases ih with h | h <;> rw [h] <;> decide
theorem one_eb {e s : Int} {M : Nat} (h : e.natAbs ≤ M) : W.EB (one e s) M := fun p hp => by
  have : p = (e, s) := by simpa [one] using hp
  rw [this]
  exact h
set_option exponentiation.threshold 3000 in
theorem one_nrm {e s : Int} (h : s = 1 ∨ s = -1) : W.nrm (one e s) < 2 ^ 2000 := by
  rcases h with rfl | rfl <;> exact (by decide : 1 < 2 ^ 2000)
theorem one_ne {s : Int} (h : s = 1 ∨ s = -1) : s ≠ 0 := by omega
theorem ones_mul {a b x y : Int} {M K : Nat} (hx : x = 1 ∨ x = -1) (hy : y = 1 ∨ y = -1) (ha : a.natAbs ≤ M) (hb : b.natAbs ≤ K) (hm : M + K ≤ 10000) : F2 (isRow (one a x)) (isOp (one b y)) (isRow (one (a + b) (x * y))) m_Row_mul := by
  have := row_mulG (t := one a x) (u := one b y) (one_nrm hx) (one_nrm hy) (by simp [one]) (one_eb ha) (one_eb hb) hm
  rw [mul_ones (by rcases hx with rfl | rfl <;> rcases hy with rfl | rfl <;> decide)] at this
  exact this
theorem one_bk {e s : Int} (h : s = 1 ∨ s = -1) (he : e.natAbs ≤ 20) : Bk 1 (one e s) := by
  refine ⟨by simp [W.Nd, one], Nat.le_refl _, by simp [one], one_eb he, ?_⟩
  rcases h with rfl | rfl <;> exact (by decide : 1 ≤ 10 ^ (25 * 1))
theorem led_one {e s : Int} (h : s ≠ 0) : ledR (fun x => -x) (one e s) = one (-e) s := nf_eq' (ledR_nf neg_inj' (one_nf h).nd) (one_nf h) fun g => by
  rw [ledR_tot neg_inj' (one_nf h).nd]
  rfl
theorem raised_one {e s n : Int} (hs : s = 1 ∨ s = -1) (he : e.natAbs ≤ 10) (hn : n.natAbs ≤ 90) : F2 (isRow (one e s)) (isV (.int n)) (isRow (one (e * n) (pws s n.natAbs))) m_Row_raised := by
  let b : Int := if n < 0 then -e else e
  have hb : b.natAbs ≤ 10 := by
    show (if n < 0 then -e else e).natAbs ≤ 10
    split <;> omega
  have main := raised_core (t := one e s) (b := one b s) (pw := fun i => one (b * i) (pws s i)) (n := n) (by omega) (fun _ => ⟨e, s, rfl, hs⟩) (fun p hp => by
    have : p = (e, s) := by simpa [one] using hp
    rw [this, Int.natAbs_mul]
    exact Nat.le_trans (Nat.mul_le_mul he hn) (by decide)) (fun p hp => by
    have : p = (e, s) := by simpa [one] using hp
    rw [this]
    show e.natAbs < _
    omega) (by simp [one]) (by simp [one, pws]) (fun i hi => by
      have hbi : (b * (i : Int)).natAbs ≤ 900 := by
        rw [Int.natAbs_mul]
        have : (i : Int).natAbs ≤ 90 := by omega
        exact Nat.le_trans (Nat.mul_le_mul hb this) (by decide)
      have := ones_mul (a := b * i) (b := b) (x := pws s i) (y := s) (M := 900) (K := 10) (pws_abs hs i) hs hbi hb (by decide)
      have e1 : b * (i : Int) + b = b * ((i + 1 : Nat) : Int) := by
        rw [Int.natCast_add, Int.mul_add]
        simp
      rw [e1] at this
      exact this) (fun h => by
      have := turned_ok (one_bk (e := e) hs (by omega)) (by decide)
      rw [led_one (one_ne hs)] at this
      have eb : b = -e := if_pos h
      rw [eb]
      exact this) (fun h => by
      have eb : b = e := if_neg (by omega)
      rw [eb])
  have e2 : b * (n.natAbs : Int) = e * n := by
    show (if n < 0 then -e else e) * (n.natAbs : Int) = e * n
    split
    · have : (n.natAbs : Int) = -n := by omega
      rw [this, Int.neg_mul_neg]
    · have : (n.natAbs : Int) = n := by omega
      rw [this]
  simp only [e2] at main
  exact main
theorem low_one {e s : Int} : F1 (isRow (one e s)) (isV (.int e)) m_Row_low := fun S d h => by
  obtain ⟨n, k, rfl, h1, h2⟩ := h
  refine ⟨.int e, S, ?_, Ext.refl, rfl⟩
  show (b_Row_low (stD 1 [.loc n]) S).res = _
  unfold b_Row_low
  have a1 : (mUn (atD [(15, .slot 0)]) (mVar 0)) (stD 1 [.loc n]) S = .ok (.loc k) S := at_row h1
  refine (congrArg SRes.res (sRet_ok (x := .int e) (S1 := S) ?_)).trans rfl
  unfold mCallK
  rw [mCons_ok a1 mNil_ok]
  have a2 : (mCons (mC .non) mNil) (stD 1 [.loc n]) S = .ok [.non] S := rfl
  simp only [bind_ok]
  rw [a2]
  simp only [bind_ok, fMinD, h2, enc_keys]
  rfl
/-! expressions -/
theorem re_prop {Q : Sto → D → Prop} {f : MF} (hf : F1 (isRow t) Q f) (h : QE (isRow t) m sd S) : QE Q (mUn (atD [(15, .prop f)]) m) sd S := qe_un (fun S d h => by
  obtain ⟨e, S2, e1, x1, g1⟩ := hf S d h
  exact ⟨e, S2, at_prop h e1, x1, g1⟩) h
theorem re_meth {P Q : Sto → D → Prop} {f : MF} (hf : F2 (isRow t) P Q f) (a : QE (isRow t) m sd S) (b : QE P m1 sd S) : QE Q (mMethO [(15, f)] m (mCons m1 mNil)) sd S := fun S1 x => by
  obtain ⟨d, S2, e, x2, p⟩ := a S1 x
  obtain ⟨d1, S3, e1, x3, p1⟩ := b S2 (x.trans x2)
  obtain ⟨d3, S4, e3, x4, p3⟩ := hf S3 d d1 (mono_row _ _ _ x3 p) p1
  refine ⟨d3, S4, ?_, (x2.trans x3).trans x4, p3⟩
  unfold mMethO
  rw [e]
  have c3 : List.lookup 15 [((15 : Nat), f)] = some f := rfl
  simp only [bind_ok, row_cls p, c3]
  rw [mCons_ok e1 mNil_ok]
  exact e3
/-- lists of two numbers -/
theorem eq_two {S : Sto} {a b : Nat} {x y : Int} (h1 : S.get a = some (.lst [.int x, .int y])) (h2 : S.get b = some (.lst [.int x, .int y])) : cEqG (.loc a) (.loc b) S = .ok (.bl true) S := by
  have : isDct (.loc a) S = false := by simp only [isDct, h1]
  unfold cEqG
  rw [this]
  show cEq (.loc a) (.loc b) S = _
  unfold cEq eqDat
  have p : ∀ {k : Nat}, S.get k = some (.lst [.int x, .int y]) → toPy S 12 (.loc k) = some (.list [.int x, .int y]) := fun {k} h => by
    show (match S.get k with
      | some (.lst l) => (allP (toPy S 11) l).map PyData.list
      | _ => none) = _
    rw [h]
    rfl
  rw [p h1, p h2]
  have sh : SeqAt.shaped (.list [.int x, .int y]) = true := by
    unfold SeqAt.shaped
    rw [Bool.and_eq_true, decide_eq_true_eq]
    refine ⟨rfl, ?_⟩
    simp [PyData.depth, PyData.depthAll]
  have ev : PyData.eqv (.list [.int x, .int y]) (.list [.int x, .int y]) = true := by simp [PyData.eqv, PyData.eqvAll]
  simp only [sh, Bool.and_self, if_true, ev]
def isTwo (x y : Int) : Sto → D → Prop := fun S d => ∃ k, d = .loc k ∧ S.get k = some (.lst [.int x, .int y])
theorem mono_two {x y : Int} : Mono (isTwo x y) := fun _ _ _ e ⟨k, a, b⟩ => ⟨k, a, e _ _ b⟩
theorem re_two {x y : Int} (a : QE (isV (.int x)) m sd S) (b : QE (isV (.int y)) m1 sd S) : QE (isTwo x y) (mLst (mCons m (mCons m1 mNil))) sd S := fun S1 e => by
  obtain ⟨d, S2, e1, x2, p⟩ := a S1 e
  obtain ⟨d1, S3, e2, x3, p1⟩ := b S2 (e.trans x2)
  cases p
  cases p1
  refine ⟨.loc S3.n, S3.new (.lst [.int x, .int y]), ?_, (x2.trans x3).trans Ext.new, S3.n, rfl, Sto.get_new_self⟩
  unfold mLst
  rw [mCons_ok e1 (mCons_ok e2 mNil_ok)]
  rfl
theorem re_eq2 {x y : Int} (a : QE (isTwo x y) m sd S) (b : QE (isTwo x y) m1 sd S) : QE (isV (.bl true)) (mBin cEqG m m1) sd S :=
  qe_bin (fun S d d' ⟨k, e, h⟩ ⟨k', e', h'⟩ => by
    subst e
    subst e'
    exact ⟨_, S, eq_two h h', Ext.refl, rfl⟩) mono_two a b
theorem ints_map {α : Type} (p : α → Int) : ∀ l : List α, intsD (l.map fun a => D.int (p a)) = some (l.map p)
  | [] => rfl
  | a :: l => by
    rw [List.map_cons]
    simp only [intsD, ints_map p l]
    rfl
theorem sum_sg {v : Int} : ∀ t : W.T, (t.map fun p : Int × Int => p.2 * sg v p.1).sum = W.tot (sg v) t
  | [] => rfl
  | p :: t => by
    rw [List.map_cons, List.sum_cons, sum_sg t]
    rfl
/-- sum(list(d.values())) -/
theorem re_values (h : QE (isDic t) m sd S) : QE (isV (.int (W.tot (sg 1) t))) (mCall fSum (mCons (mUn fValues m) mNil)) sd S := fun S1 x => by
  obtain ⟨d, S2, e, x2, k, rfl, hk⟩ := h S1 x
  have a2 : (mUn fValues m) sd S1 = .ok (.loc S2.n) (S2.new (.lst (t.map fun p => .int p.2))) := by
    rw [mUn_ok e]
    simp only [fValues, hk, enc_isK, if_true]
    rw [show (enc t).map (·.2) = t.map fun p => D.int p.2 from by unfold enc; rw [List.map_map]; rfl]
  refine ⟨_, S2.new (.lst (t.map fun p => .int p.2)), ?_, x2.trans Ext.new, rfl⟩
  rw [mCall1 a2]
  simp only [fSum, Sto.get_new_self, ints_map]
  have := sum_sg (v := 1) t
  have e1 : (t.map fun p : Int × Int => p.2 * sg 1 p.1) = t.map fun p => p.2 := List.map_congr_left fun p _ => by
    have : sg 1 p.1 = 1 := by unfold sg; split <;> rfl
    rw [this, Int.mul_one]
  rw [e1] at this
  rw [this]
/-- the sum with signs -/
theorem signs_ok {w : List (Option D)} {d0 d1 d2 d3 d4 d5 : Option D} (hn : W.Nd t) (hl : t.length < 16777216) {k : Nat} (hk : S.get k = some (.dct 0 (enc t))) : ∃ S', (mCall fSum (mCons (mLock (mVar 1) (mLc (mIt (mVar 1)) (.nm 7) tYesM (mIf (mTst cEqG (mBin bMod (mVar 7) (mC (.int 2))) (mC (.int 0))) (mBin (ixO [(15, m_Row_getitem)] ixG) (mVar 1) (mVar 7)) (mUn (unO [(15, m_Row_neg)] uNeg) (mBin (ixO [(15, m_Row_getitem)] ixG) (mVar 1) (mVar 7)))) [7])) mNil)) [d0, some (.loc k), d1, d2, d3, d4, d5, none] S = .ok (.int (W.tot (sg (-1)) t)) S' ∧ Ext S S' := by
  have di := dit_k (u := t) (k := k) (sd := [d0, some (.loc k), d1, d2, d3, d4, d5, none]) (m := mVar 1) (fun _ _ _ => rfl)
  obtain ⟨r, S1, e1, x1, g1⟩ := lock_lc (S0 := S) (u := t) (k := k) (md := mVar 1) (tg := .nm 7) (sd := [d0, some (.loc k), d1, d2, d3, d4, d5, none]) (e := (mIf (mTst cEqG (mBin bMod (mVar 7) (mC (.int 2))) (mC (.int 0))) (mBin (ixO [(15, m_Row_getitem)] ixG) (mVar 1) (mVar 7)) (mUn (unO [(15, m_Row_neg)] uNeg) (mBin (ixO [(15, m_Row_getitem)] ixG) (mVar 1) (mVar 7))))) (vs := [7]) (f := fun p => .int (p.2 * sg (-1) p.1)) hk rfl di
    (fun p hp => ⟨[d0, some (.loc k), d1, d2, d3, d4, d5, some (.int p.1)], rfl, fun S2 g => by
      have a1 : (mTst cEqG (mBin bMod (mVar 7) (mC (.int 2))) (mC (.int 0))) [d0, some (.loc k), d1, d2, d3, d4, d5, some (.int p.1)] S2 = .ok (decide (p.1 % 2 = 0)) S2 := mTst_ok (cEqG_int (a := p.1 % 2) (b := 0))
      have v3 : (mBin (ixO [(15, m_Row_getitem)] ixG) (mVar 1) (mVar 7)) [d0, some (.loc k), d1, d2, d3, d4, d5, some (.int p.1)] S2 = .ok (.int p.2) S2 := by
        have := gi_none (S := S2) g (List.mem_map.mpr ⟨p, hp, rfl⟩)
        rw [val_mem hn p hp] at this
        exact this
      have v4 : (mUn (unO [(15, m_Row_neg)] uNeg) (mBin (ixO [(15, m_Row_getitem)] ixG) (mVar 1) (mVar 7))) [d0, some (.loc k), d1, d2, d3, d4, d5, some (.int p.1)] S2 = .ok (.int (-p.2)) S2 := by
        rw [mUn_ok v3]
        rfl
      unfold mIf
      rw [a1]
      simp only [bind_ok]
      by_cases z : p.1 % 2 = 0
      · rw [decide_eq_true z, if_pos rfl, v3]
        simp [sg, z]
      · rw [decide_eq_false z, if_neg (by decide), v4]
        simp [sg, z]⟩) (by omega)
  refine ⟨S1, ?_, x1⟩
  rw [mCall1 e1]
  simp only [fSum, g1, ints_map, sum_sg]
end
end K03

namespace K03
open PySem PySem.Spec PyProof.Rows L2 Y
theorem ledR_congr {φ ψ : Int → Int} {t : W.T} (h : ∀ x, φ x = ψ x) : ledR φ t = ledR ψ t := by rw [show φ = ψ from funext h]
theorem allS_of_qr {P : Sto → D → Prop} {m : MS} {sd : SD} {S : Sto} {N : SD → Sto → Prop} {T : D → Sto → Prop} (h : QR P m sd S) (f : ∀ d S', Ext S S' → P S' d → T d S') : AllS (m sd S) N T := by
  obtain ⟨d, S2, e, x, p⟩ := h S Ext.refl
  rw [e]
  exact .rt (f d S2 x p)
theorem roll_all {S : Sto} {d : Nat} {t : Int} (h : S.get d = some .dice) (ht : 0 < t) (hl : t.natAbs.log2 < 9000) : AllR (mRoll [.loc d, .int t] S) fun v S' => S' = S ∧ ∃ r : Nat, v = .int r ∧ (r : Int) < t := by
  simp only [mRoll, h]
  rw [if_pos ⟨ht, hl⟩]
  exact .pick fun r hr => .ok ⟨rfl, r, rfl, by omega⟩
theorem roll_e {S : Sto} {d : Nat} {t : Int} {sd : SD} {m m1 : ME} (h : S.get d = some .dice) (ht : 0 < t) (hl : t.natAbs.log2 < 9000) (e : m sd S = .ok (.loc d) S) (e1 : m1 sd S = .ok (.int t) S) {Q : D → Sto → Prop} (k : ∀ r : Nat, (r : Int) < t → Q (.int r) S) : AllR (mCall mRoll (mCons m (mCons m1 mNil)) sd S) Q := by
  rw [mCall_ok (mCons_ok e (mCons_ok e1 mNil_ok))]
  exact (roll_all h ht hl).mono fun v S' ⟨e, r, e2, hr⟩ => by
    subst e
    subst e2
    exact k r hr
theorem pick_ok {S : Sto} {dd k : Nat} {l : List Int} (hd : S.get dd = some .dice) (hk : S.get k = some (.lst (l.map D.int))) (h0 : 0 < l.length) (hl : l.length < 1000) {Q : D → Sto → Prop} (hq : ∀ n ∈ l, Q (.int n) S) : AllR (m_Lpick [.loc dd, .loc k] S) Q := by
  refine AllR.mk rfl ?_
  unfold b_Lpick sRet
  refine AllS.bind (AllR.bind (.ok (AllR.bind ?_)))
  have e1 : (mCall fLenG (mCons (mVar 1) mNil)) (stD 2 [.loc dd, .loc k]) S = .ok (.int l.length) S := by
    show fLenG [.loc k] S = _
    simp only [fLenG, hk, fLen, List.length_map]
  refine roll_e (t := l.length) hd (by omega) ?_ rfl e1 fun r hr => ?_
  · have : (l.length : Int).natAbs < 2 ^ 2000 := Nat.lt_of_lt_of_le (by omega : _ < 1000) (by
      have := Nat.pow_le_pow_right (n := 2) (by decide) (show 10 ≤ 2000 by decide)
      exact Nat.le_trans (by decide) this)
    have := log_small this
    omega
  · have hr' : r < l.length := by omega
    have c0 : clsD (.loc k) S = none := by simp only [clsD, hk]
    have : ixO [(15, m_Row_getitem)] ixG (.loc k) (.int r) S = .ok (.int l[r]) S := by
      unfold ixO
      rw [c0]
      have i0 : isDct (.loc k) S = false := by simp only [isDct, hk]
      show ixG (.loc k) (.int r) S = _
      unfold ixG
      rw [i0]
      show ixD (.loc k) (.int r) S = _
      simp only [ixD, hk]
      have : atI (l.map D.int) (r : Int) = some (.int l[r]) := by
        simp [atI, ixN, hr']
      rw [this]
    exact AllR.of this (.rt (hq _ (List.getElem_mem hr')))
theorem AllR.cons {m : ME} {r : MA} {sd : SD} {S : Sto} {Q : List D → Sto → Prop} (h : AllR (m sd S) fun x S1 => AllR (r sd S1) fun xs S2 => Q (x :: xs) S2) : AllR (mCons m r sd S) Q :=
  AllR.bind (h.mono fun x S1 h1 => AllR.bind (h1.mono fun xs S2 h2 => .ok h2))
theorem AllR.nil {sd : SD} {S : Sto} {Q : List D → Sto → Prop} (h : Q [] S) : AllR (mNil sd S) Q := .ok h
theorem AllR.lst {r : MA} {sd : SD} {S : Sto} {Q : D → Sto → Prop} (h : AllR (r sd S) fun l S1 => l.length ≤ 16777216 ∧ Q (.loc S1.n) (S1.new (.lst l))) : AllR (mLst r sd S) Q :=
  AllR.bind (h.mono fun l S1 ⟨h1, h2⟩ => by
    rw [if_pos h1]
    exact .ok h2)
theorem AllR.qe {P : Sto → D → Prop} {m : ME} {sd : SD} {S : Sto} {Q : D → Sto → Prop} (h : QE P m sd S) (f : ∀ d S', Ext S S' → P S' d → Q d S') : AllR (m sd S) Q := by
  obtain ⟨d, S2, e, x, p⟩ := h S Ext.refl
  exact AllR.of e (f d S2 x p)
theorem led1 {t : W.T} (ht : W.Nd t) : nf (ledR (fun x => (-1) * x + 0) t) = ledR (fun x => -x) t := by
  rw [ledR_congr (ψ := fun x => -x) (fun x => by omega)]
  exact nf_id (ledR_nf neg_inj' ht)
theorem mul_inj {m : Int} (hm : m ≠ 0) : ∀ x y : Int, x * m = y * m → x = y := fun x y q => Int.eq_of_mul_eq_mul_right hm q
theorem led2 {t : W.T} {m : Int} (hm : m ≠ 0) (ht : W.Nd t) : nf (ledR (fun x => m * x + 0) t) = ledR (fun x => x * m) t := by
  rw [ledR_congr (ψ := fun x => x * m) (fun x => by rw [Int.add_zero, Int.mul_comm])]
  exact nf_id (ledR_nf (mul_inj hm) ht)
theorem led3 {t : W.T} {m : Int} (ht : W.Nd t) : nf (ledR (fun x => 1 * x + m) t) = ledR (fun x => x + m) t := by
  rw [ledR_congr (ψ := fun x => x + m) (fun x => by omega)]
  exact nf_id (ledR_nf (fun x y h => by omega) ht)
theorem led_len {t : W.T} {φ : Int → Int} (h : t.length < 16777216) : (ledR φ t).length < 16777216 := by
  have := nf_len (mapK φ t)
  rw [mapK_len] at this
  exact Nat.lt_of_le_of_lt this h
theorem ie_7 {m : ME} {sd : SD} {S : Sto} {n : Int} (h : QE (isV (.int n)) m sd S) : QE (isV (.int (7 * n))) (mBin (binO [(15, m_Row_mul)] bMul) (mC (.int 7)) m) sd S := ie_mul (mulOk_1 (by decide)) qe_c h
def ShTail : MS := (sSeq (sIf (tOrM (tNotM (mTru (mCall m_Lis_row (mCons (mUn (atD [(15, .prop m_Row_turned)]) (mVar 3)) (mCons (mCall m_Lled (mCons (mVar 1) (mCons (mUn uNeg (mC (.int 1))) (mCons (mC (.int 0)) mNil)))) mNil))))) (tNotM (mTru (mCall m_Lis_row (mCons (mMethO [(15, m_Row_spread)] (mVar 3) (mCons (mVar 5) mNil)) (mCons (mCall m_Lled (mCons (mVar 1) (mCons (mVar 5) (mCons (mC (.int 0)) mNil)))) mNil)))))) (sRet (mC (.bl false))) sSkip)
  (sSeq (sIf (tOrM (tNotM (mTru (mCall m_Lis_row (mCons (mMethO [(15, m_Row_shifted)] (mVar 3) (mCons (mBin (binO [(15, m_Row_mul)] bMul) (mC (.int 7)) (mVar 5)) mNil)) (mCons (mCall m_Lled (mCons (mVar 1) (mCons (mC (.int 1)) (mCons (mBin (binO [(15, m_Row_mul)] bMul) (mC (.int 7)) (mVar 5)) mNil)))) mNil))))) (mTst (neO [(15, m_Row_eq)] eqts cNeG) (mUn (atD [(15, .prop m_Row_turned)]) (mUn (atD [(15, .prop m_Row_turned)]) (mVar 3))) (mVar 3))) (sRet (mC (.bl false))) sSkip)
  (sSeq (sIf (mTst (neO [(15, m_Row_eq)] eqts cNeG) (mUn (atD [(15, .prop m_Row_turned)]) (mBin (binO [(15, m_Row_mul)] bMul) (mVar 3) (mVar 4))) (mBin (binO [(15, m_Row_mul)] bMul) (mUn (atD [(15, .prop m_Row_turned)]) (mVar 3)) (mUn (atD [(15, .prop m_Row_turned)]) (mVar 4)))) (sRet (mC (.bl false))) sSkip)
  (sSeq (sIf (mTst (neO [(15, m_Row_eq)] eqts cNeG) (mMethO [(15, m_Row_spread)] (mBin (binO [(15, m_Row_add)] bAdd) (mVar 3) (mVar 4)) (mCons (mVar 5) mNil)) (mBin (binO [(15, m_Row_add)] bAdd) (mMethO [(15, m_Row_spread)] (mVar 3) (mCons (mVar 5) mNil)) (mMethO [(15, m_Row_spread)] (mVar 4) (mCons (mVar 5) mNil)))) (sRet (mC (.bl false))) sSkip)
  (sSeq (sSet 6 (mCall fSum (mCons (mLock (mVar 1) (mLc (mIt (mVar 1)) (.nm 7) tYesM (mIf (mTst cEqG (mBin bMod (mVar 7) (mC (.int 2))) (mC (.int 0))) (mBin (ixO [(15, m_Row_getitem)] ixG) (mVar 1) (mVar 7)) (mUn (unO [(15, m_Row_neg)] uNeg) (mBin (ixO [(15, m_Row_getitem)] ixG) (mVar 1) (mVar 7)))) [7])) mNil)))
  (sRet (mAndT (mBin cEqG (mLst (mCons (mMethO [(15, m_Row_at)] (mVar 3) (mCons (mC (.int 1)) mNil)) (mCons (mMethO [(15, m_Row_at)] (mVar 3) (mCons (mUn uNeg (mC (.int 1))) mNil)) mNil))) (mLst (mCons (mCall fSum (mCons (mUn fValues (mVar 1)) mNil)) (mCons (mVar 6) mNil)))) (mBin (eqO [(15, m_Row_eq)] eqts cEqG) (mMethO [(15, m_Row_raised)] (mVar 3) (mCons (mC (.int 0)) mNil)) (mCmeth 15 (mkK 2 0 g_Row_power_2 m_Row_power) (mCons (mC (.int 0)) mNil))))))))))
theorem sh_split : b_Lshapes_right = (sSeq (sPar3 3 4 5 (mCons (mCall (fun ds S => n_Row_init_2 ds [] S) (mCons (mVar 1) mNil)) (mCons (mCall (fun ds S => n_Row_init_2 ds [] S) (mCons (mVar 2) mNil)) (mCons (mCall m_Lpick (mCons (mVar 0) (mCons (mLst (mCons (mUn uNeg (mC (.int 3))) (mCons (mUn uNeg (mC (.int 2))) (mCons (mUn uNeg (mC (.int 1))) (mCons (mC (.int 1)) (mCons (mC (.int 2)) (mCons (mC (.int 5)) mNil))))))) mNil))) mNil))))
  ShTail) := rfl
theorem shapes_tail {t u : W.T} {S : Sto} {dd k : Nat} {d2 r1 r2 : D} {m : Int} (ht : W.NF t) (hu : W.NF u) (bt : Bk 1 t) (bu : Bk 1 u) (et : W.EB t 6) (eu : W.EB u 6) (hm : m ≠ 0) (hm2 : m.natAbs ≤ 5) (h1 : S.get k = some (.dct 0 (enc t))) (h2 : isRow t S r1) (h3 : isRow u S r2) :
    QR (isV (.bl true)) ShTail [some (.loc dd), some (.loc k), some d2, some r1, some r2, some (.int m), none, none] S := by
  unfold ShTail
  have hd : isDic t S (.loc k) := ⟨k, rfl, h1⟩
  have v1 : ∀ {S2 y z}, Ext S S2 → QE (isDic t) (mVar 1) [some (.loc dd), some (.loc k), some d2, some r1, some r2, some (.int m), y, z] S2 := fun x => qe_var (mono_dic _ _ _ x hd) mono_dic rfl
  have v3 : ∀ {S2 y z}, Ext S S2 → QE (isRow t) (mVar 3) [some (.loc dd), some (.loc k), some d2, some r1, some r2, some (.int m), y, z] S2 := fun x => qe_var (mono_row _ _ _ x h2) mono_row rfl
  have v4 : ∀ {S2 y z}, Ext S S2 → QE (isRow u) (mVar 4) [some (.loc dd), some (.loc k), some d2, some r1, some r2, some (.int m), y, z] S2 := fun x => qe_var (mono_row _ _ _ x h3) mono_row rfl
  have v5 : ∀ {S2 y z}, QE (isV (.int m)) (mVar 5) [some (.loc dd), some (.loc k), some d2, some r1, some r2, some (.int m), y, z] S2 := qe_var rfl mono_v rfl
  have er : Ext S S := Ext.refl
  have sm : m.natAbs < 18446744073709551616 := by omega
  have lt := bt.l (by decide)
  have sp : ∀ {i : Nat} {w : W.T}, Bk i w → i ≤ 6 → F2 (isRow w) (isV (.int m)) (isRow (ledR (fun x => x * m) w)) m_Row_spread := fun hb hi => spread_ok hm (by omega) hb hi
  have ms : ∀ x : Int, x.natAbs ≤ 6 → (x * m).natAbs ≤ 30 := fun x hx => by
    rw [Int.natAbs_mul]
    exact Nat.le_trans (Nat.mul_le_mul hx hm2) (by decide)
  have bsp : ∀ {w : W.T}, Bk 1 w → W.EB w 6 → Bk 2 (ledR (fun x => x * m) w) := fun hb he => led_bk (mul_inj hm) hb he (by decide) ms (by decide)
  have btr : ∀ {w : W.T}, Bk 1 w → Bk 1 (ledR (fun x => -x) w) := fun hb => led_bk neg_inj' hb hb.eb (by decide) (fun x hx => by rw [Int.natAbs_neg]; exact hx) (by decide)
  refine qr_iff (qt_orf (qt_not (b := true) (qt_tru (qe_call2 (is_row_ok (u := ledR (fun x => (-1) * x + 0) t) (ledR_nf (fun x y h => by omega) bt.nd).nd (led_len lt) (led1 bt.nd)) mono_row (re_prop (turned_ok bt (by decide)) (v3 er)) (qe_call3 (Lled_ok (a := -1) (b := 0) (fun x y h => by omega) (by decide) bt.nd lt) mono_dic mono_v (v1 er) ie_m1 qe_c))))
    (qt_not (b := true) (qt_tru (qe_call2 (is_row_ok (u := ledR (fun x => m * x + 0) t) (ledR_nf (fun x y h => mul_inj hm x y (by rw [Int.mul_comm x, Int.mul_comm y]; omega)) bt.nd).nd (led_len lt) (led2 hm bt.nd)) mono_row (re_meth (sp bt (by decide)) (v3 er) v5) (qe_call3 (Lled_ok (a := m) (b := 0) (fun x y h => mul_inj hm x y (by rw [Int.mul_comm x, Int.mul_comm y]; omega)) sm bt.nd lt) mono_dic mono_v (v1 er) v5 qe_c))))) ?_
  refine qr_iff (qt_orf (qt_not (b := true) (qt_tru (qe_call2 (is_row_ok (u := ledR (fun x => 1 * x + 7 * m) t) (ledR_nf (fun x y h => by omega) bt.nd).nd (led_len lt) (led3 bt.nd)) mono_row (re_meth (shifted_ok (m := 7 * m) (by omega) bt (by decide)) (v3 er) (ie_7 v5)) (qe_call3 (Lled_ok (a := 1) (b := 7 * m) (fun x y h => by omega) (by decide) bt.nd lt) mono_dic mono_v (v1 er) qe_c (ie_7 v5)))))
    (re_ne (by rw [led_led ht]; exact bt.nd) (led_led ht).symm (re_prop (turned_ok (btr bt) (by decide)) (re_prop (turned_ok bt (by decide)) (v3 er))) (v3 er))) ?_
  refine qr_iff (re_ne (ledR_nf neg_inj' mulR_nf.nd).nd (led_mul bt.nd bu.nd).symm (re_prop (turned_ok (bt.mul bu) (by decide)) (re_mul bt bu (by decide) (v3 er) (re_op (v4 er)))) (re_mul (btr bt) (btr bu) (by decide) (re_prop (turned_ok bt (by decide)) (v3 er)) (re_op (re_prop (turned_ok bu (by decide)) (v4 er))))) ?_
  refine qr_iff (re_ne (ledR_nf (mul_inj hm) (addR_nf bt.nd).nd).nd (led_add (mul_inj hm) bt.nd bu.nd).symm (re_meth (sp (bt.add bu (by decide)) (by decide)) (re_add bt bu (by decide) (v3 er) (re_op (v4 er))) v5) (re_add (bsp bt et) (bsp bu eu) (by decide) (re_meth (sp bt (by decide)) (v3 er) v5) (re_op (re_meth (sp bu (by decide)) (v4 er) v5)))) ?_
  refine qr_set (P' := isV (.int (W.tot (sg (-1)) t))) (fun S1 x => ?_) fun z S2 x2 pz => ?_
  · obtain ⟨S', e, x'⟩ := signs_ok (w := []) (d0 := some (.loc dd)) (d1 := some d2) (d2 := some r1) (d3 := some r2) (d4 := some (.int m)) (d5 := none) bt.nd lt (x _ _ h1)
    exact ⟨_, S', e, x', rfl⟩
  · cases pz
    show QR _ _ [some (.loc dd), some (.loc k), some d2, some r1, some r2, some (.int m), some (.int (W.tot (sg (-1)) t)), none] S2
    have e01 : nf [(0, 1)] = powR t 0 := by
      show nf [(0, 1)] = [(0, 1)]
      decide
    refine qr_ret (qe_andt (re_eq2 (re_two (re_at (.inl rfl) bt (by decide) (v3 x2) qe_c) (re_at (.inr rfl) bt (by decide) (v3 x2) ie_m1)) (re_two (re_values (v1 x2)) (qe_var rfl mono_v rfl))) (re_eq (powR_nf t 0).nd e01 (re_meth (raised_ok (n := 0) bt (by decide)) (v3 x2) qe_c) (re_pow (e := 0) (by decide) qe_c)))
theorem shapes_ok {t u : W.T} {S : Sto} {dd : Nat} {d1 d2 : D} (ht : W.NF t) (hu : W.NF u) (bt : Bk 1 t) (bu : Bk 1 u) (et : W.EB t 6) (eu : W.EB u 6) (hd : S.get dd = some .dice) (h1 : isDic t S d1) (h2 : isDic u S d2) : AllR (m_Lshapes_right [.loc dd, d1, d2] S) fun v S' => v = .bl true ∧ Ext S S' := by
  refine AllR.mk rfl ?_
  rw [sh_split]
  obtain ⟨k, rfl, hk⟩ := id h1
  show AllS (sSeq _ _ [some (.loc dd), some (.loc k), some d2, none, none, none, none, none] S) _ _
  refine AllS.andThen (AllS.bind (AllR.cons (AllR.qe (qe_call1 (row_new ht bt (by decide)) (qe_var h1 mono_dic rfl)) fun r1 S1 x1 p1 => AllR.cons (AllR.qe (qe_call1 (row_new hu bu (by decide)) (qe_var (mono_dic _ _ _ x1 h2) mono_dic rfl)) fun r2 S2 x2 p2 => AllR.cons (AllR.bind (AllR.cons (.ok (AllR.cons (AllR.lst (.ok ⟨by decide, AllR.nil ?_⟩))))))))))
  have hd2 := x2 _ _ (x1 _ _ hd)
  refine pick_ok (l := [-3, -2, -1, 1, 2, 5]) (Ext.new _ _ hd2) Sto.get_new_self (by decide) (by decide) fun m hmm => AllR.nil (.nx ?_)
  have hm : m ≠ 0 ∧ m.natAbs ≤ 5 := by
    have : m = -3 ∨ m = -2 ∨ m = -1 ∨ m = 1 ∨ m = 2 ∨ m = 5 := by simpa using hmm
    rcases this with rfl | rfl | rfl | rfl | rfl | rfl <;> decide
  have x3 : Ext S2 (S2.new (.lst ([-3, -2, -1, 1, 2, 5].map D.int))) := Ext.new
  refine allS_of_qr (shapes_tail ht hu bt bu et eu hm.1 hm.2 (x3 _ _ (x2 _ _ (x1 _ _ hk))) (mono_row _ _ _ x3 (mono_row _ _ _ x2 p1)) (mono_row _ _ _ x3 p2)) fun d S' x' p => ⟨p, ((x1.trans x2).trans x3).trans x'⟩
end K03

namespace K03
open PySem PySem.Spec PyProof.Rows L2 Y
theorem nrm_put {t : W.T} {e c : Int} (hn : W.Nd t) : W.nrm (W.put t e c) ≤ W.nrm t + c.natAbs := by
  unfold W.put
  split
  · rename_i ha
    have := W.nrm_rep e c hn ha
    omega
  · rw [W.nrm_app]
    simp [W.nrm]
def Good (S : Sto) (y : D) : Prop := ∃ t, isDic t S y ∧ W.NF t ∧ Bk 1 t ∧ W.EB t 6
theorem Good.ext {S S' : Sto} {y : D} (x : Ext S S') (h : Good S y) : Good S' y := let ⟨t, a, b⟩ := h; ⟨t, mono_dic _ _ _ x a, b⟩
theorem drawn_row_ok {S : Sto} {dd : Nat} {tm : Int} (hd : S.get dd = some .dice) (hm : tm = 5 ∨ tm = 4) : AllR (m_Ldrawn_row [.loc dd, .int tm, .int 6] S) fun y S' => Ext S S' ∧ Good S' y := by
  refine AllR.mk rfl ?_
  unfold b_Ldrawn_row
  refine AllS.andThen (AllS.ofn (sSet_ok (rfl : mDct0 _ S = .ok (.loc S.n) (S.new (.dct 0 [])))) ?_)
  show AllS (sSeq _ _ [some (.loc dd), some (.int tm), some (.int 6), some (.loc S.n), none, none] (S.new (.dct 0 []))) _ _
  have hdl := Sto.get_lt hd
  have hd1 : (S.new (.dct 0 [])).get dd = some .dice := Ext.new _ _ hd
  refine AllS.andThen ((for_rng (B := 6) (R := fun i sd S' => (∃ x y, sd = [some (.loc dd), some (.int tm), some (.int 6), some (.loc S.n), x, y]) ∧ Off S.n (S.new (.dct 0 [])) S' ∧ ∃ t, S'.get S.n = some (.dct 0 (enc t)) ∧ W.Nd t ∧ t.length ≤ i ∧ W.EB t 6 ∧ W.nrm t ≤ i * 10 ^ 22) ?a1 (by decide) ?a2).mono ?a3 fun _ _ h => h)
  case a1 =>
    have e21 : (mBin (binO [(15, m_Row_add)] bAdd) (mVar 1) (mC (.int 1))) [some (.loc dd), some (.int tm), some (.int 6), some (.loc S.n), none, none] (S.new (.dct 0 [])) = .ok (.int (tm + 1)) (S.new (.dct 0 [])) := by
      rcases hm with rfl | rfl <;> rfl
    refine AllR.bind (roll_e (t := tm + 1) hd1 (by omega) (by rcases hm with rfl | rfl <;> decide +kernel) rfl e21 fun r hr => .ok ⟨r, rfl, by omega, ⟨_, _, rfl⟩, Off.refl, [], Sto.get_new_self, nd_nil, Nat.zero_le _, (by intro p hp; cases hp), by simp [W.nrm]⟩)
  case a2 =>
    rintro i sd S1 hi ⟨⟨x, y, rfl⟩, ho, t, ht, hn, hl, he, hr⟩
    have hd2 : S1.get dd = some .dice := by rw [ho.c dd (by omega)]; exact hd1
    refine ⟨_, rfl, ?_⟩
    show AllS (sSeq _ _ [some (.loc dd), some (.int tm), some (.int 6), some (.loc S.n), some (.int i), y] S1) _ _
    refine AllS.andThen (AllS.bind (AllR.mono (P := fun v S2 => S2 = S1 ∧ ∃ c : Int, v = .int c ∧ c.natAbs ≤ 10 ^ 22) ?b1 ?b2))
    case b1 =>
      unfold mIf
      refine AllR.bind (AllR.bind (AllR.bind (roll_e (t := 5) hd2 (by decide) (by decide +kernel) rfl rfl fun r hr => .ok (.ok ?_))))
      split
      · refine AllR.bind (roll_e (t := 19) hd2 (by decide) (by decide +kernel) rfl rfl fun r hr => .ok ⟨rfl, (r : Int) - 9, rfl, by omega⟩)
      · refine AllR.bind (AllR.bind (roll_e (t := 10 ^ 12) hd2 (by decide) (by decide +kernel) rfl rfl fun r hr => AllR.bind (AllR.of (a := .int (10 ^ 9)) (S := S1) rfl ?_)))
        have hr : (r : Int) < 1000000000000 := hr
        refine AllR.of (a := .int ((r : Int) * 10 ^ 9)) (S := S1) ?_ (AllR.of (a := .int ((r : Int) * 10 ^ 9 - 7)) (S := S1) rfl ⟨rfl, (r : Int) * 10 ^ 9 - 7, rfl, by omega⟩)
        show bMul (.int r) (.int (10 ^ 9)) S1 = _
        simp only [bMul]
        rw [if_pos (mulOk_1 (by omega))]
    case b2 =>
      rintro v S2 ⟨rfl, c, rfl, hc⟩
      refine .nx ?_
      show AllS (sStI stI _ _ _ [some (.loc dd), some (.int tm), some (.int 6), some (.loc S.n), some (.int i), some (.int c)] S2) _ _
      unfold sStI
      refine AllS.bind (.ok (AllS.bind (.ok (AllS.bind ?_))))
      have e21 : (mBin (binO [(15, m_Row_add)] bAdd) (mBin (binO [(15, m_Row_mul)] bMul) (mC (.int 2)) (mVar 2)) (mC (.int 1))) [some (.loc dd), some (.int tm), some (.int 6), some (.loc S.n), some (.int i), some (.int c)] S2 = .ok (.int 13) S2 := rfl
      refine AllR.bind (roll_e (t := 13) hd2 (by decide) (by decide +kernel) rfl e21 fun r hrr => .ok ?_)
      have es : stI (.loc S.n) (.int ((r : Int) - 6)) (.int c) S2 = some (S2.set S.n (.dct 0 (enc (W.put t ((r : Int) - 6) c)))) := stI_enc ht (by omega)
      show AllS (match stI (.loc S.n) (.int ((r : Int) - 6)) (.int c) S2 with
        | some S4 => SRes.nx _ S4
        | none => .stuck) _ _
      rw [es]
      refine .nx ⟨⟨_, _, rfl⟩, ho.trans Off.set, _, Sto.get_set_self ht, W.nd_put _ _ hn, Nat.le_trans (W.len_put ..) (by omega), W.eb_put he (by omega), ?_⟩
      have := nrm_put (e := (r : Int) - 6) (c := c) hn
      rw [Nat.succ_mul]
      omega
  case a3 =>
    rintro sd S1 ⟨n, hn6, ⟨x, y, rfl⟩, ho, t, ht, hn, hl, he, hr⟩
    have b : Bk 1 t := ⟨hn, Nat.le_refl _, Nat.le_trans hl (Nat.le_trans hn6 (by decide)), eb_mono he (by decide), Nat.le_trans hr (Nat.le_trans (Nat.mul_le_mul_right _ hn6) (by decide))⟩
    obtain ⟨r, S2, e2, x2, g2⟩ := Lrow_ok ht hn (b.l (by decide))
    have e3 : mCall m_Lrow (mCons (mVar 3) mNil) [some (.loc dd), some (.int tm), some (.int 6), some (.loc S.n), x, y] S1 = .ok (.loc r) S2 := e2
    refine AllS.bind (AllR.of e3 (.rt ⟨(Off.ext ho).trans x2, nf t, ⟨r, rfl, g2⟩, nf_nf hn, b.nf, nf_eb he⟩))
/-- rows that may be divided -/
theorem dv1 {t : W.T} (h : W.NF t) (b : Bk 1 t) (e : W.EB t 6) : Dv t := ⟨h, eb_mono e (by decide), Nat.le_trans b.len (by decide), Nat.lt_of_le_of_lt b.nr (by decide)⟩
theorem dv2 {t u : W.T} (b : Bk 1 t) (b' : Bk 1 u) : Dv (mulR t u) := by
  have h := b.mul b'
  exact ⟨mulR_nf, h.eb, Nat.le_trans h.len (by decide), Nat.lt_of_le_of_lt h.nr (by decide)⟩
theorem dv3 {t u v : W.T} (b : Bk 1 t) (b' : Bk 1 u) (hv : W.Nd v) (ev : W.EB v 40) (lv : v.length ≤ 2) (nv : W.nrm v ≤ 10) : Dv (addR (mulR t u) v 1) := by
  have h := b.mul b'
  obtain ⟨a1, a2, a3, a4, a5⟩ := W.summed_ok 1 v h.nd
  refine ⟨addR_nf h.nd, nf_eb (a5 40 h.eb ev), ?_, ?_⟩
  · have := nf_len (W.summed (mulR t u) v 1)
    have h3 := h.len
    have h4 : (12 : Nat) ^ (1 + 1) = 144 := rfl
    unfold addR
    omega
  · have := nf_nrm a1
    have h3 := h.nr
    have h4 : (10 : Nat) ^ (25 * (1 + 1)) + 10 < 10 ^ 59 := by decide
    have h5 : (1 : Int).natAbs = 1 := rfl
    rw [h5] at a3
    unfold addR
    omega
theorem disp_all {mk mv : ME} {sd : SD} {S : Sto} {Q : D → Sto → Prop} (h : AllR (mk sd (S.new (.dct 0 []))) fun kd S1 => AllR (mv sd S1) fun vd S2 => ∃ a b : Int, kd = .int a ∧ vd = .int b ∧ S2.get S.n = some (.dct 0 []) ∧ Q (.loc S.n) (S2.set S.n (.dct 0 (enc [(a, b)])))) : AllR (mDisp [(mk, mv)] sd S) Q := by
  unfold mDisp
  refine AllR.bind ?_
  show AllR ((mk sd (S.new (.dct 0 []))).bind fun kd S1 => (mv sd S1).bind fun vd S2 => (mPairs [] sd S2).bind fun ps S3 => .ok ((kd, vd) :: ps) S3) _
  refine AllR.bind (h.mono fun kd S1 h1 => AllR.bind (h1.mono fun vd S2 ⟨a, b, e1, e2, g, q⟩ => ?_))
  subst e1
  subst e2
  show AllR (Res.ok [(D.int a, D.int b)] S2) _
  refine .ok ?_
  have gz : isDct0 (.loc S.n) S2 = true := by simp only [isDct0, g]
  rw [gz]
  exact .ok q
theorem set_ext' {S0 S : Sto} {c c' : Cell} (h : Ext (S0.new c) S) : Ext S0 (S.set S0.n c') := fun j x hj => by
  have := Sto.get_lt hj
  rw [Sto.get_set_ne (by omega)]
  exact h _ _ (Ext.new _ _ hj)
theorem mono_good : Mono Good := fun _ _ _ x h => h.ext x
def isDv : Sto → D → Prop := fun S y => ∃ t, isDic t S y ∧ Dv t
theorem mono_dv : Mono isDv := fun _ _ _ x ⟨t, a, b⟩ => ⟨t, mono_dic _ _ _ x a, b⟩
theorem qright : F2 isDv isDv (isV (.bl true)) m_Lquotient_right := fun S d d' ⟨t, a, b⟩ ⟨t', a', b'⟩ => quotient_right_ok b b' S d d' a a'
end K03

namespace K03
open PySem PySem.Spec PyProof.Rows L2 Y
/-- the three quotients -/
theorem quots_ok {S : Sto} {d1 d2 d3 d4 : D} {dd : Nat} (h1 : isDv S d1) (h2 : isDv S d2) (h3 : isDv S d3) (h4 : isDv S d4) :
    ∃ x5 S', (sFor (mIt (mTup (mCons (mVar 3) (mCons (mVar 4) (mCons (mVar 1) mNil))))) (.nm 5) (sIf (tOrM (tNotM (mTru (mCall m_Lquotient_right (mCons (mVar 5) (mCons (mVar 2) mNil))))) (tNotM (mTru (mCall m_Lquotient_right (mCons (mVar 5) (mCons (mVar 1) mNil)))))) (sRet (mC (.bl false))) sSkip)) [some (.loc dd), some d1, some d2, some d3, some d4, none, none, none, none, none, none] S = .nx [some (.loc dd), some d1, some d2, some d3, some d4, x5, none, none, none, none, none] S' ∧ Ext S S' := by
  have v3 : mVar 3 [some (.loc dd), some d1, some d2, some d3, some d4, none, none, none, none, none, none] S = .ok d3 S := rfl
  have v4 : mVar 4 [some (.loc dd), some d1, some d2, some d3, some d4, none, none, none, none, none, none] S = .ok d4 S := rfl
  have v1 : mVar 1 [some (.loc dd), some d1, some d2, some d3, some d4, none, none, none, none, none, none] S = .ok d1 S := rfl
  have em : mIt (mTup (mCons (mVar 3) (mCons (mVar 4) (mCons (mVar 1) mNil)))) [some (.loc dd), some d1, some d2, some d3, some d4, none, none, none, none, none, none] S = .ok (.tup [d3, d4, d1]) S := by
    unfold mIt
    rw [mTup_ok (mCons_ok v3 (mCons_ok v4 (mCons_ok v1 mNil_ok))) (by simp)]
    rfl
  obtain ⟨sd', S', e, x5, rfl, x⟩ := forLoop_det (u := [d3, d4, d1]) (it := .tup [d3, d4, d1]) (g := fun y => y) (tg := .nm 5) (b := (sIf (tOrM (tNotM (mTru (mCall m_Lquotient_right (mCons (mVar 5) (mCons (mVar 2) mNil))))) (tNotM (mTru (mCall m_Lquotient_right (mCons (mVar 5) (mCons (mVar 1) mNil)))))) (sRet (mC (.bl false))) sSkip)) (R := fun pre sd S' => ∃ x5, sd = [some (.loc dd), some d1, some d2, some d3, some d4, x5, none, none, none, none, none] ∧ Ext S S')
    (fun pre sd S _ i => by simp [itNext]) (fun pre p post sd S1 hu ⟨x5, e, x1⟩ => by
      subst e
      have hp : isDv S1 p := by
        have : p ∈ [d3, d4, d1] := by rw [hu]; simp
        have : p = d3 ∨ p = d4 ∨ p = d1 := by simpa using this
        rcases this with rfl | rfl | rfl
        · exact mono_dv _ _ _ x1 h3
        · exact mono_dv _ _ _ x1 h4
        · exact mono_dv _ _ _ x1 h1
      have q : QT false (tOrM (tNotM (mTru (mCall m_Lquotient_right (mCons (mVar 5) (mCons (mVar 2) mNil))))) (tNotM (mTru (mCall m_Lquotient_right (mCons (mVar 5) (mCons (mVar 1) mNil)))))) [some (.loc dd), some d1, some d2, some d3, some d4, some p, none, none, none, none, none] S1 :=
        qt_orf (qt_not (b := true) (qt_tru (qe_call2 qright mono_dv (qe_var hp mono_dv rfl) (qe_var (mono_dv _ _ _ x1 h2) mono_dv rfl)))) (qt_not (b := true) (qt_tru (qe_call2 qright mono_dv (qe_var hp mono_dv rfl) (qe_var (mono_dv _ _ _ x1 h1) mono_dv rfl))))
      obtain ⟨S2, e2, x2⟩ := q S1 Ext.refl
      exact ⟨_, _, S2, rfl, (sIf_f e2).trans rfl, some p, rfl, x1.trans x2⟩) [d3, d4, d1] [] 4 _ S rfl (by simp) ⟨none, rfl, Ext.refl⟩
  refine ⟨x5, S', ?_, x⟩
  unfold sFor
  rw [em]
  exact e
theorem last_ok {S : Sto} {d0 d1 d2 d3 d4 d5 d6 : Option D} {e s : Int} {c : Nat} {pw : D} (hs : s = 1 ∨ s = -1) (he : e.natAbs ≤ 10) (hc : c < 90) (hp : isRow (one e s) S pw) :
    QR (isV (.bl true)) (sRet (mAndT (mBin (eqO [(15, m_Row_eq)] eqts cEqG) (mBin (binO [(15, m_Row_mul)] bMul) (mMethO [(15, m_Row_raised)] (mVar 9) (mCons (mUn (unO [(15, m_Row_neg)] uNeg) (mVar 10)) mNil)) (mMethO [(15, m_Row_raised)] (mVar 9) (mCons (mVar 10) mNil))) (mCmeth 15 (mkK 2 0 g_Row_power_2 m_Row_power) (mCons (mC (.int 0)) mNil))) (mBin (eqO [(15, m_Row_eq)] eqts cEqG) (mUn (atD [(15, .prop m_Row_low)]) (mMethO [(15, m_Row_raised)] (mVar 9) (mCons (mUn (unO [(15, m_Row_neg)] uNeg) (mVar 10)) mNil))) (mBin (binO [(15, m_Row_mul)] bMul) (mUn (unO [(15, m_Row_neg)] uNeg) (mVar 7)) (mVar 10))))) [d0, d1, d2, d3, d4, d5, d6, some (.int e), some (.int s), some pw, some (.int (c : Int))] S := by
  have v9 : QE (isRow (one e s)) (mVar 9) [d0, d1, d2, d3, d4, d5, d6, some (.int e), some (.int s), some pw, some (.int (c : Int))] S := qe_var hp mono_row rfl
  have v10 : QE (isV (.int c)) (mVar 10) [d0, d1, d2, d3, d4, d5, d6, some (.int e), some (.int s), some pw, some (.int (c : Int))] S := qe_var rfl mono_v rfl
  have n10 : QE (isV (.int (-(c : Int)))) (mUn (unO [(15, m_Row_neg)] uNeg) (mVar 10)) [d0, d1, d2, d3, d4, d5, d6, some (.int e), some (.int s), some pw, some (.int (c : Int))] S := qe_pure fun S1 _ => rfl
  have n7 : QE (isV (.int (-e))) (mUn (unO [(15, m_Row_neg)] uNeg) (mVar 7)) [d0, d1, d2, d3, d4, d5, d6, some (.int e), some (.int s), some pw, some (.int (c : Int))] S := qe_pure fun S1 _ => rfl
  have rm := re_meth (raised_one (n := -(c : Int)) hs he (by omega)) v9 n10
  have rp := re_meth (raised_one (n := (c : Int)) hs he (by omega)) v9 v10
  have a1 : (-(c : Int)).natAbs = c := by omega
  have a2 : (c : Int).natAbs = c := by omega
  rw [a1] at rm
  rw [a2] at rp
  have hbb : ∀ z : Int, z.natAbs ≤ 90 → (e * z).natAbs ≤ 900 := fun z hz => by
    rw [Int.natAbs_mul]
    exact Nat.le_trans (Nat.mul_le_mul he hz) (by decide)
  have pm : pws s c * pws s c = 1 := by rcases pws_abs hs c with h | h <;> rw [h] <;> rfl
  have em : e * -(c : Int) + e * (c : Int) = 0 := by rw [Int.mul_neg]; omega
  have mm := qe_bin (bin_row (base := bMul) (ones_mul (M := 900) (K := 900) (pws_abs hs c) (pws_abs hs c) (hbb _ (by omega)) (hbb _ (by omega)) (by decide))) mono_row rm (re_op rp)
  rw [em, pm] at mm
  have e01 : nf [(0, 1)] = one 0 1 := by decide
  refine qr_ret (qe_andt (re_eq (one_nf (by decide)).nd e01 mm (re_pow (e := 0) (by decide) qe_c)) (ie_eq ?_ (re_prop low_one rm) (ie_mul (mulOk_1 (by omega)) n7 v10)))
  rw [Int.mul_neg, Int.neg_mul]
theorem right_ok {S : Sto} {dd : Nat} (hd : S.get dd = some .dice) : AllR (m_Lright [.loc dd] S) fun v S' => v = .bl true ∧ Ext S S' := by
  refine AllR.mk rfl ?_
  unfold b_Lright
  show AllS (sSeq _ _ [some (.loc dd), none, none, none, none, none, none, none, none, none, none] S) _ _
  -- the rows
  refine AllS.andThen (AllS.bind (AllR.cons (AllR.bind (AllR.cons (.ok (AllR.cons (.ok (AllR.cons (.ok (AllR.nil ?_))))))))))
  refine (drawn_row_ok hd (.inl rfl)).mono fun d1 S1 ⟨x1, g1⟩ => ?_
  refine AllR.cons (AllR.bind (AllR.cons (.ok (AllR.cons (.ok (AllR.cons (.ok (AllR.nil ?_))))))))
  have hd1 := x1 _ _ hd
  refine (drawn_row_ok hd1 (.inr rfl)).mono fun d2 S2 ⟨x2, g2⟩ => AllR.nil (.nx ?_)
  have hd2 := x2 _ _ hd1
  obtain ⟨t, i1, nt, bt, et⟩ := g1.ext x2
  obtain ⟨u, i2, nu, bu, eu⟩ := g2
  show AllS (sSeq _ _ [some (.loc dd), some d1, some d2, none, none, none, none, none, none, none, none] S2) _ _
  -- the product
  refine AllS.andThen (AllS.bind (AllR.qe (qe_call2 (f_times bt bu (by decide)) mono_dic (qe_var i1 mono_dic rfl) (qe_var i2 mono_dic rfl)) fun d3 S3 x3 i3 => .nx ?_))
  show AllS (sSeq _ _ [some (.loc dd), some d1, some d2, some d3, none, none, none, none, none, none, none] S3) _ _
  have hd3 := x3 _ _ hd2
  -- near it
  refine AllS.andThen (AllS.bind (AllR.bind (AllR.cons (.ok (AllR.cons (disp_all ?_))))))
  have hd4 : (S3.new (.dct 0 [])).get dd = some .dice := Ext.new _ _ hd3
  refine AllR.bind (roll_e (t := 13) hd4 (by decide) (by decide +kernel) rfl rfl fun r hr => AllR.bind (.ok (AllR.of (a := .int ((r : Int) - 6)) rfl ?_)))
  refine AllR.bind (AllR.cons (.ok (AllR.cons (AllR.lst (.ok ⟨by decide, AllR.nil ?_⟩)))))
  refine pick_ok (l := [1, -1, 2]) (Ext.new _ _ hd4) Sto.get_new_self (by decide) (by decide) fun c hc => ⟨(r : Int) - 6, c, rfl, rfl, Ext.new _ _ Sto.get_new_self, AllR.cons (.ok (AllR.nil ?_))⟩
  have hc2 : c.natAbs ≤ 2 := by
    have : c = 1 ∨ c = -1 ∨ c = 2 := by simpa using hc
    rcases this with rfl | rfl | rfl <;> decide
  have x4 : Ext S3 (((S3.new (.dct 0 [])).new (.lst ([1, -1, 2].map D.int))).set S3.n (.dct 0 (enc [((r : Int) - 6, c)]))) := set_ext' Ext.new
  have gk : (((S3.new (.dct 0 [])).new (.lst ([1, -1, 2].map D.int))).set S3.n (.dct 0 (enc [((r : Int) - 6, c)]))).get S3.n = some (.dct 0 (enc [((r : Int) - 6, c)])) := Sto.get_set_self (Ext.new _ _ Sto.get_new_self)
  generalize hS4 : ((S3.new (.dct 0 [])).new (.lst ([1, -1, 2].map D.int))).set S3.n (.dct 0 (enc [((r : Int) - 6, c)])) = S4 at x4 gk
  have nv : W.Nd [((r : Int) - 6, c)] := by simp [W.Nd]
  have ev : W.EB [((r : Int) - 6, c)] 6 := fun p hp => by
    have : p = ((r : Int) - 6, c) := by simpa using hp
    rw [this]
    show ((r : Int) - 6).natAbs ≤ 6
    omega
  have bv : Bk 1 [((r : Int) - 6, c)] := ⟨nv, Nat.le_refl _, by simp, eb_mono ev (by decide), by
    have : W.nrm [((r : Int) - 6, c)] = c.natAbs := by simp [W.nrm]
    rw [this]
    exact Nat.le_trans hc2 (by decide)⟩
  obtain ⟨d4, S5, e5, x5, i4⟩ := f_added (m := 1) (bt.mul bu) bv (by decide) (by decide) S4 d3 (.loc S3.n) (.int 1) (mono_dic _ _ _ x4 i3) ⟨_, rfl, gk⟩ rfl
  refine AllR.of e5 (.nx ?_)
  show AllS (sSeq _ _ [some (.loc dd), some d1, some d2, some d3, some d4, none, none, none, none, none, none] S5) _ _
  have x25 : Ext S2 S5 := (x3.trans x4).trans x5
  have x35 : Ext S3 S5 := x4.trans x5
  have hd5 := x25 _ _ hd2
  -- quotients
  obtain ⟨y5, S6, e6, x6⟩ := quots_ok (S := S5) (d1 := d1) (d2 := d2) (d3 := d3) (d4 := d4) (dd := dd) ⟨t, mono_dic _ _ _ x25 i1, dv1 nt bt et⟩ ⟨u, mono_dic _ _ _ x25 i2, dv1 nu bu eu⟩ ⟨_, mono_dic _ _ _ x35 i3, dv2 bt bu⟩ ⟨_, i4, dv3 bt bu nv (eb_mono ev (by decide)) (by simp) (by
    have : W.nrm [((r : Int) - 6, c)] = c.natAbs := by simp [W.nrm]
    omega)⟩
  refine AllS.andThen (AllS.ofn e6 ?_)
  show AllS (sSeq _ _ [some (.loc dd), some d1, some d2, some d3, some d4, y5, none, none, none, none, none] S6) _ _
  have hd6 := x6 _ _ hd5
  -- powers, shapes
  refine AllS.andThen (AllS.bind (roll_e (t := 4) hd6 (by decide) (by decide +kernel) rfl rfl fun n hn => .nx ?_))
  show AllS (sSeq _ _ [some (.loc dd), some d1, some d2, some d3, some d4, y5, some (.int n), none, none, none, none] S6) _ _
  have i16 : isDic t S6 d1 := mono_dic _ _ _ (x25.trans x6) i1
  have i26 : isDic u S6 d2 := mono_dic _ _ _ (x25.trans x6) i2
  have v1 : QE (isDic t) (mVar 1) [some (.loc dd), some d1, some d2, some d3, some d4, y5, some (.int (n : Int)), none, none, none, none] S6 := qe_var i16 mono_dic rfl
  have v6 : QE (isV (.int (n : Int))) (mVar 6) [some (.loc dd), some d1, some d2, some d3, some d4, y5, some (.int (n : Int)), none, none, none, none] S6 := qe_var rfl mono_v rfl
  have bp : Bk (n + 1) (powR t n) := powR_bk bt n
  obtain ⟨S7, e7, x7⟩ := qt_not (b := true) (qt_tru (qe_call2 (f_is_row (powR_nf t n) bp (by omega)) mono_row (re_meth (raised_ok bt (n := n) (by omega)) (qe_call1 (row_new nt bt (by decide)) v1) v6) (qe_call2 (Lraised_ok (n := n) bt (by omega)) mono_dic v1 v6))) S6 Ext.refl
  refine AllS.andThen (AllS.bind ?_)
  unfold tOrM
  rw [e7]
  simp only [bind_ok, Bool.not_true, Bool.false_eq_true, if_false]
  refine AllR.bind (AllR.bind (AllR.bind (AllR.cons (.ok (AllR.cons (.ok (AllR.cons (.ok (AllR.nil ?_)))))))))
  refine (shapes_ok nt nu bt bu et eu (x7 _ _ hd6) (mono_dic _ _ _ x7 i16) (mono_dic _ _ _ x7 i26)).mono fun v S8 ⟨ev8, x8⟩ => ?_
  subst ev8
  refine .ok (.ok ?_)
  show AllS (sSkip _ S8) _ _
  refine .nx ?_
  show AllS (sSeq _ _ [some (.loc dd), some d1, some d2, some d3, some d4, y5, some (.int n), none, none, none, none] S8) _ _
  have hd8 := x8 _ _ (x7 _ _ hd6)
  -- a power of x
  refine AllS.andThen (AllS.bind (AllR.cons (AllR.bind (roll_e (t := 21) hd8 (by decide) (by decide +kernel) rfl rfl fun r2 hr2 => AllR.bind (.ok (AllR.of (a := .int ((r2 : Int) - 10)) rfl ?_))))))
  refine AllR.cons (AllR.bind (AllR.cons (.ok (AllR.cons (AllR.lst (.ok ⟨by decide, AllR.nil ?_⟩))))))
  refine pick_ok (l := [1, -1]) (Ext.new _ _ hd8) Sto.get_new_self (by decide) (by decide) fun s hs => AllR.nil (.nx ?_)
  have hs2 : s = 1 ∨ s = -1 := by simpa using hs
  have x9 : Ext S8 (S8.new (.lst ([1, -1].map D.int))) := Ext.new
  have hd9 := x9 _ _ hd8
  generalize S8.new (.lst ([1, -1].map D.int)) = S9 at x9 hd9
  show AllS (sSeq _ _ [some (.loc dd), some d1, some d2, some d3, some d4, y5, some (.int n), some (.int ((r2 : Int) - 10)), some (.int s), none, none] S9) _ _
  have he : ((r2 : Int) - 10).natAbs ≤ 10 := by omega
  have hs60 : s.natAbs < 10 ^ 60 := by rcases hs2 with rfl | rfl <;> decide
  have eone : nf [((r2 : Int) - 10, s)] = one ((r2 : Int) - 10) s := nf_id (one_nf (one_ne hs2))
  refine AllS.andThen (AllS.bind (AllR.cons (AllR.qe (re_powK (e := (r2 : Int) - 10) (s := s) (by omega) hs60 (qe_var rfl mono_v rfl) (qe_var rfl mono_v rfl)) fun pw S10 x10 ip => AllR.cons ?_)))
  rw [eone] at ip
  refine roll_e (t := 90) (x10 _ _ hd9) (by decide) (by decide +kernel) rfl rfl fun c2 hc2 => AllR.nil (.nx ?_)
  show AllS (sRet _ [some (.loc dd), some d1, some d2, some d3, some d4, y5, some (.int n), some (.int ((r2 : Int) - 10)), some (.int s), some pw, some (.int c2)] S10) _ _
  refine allS_of_qr (last_ok hs2 he (by omega) ip) fun d S' x' p => ⟨p, ?_⟩
  exact ((((((((x1.trans x2).trans x25).trans x6).trans x7).trans x8).trans x9).trans x10).trans x')
end K03

namespace K03
open PySem PySem.Spec PyProof.Rows L2 Y
def endRt : SRes → Bool
  | .rt (.bl true) _ => true
  | _ => false
theorem allS_end {r : SRes} (h : endRt r = true) : AllS r (fun _ _ => False) fun d _ => d = .bl true := by
  unfold endRt at h
  split at h
  · exact .rt rfl
  · cases h
theorem tail_ok : AllS (b_law2 (List.replicate 6 none) ⟨0, []⟩) (fun _ _ => False) fun d _ => d = .bl true := allS_end (by decide +kernel)
theorem head_ok (ns : List Int) : AllS (b_law1 (some (.scr ns) :: List.replicate 5 none) ⟨0, []⟩) (fun sd _ => sd.length = 6) fun d _ => d = .bl true := by
  unfold b_law1
  refine (for_rng (B := 3) (R := fun i sd S => ∃ x1 x2 x3 x4 x5, sd = [some (.scr ns), x1, x2, x3, x4, x5]) ?a1 (by decide) ?a2).mono (fun sd S ⟨n, _, x1, x2, x3, x4, x5, e⟩ => by rw [e]; rfl) fun _ _ h => h
  case a1 =>
    have e0 : ∃ j : Int, (mCons (mCall fMax2 (mCons (mC (.int 1)) (mCons (mCall fMin2 (mCons (mC (.int 3)) (mCons (mCall fLenG (mCons (mVar 0) mNil)) mNil))) mNil))) mNil) (some (.scr ns) :: List.replicate 5 none) ⟨0, []⟩ = .ok [.int j] ⟨0, []⟩ ∧ 0 ≤ j ∧ j ≤ 3 := by
      refine ⟨if (if (ns.length : Int) < 3 then (ns.length : Int) else 3) > 1 then (if (ns.length : Int) < 3 then (ns.length : Int) else 3) else 1, rfl, ?_⟩
      generalize (ns.length : Int) = z
      by_cases h1 : z < 3
      · rw [if_pos h1]
        by_cases h2 : z > 1
        · rw [if_pos h2]
          omega
        · rw [if_neg h2]
          omega
      · rw [if_neg h1]
        decide
    obtain ⟨j, e1, j1, j2⟩ := e0
    obtain ⟨n, rfl⟩ := Int.eq_ofNat_of_zero_le j1
    exact AllR.of e1 ⟨n, rfl, by omega, none, none, none, none, none, rfl⟩
  case a2 =>
    rintro i sd S hi ⟨x1, x2, x3, x4, x5, rfl⟩
    refine ⟨_, rfl, ?_⟩
    show AllS (sSeq _ _ [some (.scr ns), some (.int i), x2, x3, x4, x5] S) _ _
    have ed : (mCall mDice (mCons (mVar 0) (mCons (mVar 1) mNil))) [some (.scr ns), some (.int i), x2, x3, x4, x5] S = .ok (.loc S.n) (S.new .dice) := by
      have v0 : mVar 0 [some (.scr ns), some (.int i), x2, x3, x4, x5] S = .ok (.scr ns) S := rfl
      have v1 : mVar 1 [some (.scr ns), some (.int i), x2, x3, x4, x5] S = .ok (.int i) S := rfl
      rw [mCall_ok (mCons_ok v0 (mCons_ok v1 mNil_ok))]
      simp only [mDice]
      rw [if_pos (by omega)]
    refine AllS.andThen (AllS.ofn (sSet_ok ed) ?_)
    show AllS (sFor _ _ _ [some (.scr ns), some (.int i), some (.loc S.n), x3, x4, x5] (S.new .dice)) _ _
    have hd0 : (S.new .dice).get S.n = some .dice := Sto.get_new_self
    generalize S.n = dd at hd0 ⊢
    refine (for_rng (B := 2) (R := fun i sd S => (∃ x1 x3 x4 x5, sd = [some (.scr ns), x1, some (.loc dd), x3, x4, x5]) ∧ S.get dd = some .dice) ?b1 (by decide) ?b2).mono (fun sd S ⟨n, _, ⟨x1, x3, x4, x5, e⟩, _⟩ => ⟨_, _, _, _, _, e⟩) fun _ _ h => h
    case b1 => exact AllR.of (a := [.int 2]) rfl ⟨2, rfl, Nat.le_refl _, ⟨_, _, _, _, rfl⟩, hd0⟩
    case b2 =>
      rintro j sd S1 hj ⟨⟨y1, y3, y4, y5, rfl⟩, hd1⟩
      refine ⟨_, rfl, ?_⟩
      show AllS (sIf _ _ _ [some (.scr ns), y1, some (.loc dd), some (.int j), y4, y5] S1) _ _
      refine AllS.bind (AllR.bind (AllR.bind (AllR.bind (AllR.cons (.ok (AllR.nil ((right_ok hd1).mono fun v S2 ⟨ev, x2⟩ => ?_)))))))
      subst ev
      refine .ok (.ok ?_)
      show AllS (sSkip _ S2) _ _
      exact .nx ⟨⟨_, _, _, _, rfl⟩, x2 _ _ hd1⟩
theorem the_law {P : Program} {w : World} {mg : Str → Option Value} {base : Heap} {G : Glo} {A : Ad} (T : TT P G mg A) : FnT G P w mg base 16 63 A.a_law := two_law T (fun ns _ => head_ok ns) tail_ok
end K03

open PySem PySem.W PyProof.Rows
theorem K03.fin {K : PySem.W.Frag} {w : World} {mg : PySem.Str → Option Value} {fa : Addr} (am : ∃ (G : Y.Glo) (A : K03.Ad), G.K = K ∧ K03.TT K03.pw G mg A) (hmg : mg "law" = some (.ref fa)) : ∃ G : Y.Glo, G.K = K ∧ ∀ base : Heap, K.In base → base.Ns mainGlobals mg → Y.FnT G K03.pw w mg base 16 63 fa := by
  obtain ⟨G, A, hK, T⟩ := am
  have e := T.g_law
  rw [hmg] at e
  cases e
  exact ⟨G, hK, fun base _ _ => K03.the_law T⟩
set_option maxRecDepth 100000 in
set_option maxHeartbeats 0 in
theorem PySem.Challenge.cw_crosswebs_k03_whole_quotients_and_powers_holds : PySem.Challenge.rw_crosswebs_k03_whole_quotients_and_powers.Holds := by
  w_on; o_law; k_head; (case hw => w_witness2)
  k_fill
  refine Y.walkG (l := PySem.Challenge.rw_crosswebs_k03_whole_quotients_and_powers) (n := 63) (k := 16) rfl (by decide) rfl ⟨rfl, by decide, by decide⟩ (fun w h Y => PySem.W.kIn_of Y) ?F
  case F =>
    intro w mg fa h KX Gn XX hmg
    refine K03.fin ?am hmg
    refine' K03.all_mk KX Gn XX.2 ?a_InvalidOperation ?a_TooMany ?a_Row ?a_InvalidNumber ?a_InvalidRow ?a_is_integer ?l_is_integer ?k_is_integer ?q_is_integer ?a_is_power ?l_is_power ?k_is_power ?q_is_power ?a_are_terms ?l_are_terms ?k_are_terms ?q_are_terms ?a_Row_getitem ?l_Row_getitem ?k_Row_getitem ?q_Row_getitem ?a_sorted_terms ?l_sorted_terms ?k_sorted_terms ?q_sorted_terms ?a_Row_init ?l_Row_init ?k_Row_init ?q_Row_init ?z_Row_init ?y_Row_init ?a_product_terms ?l_product_terms ?k_product_terms ?q_product_terms ?a_operand_terms ?l_operand_terms ?k_operand_terms ?q_operand_terms ?a_Row_mul ?l_Row_mul ?k_Row_mul ?q_Row_mul ?a_summed_terms ?l_summed_terms ?k_summed_terms ?q_summed_terms ?a_Row_add ?l_Row_add ?k_Row_add ?q_Row_add ?a_Row_neg ?l_Row_neg ?k_Row_neg ?q_Row_neg ?a_Row_sub ?l_Row_sub ?k_Row_sub ?q_Row_sub ?a_Row_eq ?l_Row_eq ?k_Row_eq ?q_Row_eq ?a_wall ?l_wall ?k_wall ?q_wall ?a_power_text ?l_power_text ?k_power_text ?q_power_text ?a_term_text ?l_term_text ?k_term_text ?q_term_text ?a_terms_text ?l_terms_text ?k_terms_text ?q_terms_text ?a_quotient_terms ?l_quotient_terms ?k_quotient_terms ?q_quotient_terms ?a_require_row ?l_require_row ?k_require_row ?q_require_row ?a_Ldice ?l_Ldice ?k_Ldice ?q_Ldice ?a_Lroll ?l_Lroll ?k_Lroll ?q_Lroll ?a_Lpick ?l_Lpick ?k_Lpick ?q_Lpick ?a_Lrow ?l_Lrow ?k_Lrow ?q_Lrow ?a_Ladded ?l_Ladded ?k_Ladded ?q_Ladded ?a_Ltimes ?l_Ltimes ?k_Ltimes ?q_Ltimes ?a_Lraised ?l_Lraised ?k_Lraised ?q_Lraised ?a_Lcircle ?l_Lcircle ?k_Lcircle ?q_Lcircle ?a_Row_terms ?b_Row_terms ?l_Row_terms ?k_Row_terms ?q_Row_terms ?a_Lis_row ?l_Lis_row ?k_Lis_row ?q_Lis_row ?a_Ldrawn_row ?l_Ldrawn_row ?k_Ldrawn_row ?q_Ldrawn_row ?a_Lquotient ?l_Lquotient ?k_Lquotient ?q_Lquotient ?a_Row_quotient ?l_Row_quotient ?k_Row_quotient ?q_Row_quotient ?a_Ltold_quotient ?l_Ltold_quotient ?k_Ltold_quotient ?q_Ltold_quotient ?a_Lquotient_right ?l_Lquotient_right ?k_Lquotient_right ?q_Lquotient_right ?a_Lled ?l_Lled ?k_Lled ?q_Lled ?a_Row_turned ?b_Row_turned ?l_Row_turned ?k_Row_turned ?q_Row_turned ?a_Row_spread ?l_Row_spread ?k_Row_spread ?q_Row_spread ?a_Row_shifted ?l_Row_shifted ?k_Row_shifted ?q_Row_shifted ?a_Row_at ?l_Row_at ?k_Row_at ?q_Row_at ?a_Row_power ?b_Row_power ?l_Row_power ?k_Row_power ?q_Row_power ?z_Row_power ?y_Row_power ?a_Row_raised ?l_Row_raised ?k_Row_raised ?q_Row_raised ?a_Lshapes_right ?l_Lshapes_right ?k_Lshapes_right ?q_Lshapes_right ?a_Row_low ?b_Row_low ?l_Row_low ?k_Row_low ?q_Row_low ?a_Lright ?l_Lright ?k_Lright ?q_Lright ?a_Row_str ?l_Row_str ?k_Row_str ?q_Row_str ?a_law ?l_law ?k_law ?q_law ?n_isinstance ?n_dict ?n_all ?n_int ?n_bool ?n_abs ?n_sorted ?n_super ?n_any ?n_max ?n_min ?n_len ?n_list ?n_range ?n_sum ?n_str ?v_MAX_POWER ?v_LETTER ?w_LETTER ?v_MAX_RAISED ?sc_Row ?mk_Row ?p_Row_own_terms ?s1_Row_own_terms ?me_Row_getitem ?me_Row_neg ?me_Row_quotient ?me_Row_spread ?me_Row_shifted ?me_Row_at ?me_Row_raised ?me_Row_str ?pr_Row_terms ?pr_Row_turned ?pr_Row_low ?cm_Row_power ?bo_Row_mul ?bo_Row_sub ?bo_Row_add ?eq_Row ?p_InvalidRow ?i_InvalidNumber ?l_InvalidNumber ?k_InvalidNumber ?m_InvalidNumber ?o_InvalidNumber ?u_InvalidNumber ?w_InvalidNumber ?x_InvalidNumber ?i_TooMany ?l_TooMany ?k_TooMany ?m_TooMany ?o_TooMany ?u_TooMany ?w_TooMany ?x_TooMany ?p_InvalidOperation ?h1 ?h2 ?h3 ?h4 ?h5
    (case a_InvalidOperation => k_is)
    (case a_TooMany => k_is)
    (case a_Row => k_is)
    (case a_InvalidNumber => k_is)
    (case a_InvalidRow => k_is)
    (case a_is_integer => k_is)
    (case l_is_integer => k_is)
    (case k_is_integer => k_is)
    (case q_is_integer => k_is)
    (case a_is_power => k_is)
    (case l_is_power => k_is)
    (case k_is_power => k_is)
    (case q_is_power => k_is)
    (case a_are_terms => k_is)
    (case l_are_terms => k_is)
    (case k_are_terms => k_is)
    (case q_are_terms => k_is)
    (case a_Row_getitem => k_is)
    (case l_Row_getitem => k_is)
    (case k_Row_getitem => k_is)
    (case q_Row_getitem => k_is)
    (case a_sorted_terms => k_is)
    (case l_sorted_terms => k_is)
    (case k_sorted_terms => k_is)
    (case q_sorted_terms => k_is)
    (case a_Row_init => k_is)
    (case l_Row_init => k_is)
    (case k_Row_init => k_is)
    (case q_Row_init => k_is)
    (case z_Row_init => k_is)
    (case y_Row_init => first | rfl | exact ⟨_, rfl⟩)
    (case a_product_terms => k_is)
    (case l_product_terms => k_is)
    (case k_product_terms => k_is)
    (case q_product_terms => k_is)
    (case a_operand_terms => k_is)
    (case l_operand_terms => k_is)
    (case k_operand_terms => k_is)
    (case q_operand_terms => k_is)
    (case a_Row_mul => k_is)
    (case l_Row_mul => k_is)
    (case k_Row_mul => k_is)
    (case q_Row_mul => k_is)
    (case a_summed_terms => k_is)
    (case l_summed_terms => k_is)
    (case k_summed_terms => k_is)
    (case q_summed_terms => k_is)
    (case a_Row_add => k_is)
    (case l_Row_add => k_is)
    (case k_Row_add => k_is)
    (case q_Row_add => k_is)
    (case a_Row_neg => k_is)
    (case l_Row_neg => k_is)
    (case k_Row_neg => k_is)
    (case q_Row_neg => k_is)
    (case a_Row_sub => k_is)
    (case l_Row_sub => k_is)
    (case k_Row_sub => k_is)
    (case q_Row_sub => k_is)
    (case a_Row_eq => k_is)
    (case l_Row_eq => k_is)
    (case k_Row_eq => k_is)
    (case q_Row_eq => k_is)
    (case a_wall => k_is)
    (case l_wall => k_is)
    (case k_wall => k_is)
    (case q_wall => k_is)
    (case a_power_text => k_is)
    (case l_power_text => k_is)
    (case k_power_text => k_is)
    (case q_power_text => k_is)
    (case a_term_text => k_is)
    (case l_term_text => k_is)
    (case k_term_text => k_is)
    (case q_term_text => k_is)
    (case a_terms_text => k_is)
    (case l_terms_text => k_is)
    (case k_terms_text => k_is)
    (case q_terms_text => k_is)
    (case a_quotient_terms => k_is)
    (case l_quotient_terms => k_is)
    (case k_quotient_terms => k_is)
    (case q_quotient_terms => k_is)
    (case a_require_row => k_is)
    (case l_require_row => k_is)
    (case k_require_row => k_is)
    (case q_require_row => k_is)
    (case a_Ldice => k_is)
    (case l_Ldice => k_is)
    (case k_Ldice => k_is)
    (case q_Ldice => k_is)
    (case a_Lroll => k_is)
    (case l_Lroll => k_is)
    (case k_Lroll => k_is)
    (case q_Lroll => k_is)
    (case a_Lpick => k_is)
    (case l_Lpick => k_is)
    (case k_Lpick => k_is)
    (case q_Lpick => k_is)
    (case a_Lrow => k_is)
    (case l_Lrow => k_is)
    (case k_Lrow => k_is)
    (case q_Lrow => k_is)
    (case a_Ladded => k_is)
    (case l_Ladded => k_is)
    (case k_Ladded => k_is)
    (case q_Ladded => k_is)
    (case a_Ltimes => k_is)
    (case l_Ltimes => k_is)
    (case k_Ltimes => k_is)
    (case q_Ltimes => k_is)
    (case a_Lraised => k_is)
    (case l_Lraised => k_is)
    (case k_Lraised => k_is)
    (case q_Lraised => k_is)
    (case a_Lcircle => k_is)
    (case l_Lcircle => k_is)
    (case k_Lcircle => k_is)
    (case q_Lcircle => k_is)
    (case a_Row_terms => k_is)
    (case b_Row_terms => k_is)
    (case l_Row_terms => k_is)
    (case k_Row_terms => k_is)
    (case q_Row_terms => k_is)
    (case a_Lis_row => k_is)
    (case l_Lis_row => k_is)
    (case k_Lis_row => k_is)
    (case q_Lis_row => k_is)
    (case a_Ldrawn_row => k_is)
    (case l_Ldrawn_row => k_is)
    (case k_Ldrawn_row => k_is)
    (case q_Ldrawn_row => k_is)
    (case a_Lquotient => k_is)
    (case l_Lquotient => k_is)
    (case k_Lquotient => k_is)
    (case q_Lquotient => k_is)
    (case a_Row_quotient => k_is)
    (case l_Row_quotient => k_is)
    (case k_Row_quotient => k_is)
    (case q_Row_quotient => k_is)
    (case a_Ltold_quotient => k_is)
    (case l_Ltold_quotient => k_is)
    (case k_Ltold_quotient => k_is)
    (case q_Ltold_quotient => k_is)
    (case a_Lquotient_right => k_is)
    (case l_Lquotient_right => k_is)
    (case k_Lquotient_right => k_is)
    (case q_Lquotient_right => k_is)
    (case a_Lled => k_is)
    (case l_Lled => k_is)
    (case k_Lled => k_is)
    (case q_Lled => k_is)
    (case a_Row_turned => k_is)
    (case b_Row_turned => k_is)
    (case l_Row_turned => k_is)
    (case k_Row_turned => k_is)
    (case q_Row_turned => k_is)
    (case a_Row_spread => k_is)
    (case l_Row_spread => k_is)
    (case k_Row_spread => k_is)
    (case q_Row_spread => k_is)
    (case a_Row_shifted => k_is)
    (case l_Row_shifted => k_is)
    (case k_Row_shifted => k_is)
    (case q_Row_shifted => k_is)
    (case a_Row_at => k_is)
    (case l_Row_at => k_is)
    (case k_Row_at => k_is)
    (case q_Row_at => k_is)
    (case a_Row_power => k_is)
    (case b_Row_power => k_is)
    (case l_Row_power => k_is)
    (case k_Row_power => k_is)
    (case q_Row_power => k_is)
    (case z_Row_power => k_is)
    (case y_Row_power => first | rfl | exact ⟨_, rfl⟩)
    (case a_Row_raised => k_is)
    (case l_Row_raised => k_is)
    (case k_Row_raised => k_is)
    (case q_Row_raised => k_is)
    (case a_Lshapes_right => k_is)
    (case l_Lshapes_right => k_is)
    (case k_Lshapes_right => k_is)
    (case q_Lshapes_right => k_is)
    (case a_Row_low => k_is)
    (case b_Row_low => k_is)
    (case l_Row_low => k_is)
    (case k_Row_low => k_is)
    (case q_Row_low => k_is)
    (case a_Lright => k_is)
    (case l_Lright => k_is)
    (case k_Lright => k_is)
    (case q_Lright => k_is)
    (case a_Row_str => k_is)
    (case l_Row_str => k_is)
    (case k_Row_str => k_is)
    (case q_Row_str => k_is)
    (case a_law => k_is)
    (case l_law => k_is)
    (case k_law => k_is)
    (case q_law => k_is)
    (case n_isinstance => k_is)
    (case n_dict => k_is)
    (case n_all => k_is)
    (case n_int => k_is)
    (case n_bool => k_is)
    (case n_abs => k_is)
    (case n_sorted => k_is)
    (case n_super => k_is)
    (case n_any => k_is)
    (case n_max => k_is)
    (case n_min => k_is)
    (case n_len => k_is)
    (case n_list => k_is)
    (case n_range => k_is)
    (case n_sum => k_is)
    (case n_str => k_is)
    (case v_MAX_POWER => k_is)
    (case v_LETTER => k_is)
    (case w_LETTER => decide +kernel)
    (case v_MAX_RAISED => k_is)
    (case sc_Row => kernel_rfl)
    (case mk_Row => kernel_rfl)
    (case p_Row_own_terms => k_is)
    (case s1_Row_own_terms => kernel_rfl)
    (case me_Row_getitem => kernel_rfl)
    (case me_Row_neg => kernel_rfl)
    (case me_Row_quotient => kernel_rfl)
    (case me_Row_spread => kernel_rfl)
    (case me_Row_shifted => kernel_rfl)
    (case me_Row_at => kernel_rfl)
    (case me_Row_raised => kernel_rfl)
    (case me_Row_str => kernel_rfl)
    (case pr_Row_terms => kernel_rfl)
    (case pr_Row_turned => kernel_rfl)
    (case pr_Row_low => kernel_rfl)
    (case cm_Row_power => kernel_rfl)
    (case bo_Row_mul => kernel_rfl)
    (case bo_Row_sub => kernel_rfl)
    (case bo_Row_add => kernel_rfl)
    (case eq_Row => kernel_rfl)
    (case p_InvalidRow => kernel_rfl)
    (case i_InvalidNumber => k_is)
    (case l_InvalidNumber => k_is)
    (case k_InvalidNumber => k_is)
    (case m_InvalidNumber => k_is)
    (case o_InvalidNumber => rfl)
    (case u_InvalidNumber => decide +kernel)
    (case w_InvalidNumber => k_is)
    (case x_InvalidNumber => kernel_rfl)
    (case i_TooMany => k_is)
    (case l_TooMany => k_is)
    (case k_TooMany => k_is)
    (case m_TooMany => k_is)
    (case o_TooMany => rfl)
    (case u_TooMany => decide +kernel)
    (case w_TooMany => k_is)
    (case x_TooMany => kernel_rfl)
    (case p_InvalidOperation => kernel_rfl)
    (case h1 => kernel_rfl)
    (case h2 => kernel_rfl)
    (case h3 => kernel_rfl)
    (case h4 => kernel_rfl)
    (case h5 => kernel_rfl)

