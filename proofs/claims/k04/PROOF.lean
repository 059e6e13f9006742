import PyProof.Rows.All
import Wide.All
import OpenK.AllK
import Wide.FinOn
import HandS.ForMost
import HandS.ForExc
import HandS.More
import HandS.Slots
import HandS.Wide
import HandS.ExcInit
import HandS.Lambda
import KE.KDictWalk
import HandS.DictSubView
import KE.KDictCopyH
import HandS.Walk
import HandS.IsInst
import HandS.SlotsOwn
import HandS.TupAny
import HandS.Ends
import KE.KExcSuper
import HandS.ExcSuper
import HandS.ExcValue
import HandS.ExcField
import HandS.TryMany
import KE.KExcIs
import HandS.MakeKw
import HandS.MakeKwOnly
import HandS.ClsMeth
import HandS.Property
import HandS.Defaults
import KE.KOpsOwn
import HandS.NamedTupSort
import HandS.Small
import HandS.DictComp
import HandS.DictEq
import HandS.TupSets
import HandS.SortInts
import HandS.Deep
import HandS.ListItems
import HandS.FStr
import HandS.Steps
import HandS.TryOnly
import HandS.Flow
import KE.KCallOwn
import HandS.RaiseMore
import HandS.SortKw
import HandS.Style
import HandS.Conv
import KE.DataMinMax
import KE.KDictList
import HandS.Star
import HandS.SetKeys
import KE.KNestM
import PySem.Challenge.RW_crosswebs_k04_errors_of_rows
set_option Elab.async false
set_option linter.all false
set_option maxRecDepth 100000
set_option maxHeartbeats 4000000
/-! Y0: the pairs of a dict whose object is known, whatever its keys are. -/
namespace L2
open PySem PySem.Spec PyProof.Rows
/-- the pairs of a known dict's object -/
def EntsOk (kvs : List (V × V)) (es : Array DictEntry) : Prop := Paired (fun (p : V × V) (e : DictEntry) => RelV p.1 e.key ∧ RelV p.2 e.val) kvs es.toList
theorem relV_inj {x y : V} {u : Value} (h1 : L2.RelV x u) (h2 : L2.RelV y u) : x = y := by
  cases x <;> cases y <;> simp only [L2.RelV] at h1 h2 <;> simp_all <;> (obtain ⟨t, h1⟩ := h1; simp_all)
theorem pairedRelV_inj : ∀ {l m : List (V × V)} {es : List DictEntry}, Paired (fun (p : V × V) (e : DictEntry) => L2.RelV p.1 e.key ∧ L2.RelV p.2 e.val) l es → Paired (fun (p : V × V) (e : DictEntry) => L2.RelV p.1 e.key ∧ L2.RelV p.2 e.val) m es → l = m
  | _, _, _, .nil, .nil => rfl
  | _, _, _, .cons r t, .cons r' t' => by
    rw [pairedRelV_inj t t', Prod.ext (relV_inj r.1 r'.1) (relV_inj r.2 r'.2)]
theorem EntsOk.size {kvs : List (V × V)} {es : Array DictEntry} (h : EntsOk kvs es) : es.size = kvs.length := by
  rw [Paired.length h]; simp
theorem pairedR_get {α β : Type} {F : α → β → Prop} : ∀ {l : List α} {m : List β} {i : Nat} {a : α}, Paired F l m → l[i]? = some a → ∃ b, m[i]? = some b ∧ F a b
  | _, _, i, a, .nil, h => by simp at h
  | _, _, 0, a, .cons r t, h => by simp at h; subst h; exact ⟨_, rfl, r⟩
  | _, _, i + 1, a, .cons r t, h => by simpa using pairedR_get t (by simpa using h)
theorem EntsOk.get {kvs : List (V × V)} {es : Array DictEntry} (h : EntsOk kvs es) {i : Nat} {k v : V} (e : kvs[i]? = some (k, v)) : ∃ d, es[i]? = some d ∧ RelV k d.key ∧ RelV v d.val := by
  obtain ⟨d, h1, h2⟩ := pairedR_get h e
  exact ⟨d, by simpa using h1, h2⟩
/-- the pairs of the known dict at a, each a new tuple -/
def ItR (a : Addr) (o : Obj) (kvs : List (V × V)) : It :=
  ⟨fun i H => (∃ u, H a = some (.frz o u)) ∧ i < kvs.length, fun i H x H' => ∃ T k v, kvs[i]? = some (k, v) ∧ x = .ref T ∧ H T = none ∧ H' = upd H T (.tup [k, v]), fun i H => (∃ u, H a = some (.frz o u)) ∧ kvs.length ≤ i⟩
section
variable {P : Program} {w : World} {K : PySem.W.Frag} {a : Addr} {o : Obj} {es : Array DictEntry} {ep : Nat}
theorem turn_itemsR {kvs : List (V × V)} {elts : List Expr} {kk : Nat} {tpos : Pos} (it : Addr) (hod : o.data = .dict es ep) (hp : EntsOk kvs es) :
    Turn P w K (.Tuple elts kk tpos) (ItR a o kvs) [it] it (fun i h => ∃ ok ov, h.get? it = some (DVw.itmOb a .none i kvs.length ep ok ov)) where
  mem := by simp
  obj := fun i h st b hb => by
    have e : b = it := by simpa using hb
    subst e
    obtain ⟨ok, ov, e⟩ := st
    exact ⟨_, e, fun v z => nomatch z⟩
  keep := fun i h h' st k => let ⟨ok, ov, e⟩ := st; ⟨ok, ov, k it (by simp) _ e⟩
  item := by
    intro X hP hw hK hc i pins s σ H E I hf st hg
    subst hP hw hK
    obtain ⟨⟨u, hd⟩, hi⟩ := hg
    have hgd : s.heap.get? a = some o := (I.hok a _ hd).1
    obtain ⟨⟨k, v⟩, hkv⟩ : ∃ p, kvs[i]? = some p := ⟨kvs[i], List.getElem?_eq_getElem hi⟩
    obtain ⟨e, he, hkey, ru⟩ := hp.get hkv
    obtain ⟨ok, ov, hit⟩ := st
    have hlt : it < s.heap.objs.size := Heap.lt_size hit
    refine DVw.itm_item hit hgd hod hp.size he fun h' b1 b2 b3 b4 => ?_
    refine ⟨_, rfl, wpAny_letOwnedTupleGo_items (s := { s with heap := h' }) (d := a) (i := i + 1) (n := kvs.length) (ep := ep) (ok := e.key) (ov := e.val) b1 fun h'' he' sb => ?_⟩
    have hT2 : h''.get? s.heap.objs.size = some { cls := .type "tuple", data := .seq #[e.key, e.val] } := (sb.2 _ (Nat.ne_of_gt hlt)).trans b2
    have new : ObjOk X.prog X.w (upd H s.heap.objs.size (.tup [k, v])) h'' s.heap.objs.size (.tup [k, v]) :=
      ⟨by show 2 ≤ sizeLine; decide, [e.key, e.val], .cons hkey (.cons ru .nil), ⟨_, hT2, rfl, _, rfl⟩⟩
    have I1 : Inv X pins σ (upd H s.heap.objs.size (.tup [k, v])) { s with heap := h'' } :=
      I.turnedNew (t' := s.toks) (ch := [it]) (fun b ob hb z => (sb.2 b (by simpa using hb)).trans (b4 b ob (by simpa using hb) z)) hf (Nat.le_refl _) new
    refine ⟨.ref s.heap.objs.size, _, I1, rfl, ⟨_, k, v, hkv, rfl, I.hok.fresh (Nat.le_refl _), rfl⟩, ⟨e.key, e.val, he'⟩, fun b hb => ?_⟩
    have z : b = it := by simpa using hb
    rw [z, upd_ne (Nat.ne_of_lt hlt)]
    exact (hf it (by simp)).1
  done := by
    intro X hP hw hK hc i pins s σ H E I hf st hg
    subst hP hw hK
    obtain ⟨⟨u, hd⟩, hi⟩ := hg
    obtain ⟨f0, f1, f2, f3, f4, f5⟩ := hf it (by simp)
    have hgd : s.heap.get? a = some o := (I.hok a _ hd).1
    obtain ⟨ok, ov, hit⟩ := st
    have he : es[i]? = none := Array.getElem?_eq_none (by rw [hp.size]; exact hi)
    exact DVw.itm_end (I.ok.hd hc) hit hgd hod hp.size he fun h' eb => ⟨rfl, I.turned (t' := s.toks) (fun b ob hb e => eb b ob hb e) f0 f1 f3 f4 f5⟩
  self := fun A i s Q E st h => let ⟨_, _, e⟩ := st; PySem.W.kcp_self e h
end
section
variable {X : Cx} {e : Expr} {td : TE} {apos cpos : Pos}
/-- .. in e.items(), e a dict whose object is known -/
def iItemsR (td : TE) : TI := fun σ H R => td σ H fun x H1 => ∃ a o es ep kvs u, x = .ref a ∧ H1 a = some (.frz o u) ∧ (a == sysModules) = false ∧ o.ExactDict ∧ o.data = .dict es ep ∧ EntsOk kvs es ∧ R (ItR a o kvs) H1
theorem pi_itemsR {elts : List Expr} {kk : Nat} {tpos : Pos} (he : PE X e td) (hbase : attributeBase e "items" X.env (eval e X.env) = eval e X.env := by rfl) (hline : (apos.endLine == cpos.line) = true := by rfl) :
    PI X (.Tuple elts kk tpos) (.Call (.Attribute e "items" apos) [] [] cpos) (iItemsR td) := by
  refine ⟨fun pins s σ H R I h => ?_⟩
  refine wpAny_Call_method (T := "dict") (id := "dict.items") hbase rfl hline F.plainAttrs_dict F.slot_dict_items F.type_dict_items (thn (he.run pins s σ H _ I h) fun u s1 ⟨x, H1, I1, rx, a, o, es, ep, kvs, u2, ex, hd, hs, hxd, hda, hp, q⟩ => ?_)
  subst ex
  obtain rfl : u = Value.ref a := rx
  have hgd : s1.heap.get? a = some o := (I1.hok a _ hd).1
  have hT : s1.TypeIs (.ref a) "dict" := ⟨_, hgd, hxd.1⟩
  refine ⟨hT, fun b e => ⟨o, by cases e; exact hgd, hxd.2.1⟩, ?_⟩
  have I2 : Inv X pins σ H1 { s1 with heap := s1.heap.push { cls := .type "dict_items", data := .fields #[.ref a] } } := I1.kept (t' := s1.toks) fun b ob q => Heap.get?_push_of_some _ q
  have fin : wpAny (model X.prog X.w) X.A (pyIter (.ref s1.heap.objs.size)) (PIE X pins σ (.Tuple elts kk tpos) R) X.xe { s1 with heap := s1.heap.push { cls := .type "dict_items", data := .fields #[.ref a] } } := by
    refine DSub.iter_itms (a := a) (es := es) (ep := ep) (Heap.get?_push_size _ rfl) (Heap.get?_push_of_some _ hgd) hda ?_
    refine pi_one (tk := s1.toks) I2 _ (turn_itemsR _ hda hp) ⟨.none, .none, ?_⟩ q
    rw [← hp.size]
    exact Heap.get?_push_size _ rfl
  show wpAny _ _ (callWith cpos (.builtin "dict.items") [.ref a] [] []) _ X.xe s1
  exact method_meetsIn F.slot_dict_items F.entry_dict_items rfl (PySem.evalArgs_none ⟨rfl, hT, F.args_dict_items_1 _, _, meets_dict_items_raw a hs, ⟨es, ep, o, hgd, hxd, hda⟩, fin⟩)
/-- .. in e.items(), e a walked dict or one whose object is known -/
def iItemsJ (td : TE) : TI := fun σ H R => td σ H fun x H1 => (∃ d o kvs, x = .ref d ∧ H1 d = some (.frz o (.dK kvs)) ∧ R (Iti d o kvs) H1) ∨
  ∃ a o es ep kvs u, x = .ref a ∧ H1 a = some (.frz o u) ∧ (a == sysModules) = false ∧ o.ExactDict ∧ o.data = .dict es ep ∧ EntsOk kvs es ∧ R (ItR a o kvs) H1
theorem pi_itemsJ {elts : List Expr} {kk : Nat} {tpos : Pos} (he : PE X e td) (hbase : attributeBase e "items" X.env (eval e X.env) = eval e X.env := by rfl) (hline : (apos.endLine == cpos.line) = true := by rfl) :
    PI X (.Tuple elts kk tpos) (.Call (.Attribute e "items" apos) [] [] cpos) (iItemsJ td) := by
  refine ⟨fun pins s σ H R I h => ?_⟩
  refine wpAny_Call_method (T := "dict") (id := "dict.items") hbase rfl hline F.plainAttrs_dict F.slot_dict_items F.type_dict_items (thn (he.run pins s σ H _ I h) fun u s1 ⟨x, H1, I1, rx, q0⟩ => ?_)
  rcases q0 with ⟨d, o, kvs, ex, hd, q⟩ | ⟨a, o, es, ep, kvs, u2, ex, hd, hs, hxd, hda, hp, q⟩
  · subst ex
    obtain rfl : u = Value.ref d := rx
    obtain ⟨hs, hgd, hx, es, ep, vs, hdt, hsz, kv, hm⟩ := I1.frzK hd
    have hl : kvs.length = vs.length := Paired.length kv
    refine ⟨hm.dictOf.typeIs, hm.dictOf.mapOf.noDict, ?_⟩
    have I2 : Inv X pins σ H1 { s1 with heap := s1.heap.push { cls := .type "dict_items", data := .fields #[.ref d] } } := I1.kept (t' := s1.toks) fun b ob q => Heap.get?_push_of_some _ q
    have fin : wpAny (model X.prog X.w) X.A (pyIter (.ref s1.heap.objs.size)) (PIE X pins σ (.Tuple elts kk tpos) R) X.xe { s1 with heap := s1.heap.push { cls := .type "dict_items", data := .fields #[.ref d] } } := by
      refine wpAny_pyIter_items (d := d) (knd := mixKind X.prog X.w) ⟨_, Heap.get?_push_size _ rfl, rfl, rfl⟩ (hm.push _) (pi_one (tk := s1.toks) I2 _ (turn_items _ hdt) ⟨.none, .none, ?_⟩ q)
      rw [hl]
      exact Heap.get?_push_size _ rfl
    show wpAny _ _ (callWith cpos (.builtin "dict.items") [.ref d] [] []) _ X.xe s1
    exact method_meetsIn F.slot_dict_items F.entry_dict_items rfl (PySem.evalArgs_none ⟨rfl, hm.dictOf.typeIs, F.args_dict_items_1 _, _, meets_dict_items (mixKind X.prog X.w) d hs, ⟨vs, hm.dictOf⟩, fin⟩)
  · subst ex
    obtain rfl : u = Value.ref a := rx
    have hgd : s1.heap.get? a = some o := (I1.hok a _ hd).1
    have hT : s1.TypeIs (.ref a) "dict" := ⟨_, hgd, hxd.1⟩
    refine ⟨hT, fun b e => ⟨o, by cases e; exact hgd, hxd.2.1⟩, ?_⟩
    have I2 : Inv X pins σ H1 { s1 with heap := s1.heap.push { cls := .type "dict_items", data := .fields #[.ref a] } } := I1.kept (t' := s1.toks) fun b ob q => Heap.get?_push_of_some _ q
    have fin : wpAny (model X.prog X.w) X.A (pyIter (.ref s1.heap.objs.size)) (PIE X pins σ (.Tuple elts kk tpos) R) X.xe { s1 with heap := s1.heap.push { cls := .type "dict_items", data := .fields #[.ref a] } } := by
      refine DSub.iter_itms (a := a) (es := es) (ep := ep) (Heap.get?_push_size _ rfl) (Heap.get?_push_of_some _ hgd) hda ?_
      refine pi_one (tk := s1.toks) I2 _ (turn_itemsR _ hda hp) ⟨.none, .none, ?_⟩ q
      rw [← hp.size]
      exact Heap.get?_push_size _ rfl
    show wpAny _ _ (callWith cpos (.builtin "dict.items") [.ref a] [] []) _ X.xe s1
    exact method_meetsIn F.slot_dict_items F.entry_dict_items rfl (PySem.evalArgs_none ⟨rfl, hT, F.args_dict_items_1 _, _, meets_dict_items_raw a hs, ⟨es, ep, o, hgd, hxd, hda⟩, fin⟩)
end
end L2

/-! Y00: dicts with a bool for a key. -/
namespace L2
open PySem PySem.Spec PyProof.Rows
def blIs (b : Bool) : Value → Bool
  | .bool c => c == b
  | _ => false
theorem blIs_shape {b : Bool} {v : Value} (h : blIs b v = true) : v = .bool b := by
  cases v <;> simp_all [blIs]
def blLeaf (b : Bool) : Leaf := .num (if b = true then 1 else 0)
theorem blLeaf_is (b : Bool) : Leaf.isOf (blLeaf b) (.bool b) = true := by cases b <;> rfl
theorem blLeaf_eq (a b : Bool) : decide (blLeaf a = blLeaf b) = decide (a = b) := by cases a <;> cases b <;> decide
def boolKind (prog : Program) (w : World) : PySem.KeyKind prog w Bool where
  is := blIs
  hash := fun b => (leafKind prog w).hash (blLeaf b)
  inj := fun v a b ha hb => by have h1 := blIs_shape ha; have h2 := blIs_shape hb; rw [h1] at h2; cases h2; rfl
  byValue := fun k v h => by rw [blIs_shape h]; rfl
  pyHash := fun {A E s k v Q} hv h => by rw [blIs_shape hv]; exact (leafKind prog w).pyHash (k := blLeaf k) (v := .bool k) (blLeaf_is k) h
  eqBool := fun {A E s a b u v Q} hu hv h => by
    rw [blIs_shape hu, blIs_shape hv]
    exact (leafKind prog w).eqBool (a := blLeaf a) (b := blLeaf b) (u := .bool a) (v := .bool b) (blLeaf_is a) (blLeaf_is b) (by rw [blLeaf_eq]; exact h)
  «strs» := fun k x t v h => by simp [blIs] at h
/-- {True: v}: the new dict's object is known from then on -/
def knownO (p : Addr) (o : Obj) : HO := .frz o (.ext fun h => h.get? p = some o)
theorem knownO_ok {P : Program} {w : World} {H : Hp} {h : Heap} {p : Addr} {o : Obj} (e : h.get? p = some o) : ObjOk P w H h p (knownO p o) := ⟨e, e, ⟨o, e⟩, fun _ _ h1 k => k _ h1⟩
def tDispB (trs : List (TE × TE)) : TE := fun σ H Q => ∀ p, H p = none → tPairs trs σ (upd H p (.dK [])) fun ps H2 => H2 p = some (.dK []) ∧ ∃ b v, ps = [(V.bl b, v)] ∧
  ∀ o es ep, (p == sysModules) = false → o.ExactDict → o.data = .dict es ep → EntsOk [(.bl b, v)] es → Q (.ref p) (upd H2 p (knownO p o))
theorem pe_dispB {X : Cx} {pos : Pos} {keys : List (Option Expr)} {values : List Expr} {trs : List (TE × TE)} (h : PPs X pos keys values trs) (hall : keys.all (·.isSome) = true) (hl : keys.length = values.length) (h0 : keys ≠ [])
    (h15 : keys.length ≤ 15) : PE X (.Dict keys values pos) (tDispB trs) := by
  refine ⟨fun pins s σ H Q I q => ?_⟩
  have hn := I.hok.fresh (Nat.le_refl s.heap.objs.size)
  have I1 := I.laid (a := s.heap.objs.size) (o := .dK []) (h' := s.heap.push { cls := .type "dict", data := .dict #[] }) (t' := s.toks) (fun _ _ q => Heap.get?_push_of_some _ q) (Nat.le_refl _) (dk_empty s.heap I.big)
  refine wpAny_Dict_walk (knd := boolKind X.prog X.w) hall hl h0 h15 (thn (h.run pins _ σ _ _ I1 (q _ hn)) fun ws s2 ⟨ps, H2, I2, rel, e, b, v, ep, q2⟩ => ?_)
  subst ep
  obtain ⟨z, hd, vs0, r0, o0, es0, ep0, hg0, hx0, hd0, hk0, hp0, hn0⟩ := dk_of I2.hok e
  cases r0
  cases rel with
  | @cons a w as ws h t =>
    cases t
    obtain ⟨k1, v1⟩ := w
    have hk : k1 = Value.bool b := h.1
    subst hk
    have he0 : es0.toList = [] := by
      generalize es0.toList = l at hp0
      cases l with
      | nil => rfl
      | cons a l => cases hp0
    refine ⟨[(b, v1)], ⟨by show blIs b (.bool b) = true; simp [blIs], rfl, True.intro⟩, ⟨o0, es0, ep0, hg0, hx0, hd0, fun e he => ?_, ?_, .nil⟩, fun h' dd' hs => ?_⟩
    · have he2 : e ∈ es0.toList := by simpa using he
      rw [he0] at he2
      cases he2
    · rw [he0]; exact .nil
    · obtain ⟨o, es, ep, hg, hx, hdt, hk, hp, hnn⟩ := dd'
      have ents : EntsOk [(.bl b, v)] es := by
        have hp' : Pairs (boolKind X.prog X.w) es.toList [(b, v1)] := hp
        unfold EntsOk
        generalize es.toList = l at hp'
        cases hp' with
        | cons h1 h2 h3 =>
          cases h3
          exact .cons ⟨blIs_shape h1, by rw [h2]; exact h.2⟩ .nil
      exact ⟨.ref s.heap.objs.size, _, d_write I2 (by rw [e]; exact True.intro) hs ⟨o, hg⟩ (knownO_ok hg), rfl, q2 o es ep hd hx hdt ents⟩
/-- {(..): v}, one pair: the new dict's object is known from then on -/
def tDispU (trs : List (TE × TE)) : TE := fun σ H Q => ∀ p, H p = none → tPairs trs σ (upd H p (.dK [])) fun ps H2 => H2 p = some (.dK []) ∧ ∃ (T : Addr) (ks : List Key) (v : V), ps = [(V.ref T, v)] ∧ H2 T = some (.tup (ks.map kV)) ∧
  ∀ o es ep, (p == sysModules) = false → o.ExactDict → o.data = .dict es ep → EntsOk [(.ref T, v)] es → Q (.ref p) (upd H2 p (knownO p o))
theorem pe_dispU {X : Cx} {pos : Pos} {keys : List (Option Expr)} {values : List Expr} {trs : List (TE × TE)} (h : PPs X pos keys values trs) (hu : X.A.units < cLine) (hall : keys.all (·.isSome) = true) (hl : keys.length = values.length) (h0 : keys ≠ [])
    (h15 : keys.length ≤ 15) : PE X (.Dict keys values pos) (tDispU trs) := by
  refine ⟨fun pins s σ H Q I q => ?_⟩
  have hn := I.hok.fresh (Nat.le_refl s.heap.objs.size)
  have I1 := I.laid (a := s.heap.objs.size) (o := .dK []) (h' := s.heap.push { cls := .type "dict", data := .dict #[] }) (t' := s.toks) (fun _ _ q => Heap.get?_push_of_some _ q) (Nat.le_refl _) (dk_empty s.heap I.big)
  have hnl := pairTrees_length keys values X.env pos hall hl
  rw [arm_eval_Dict, zip_pairTrees keys values X.env pos hall hl, dictDisplay_pairs (pairTrees keys values X.env pos) (fun he => by rw [he] at hnl; exact h0 (List.length_eq_zero_iff.mp hnl.symm)) (by omega)]
  refine wpAny_bind (wpAny_standAt (wpAny_bind ?_))
  unfold subDict
  refine wpAny_bind (wpAny_alloc ?_)
  refine wpAny_bind (wpAny_holding ?_)
  rw [if_pos (by omega)]
  refine wpAny_bind (thn (h.run pins _ σ _ _ I1 (q _ hn)) fun ws s2 ⟨ps, H2, I2, rel, e, T, ks, v, ep, eT, q2⟩ => ?_)
  subst ep
  obtain ⟨z, hd, vs0, r0, o0, es0, ep0, hg0, hx0, hd0, hk0, hp0, hn0⟩ := dk_of I2.hok e
  cases r0
  have he0 : es0.toList = [] := by
    generalize es0.toList = l at hp0
    cases l with
    | nil => rfl
    | cons a l => cases hp0
  cases rel with
  | @cons a w as ws h t =>
    cases t
    obtain ⟨k1, v1⟩ := w
    have hk : k1 = Value.ref T := h.1
    subst hk
    refine wpAny_holding ?_
    refine wpAny_bind ?_
    rw [List.forIn_cons]
    refine wpAny_bind (wpAny_bind (wpAny_dictSet_heap (knd := tupleKind (mixKind X.prog X.w)) (xs := []) hu (key_of I2.hok eT) ⟨o0, es0, ep0, hg0, hx0, hd0, by rw [he0]; rfl, fun x hx => (nomatch hx), .nil⟩ fun h' dd' hs => wpAny_pure ?_))
    show wpAny (model X.prog X.w) X.A (forIn ([] : List (Value × Value)) PUnit.unit _) _ X.xe _
    rw [List.forIn_nil]
    refine wpAny_pure (wpAny_pure (wpAny_pure (wpAny_pure ?_)))
    obtain ⟨o, es, ep, hg, hx, hdt, hes, hk, hnn⟩ := dd'
    have ents : EntsOk [(.ref T, v)] es := by
      unfold EntsOk
      rw [hes]
      exact .cons ⟨rfl, h.2⟩ .nil
    exact ⟨.ref s.heap.objs.size, _, d_write I2 (by rw [e]; exact True.intro) hs ⟨o, hg⟩ (knownO_ok hg), rfl, q2 o es ep hd hx hdt ents⟩
end L2

/-! Y1: plain data, a store, results; how they lie in the layer's heap. -/
namespace Y
open PySem PySem.Spec PyProof.Rows L2

inductive D where
  | non | bl (b : Bool) | int (i : Int) | str (x : List Nat) | tup (l : List D) | loc (n : Nat) | cls (n : Nat) | scr (l : List Int)
  deriving Inhabited

inductive Cell where
  | lst (l : List D)
  | dct (lk : Nat) (l : List (D × D))
  | ins (c : Nat) (l : List (Option D))
  | dice
  /-- an exception that was not raised: its class, its fields -/
  | exv (c : Nat) (fs : List (Str × D))
  /-- a dict whose object is known for good -/
  | raw (l : List (D × D))

structure Sto where
  n : Nat
  c : List Cell
def Sto.get (S : Sto) (i : Nat) : Option Cell := if i < S.n then S.c[S.n - 1 - i]? else none
def Sto.set (S : Sto) (i : Nat) (x : Cell) : Sto := if i < S.n then ⟨S.n, S.c.set (S.n - 1 - i) x⟩ else S
def Sto.new (S : Sto) (x : Cell) : Sto := ⟨S.n + 1, x :: S.c⟩
theorem Sto.get_new (S : Sto) (x : Cell) (i : Nat) : (S.new x).get i = if i = S.n then some x else S.get i := by
  unfold Sto.new Sto.get
  by_cases h : i = S.n
  · subst h
    simp
  · rw [if_neg h]
    by_cases h2 : i < S.n
    · have e1 : i < S.n + 1 := by omega
      have e : S.n + 1 - 1 - i = (S.n - 1 - i) + 1 := by omega
      simp only [e1, h2, if_true, e, List.getElem?_cons_succ]
    · have e1 : ¬ i < S.n + 1 := by omega
      simp only [e1, h2, if_false]
theorem Sto.get_lt {S : Sto} {i : Nat} {x : Cell} (h : S.get i = some x) : i < S.n := by
  unfold Sto.get at h
  split at h
  · assumption
  · cases h
theorem Sto.get_set_self {S : Sto} {i : Nat} {x y : Cell} (h : S.get i = some x) : (S.set i y).get i = some y := by
  have hl := Sto.get_lt h
  unfold Sto.get at h ⊢
  unfold Sto.set
  rw [if_pos hl] at h ⊢
  simp only [hl, if_true]
  obtain ⟨h1, _⟩ := List.getElem?_eq_some_iff.mp h
  exact List.getElem?_set_self h1
theorem Sto.get_set_ne {S : Sto} {i j : Nat} {y : Cell} (h : j ≠ i) : (S.set i y).get j = S.get j := by
  unfold Sto.set
  split
  · rename_i hi
    unfold Sto.get
    split
    · rename_i hj
      simp only [hj, if_true]
      exact List.getElem?_set_ne (by simp only at hj; omega)
    · rename_i hj
      simp only [hj, if_false]
  · rfl
theorem Sto.set_n (S : Sto) (i : Nat) (y : Cell) : (S.set i y).n = S.n := by
  unfold Sto.set
  split <;> rfl

/-- an exception: its class's number and what it keeps -/
structure Ex where
  cls : Nat
  fs : List (Str × D)

inductive Res (α : Type) where
  | ok (a : α) (S : Sto)
  | exc (x : Ex) (S : Sto)
  | stuck
  /-- any number below t -/
  | pick (t : Nat) (f : Nat → Res α)
def Res.bind {α β : Type} (r : Res α) (k : α → Sto → Res β) : Res β := match r with
  | .ok a S => k a S
  | .exc x S => .exc x S
  | .stuck => .stuck
  | .pick t f => .pick t fun r => (f r).bind k

abbrev SD := List (Option D)
abbrev ME := SD → Sto → Res D
abbrev MT := SD → Sto → Res Bool
abbrev MA := SD → Sto → Res (List D)
abbrev MF := List D → Sto → Res D

/-! ### the relation -/
structure Glo where
  K : PySem.W.Frag
  ca : Nat → Value
  /-- tables of code objects: where they stand, whose lambdas they tell -/
  tb : List (Addr × Str) := []
abbrev Rho := Nat → Option Addr
/-- the script: known to its object, or an object of the module -/
def ScrAt (K : PySem.W.Frag) (H : Hp) (a : Addr) (l : List Int) : Prop := (∃ o, H a = some (.frz o (.lst (l.map V.int)))) ∨ ∀ H' : Hp, SqL K H' a (l.map V.int)
theorem ScrAt.seq {K : PySem.W.Frag} {H : Hp} {a : Addr} {l : List Int} (h : ScrAt K H a l) : SqL K H a (l.map V.int) := by
  rcases h with ⟨o, h⟩ | h
  · exact .inl (.inr ⟨o, h⟩)
  · exact h H
theorem ScrAt.of {K : PySem.W.Frag} {H : Hp} {a : Addr} {l : List Int} (hO : Only H) (h : SqL K H a (l.map V.int)) : ScrAt K H a l := by
  rcases h with (h | ⟨o, h⟩) | h
  · rcases hO a with z | ⟨o, xs, z⟩
    · rw [z] at h
      cases h
    · rw [z] at h
      cases h
  · exact .inl ⟨o, h⟩
  · exact .inr fun _ => .inr h

mutual
def RelD (G : Glo) (ρ : Rho) (H : Hp) : D → V → Prop
  | .non, v => v = .non
  | .bl b, v => v = .bl b
  | .int i, v => v = .int i
  | .str x, v => v = .str ⟨x.toArray⟩
  | .tup l, v => ∃ a xs, v = .ref a ∧ H a = some (.tup xs) ∧ RelDs G ρ H l xs
  | .loc n, v => ∃ a, ρ n = some a ∧ v = .ref a
  | .cls n, v => RelV v (G.ca n)
  | .scr l, v => ∃ a, v = .ref a ∧ ScrAt G.K H a l
def RelDs (G : Glo) (ρ : Rho) (H : Hp) : List D → List V → Prop
  | [], xs => xs = []
  | d :: r, xs => ∃ v ys, xs = v :: ys ∧ RelD G ρ H d v ∧ RelDs G ρ H r ys
end

/-- the heap has grown: tuples, and what is known to an object, stay -/
structure Le (G : Glo) (ρ : Rho) (H : Hp) (ρ' : Rho) (H' : Hp) : Prop where
  rho : ∀ i a, ρ i = some a → ρ' i = some a
  tp : ∀ a xs, H a = some (.tup xs) → H' a = some (.tup xs)
  fz : ∀ a o u, H a = some (.frz o u) → H' a = some (.frz o u)
theorem Le.refl {G : Glo} {ρ : Rho} {H : Hp} : Le G ρ H ρ H := ⟨fun _ _ h => h, fun _ _ h => h, fun _ _ _ h => h⟩
theorem Le.trans {G : Glo} {ρ ρ1 ρ2 : Rho} {H H1 H2 : Hp} (a : Le G ρ H ρ1 H1) (b : Le G ρ1 H1 ρ2 H2) : Le G ρ H ρ2 H2 :=
  ⟨fun i x h => b.rho i x (a.rho i x h), fun x xs h => b.tp x xs (a.tp x xs h), fun x o u h => b.fz x o u (a.fz x o u h)⟩
theorem Le.tup {G : Glo} {ρ ρ' : Rho} {H H' : Hp} (le : Le G ρ H ρ' H') : ∀ a xs, H a = some (.tup xs) → H' a = some (.tup xs) := le.tp
theorem Le.scr {G : Glo} {ρ ρ' : Rho} {H H' : Hp} (le : Le G ρ H ρ' H') : ∀ a l, ScrAt G.K H a l → ScrAt G.K H' a l := fun a l h => by
  rcases h with ⟨ob, h⟩ | h
  · exact .inl ⟨ob, le.fz _ _ _ h⟩
  · exact .inr h

structure Lw (G : Glo) (ρ : Rho) (H : Hp) (ρ' : Rho) (H' : Hp) : Prop where
  rho : ∀ i a, ρ i = some a → ρ' i = some a
  tup : ∀ a xs, H a = some (.tup xs) → H' a = some (.tup xs)
  scr : ∀ a l, ScrAt G.K H a l → ScrAt G.K H' a l
theorem Le.lw {G : Glo} {ρ ρ' : Rho} {H H' : Hp} (le : Le G ρ H ρ' H') : Lw G ρ H ρ' H' := ⟨le.rho, le.tup, le.scr⟩
mutual
theorem RelD.monoW {G : Glo} {ρ ρ' : Rho} {H H' : Hp} (le : Lw G ρ H ρ' H') : ∀ {d : D} {v : V}, RelD G ρ H d v → RelD G ρ' H' d v
  | .non, _, h => by simpa only [RelD] using h
  | .bl _, _, h => by simpa only [RelD] using h
  | .int _, _, h => by simpa only [RelD] using h
  | .str _, _, h => by simpa only [RelD] using h
  | .tup l, v, h => by
    simp only [RelD] at h ⊢
    obtain ⟨a, xs, e, hs, hr⟩ := h
    exact ⟨a, xs, e, le.tup a xs hs, RelDs.monoW le hr⟩
  | .loc n, v, h => by
    simp only [RelD] at h ⊢
    obtain ⟨a, e, h⟩ := h
    exact ⟨a, le.rho _ _ e, h⟩
  | .cls _, _, h => by simpa only [RelD] using h
  | .scr _, _, h => by
    simp only [RelD] at h ⊢
    obtain ⟨a, e, h⟩ := h
    exact ⟨a, e, le.scr _ _ h⟩
theorem RelDs.monoW {G : Glo} {ρ ρ' : Rho} {H H' : Hp} (le : Lw G ρ H ρ' H') : ∀ {l : List D} {xs : List V}, RelDs G ρ H l xs → RelDs G ρ' H' l xs
  | [], _, h => by simpa only [RelDs] using h
  | d :: r, xs, h => by
    simp only [RelDs] at h ⊢
    obtain ⟨v, ys, e, h1, h2⟩ := h
    exact ⟨v, ys, e, RelD.monoW le h1, RelDs.monoW le h2⟩
end
theorem RelD.mono {G : Glo} {ρ ρ' : Rho} {H H' : Hp} (le : Le G ρ H ρ' H') {d : D} {v : V} (h : RelD G ρ H d v) : RelD G ρ' H' d v := RelD.monoW le.lw h
theorem RelDs.mono {G : Glo} {ρ ρ' : Rho} {H H' : Hp} (le : Le G ρ H ρ' H') {l : List D} {xs : List V} (h : RelDs G ρ H l xs) : RelDs G ρ' H' l xs := RelDs.monoW le.lw h
section
variable {G : Glo} {ρ : Rho} {H : Hp}
theorem RelDs.nil : RelDs G ρ H [] [] := by simp only [RelDs]
theorem RelDs.cons {d : D} {v : V} {l : List D} {xs : List V} (h : RelD G ρ H d v) (t : RelDs G ρ H l xs) : RelDs G ρ H (d :: l) (v :: xs) := by
  simp only [RelDs]
  exact ⟨v, xs, rfl, h, t⟩
theorem RelDs.length : ∀ {l : List D} {xs : List V}, RelDs G ρ H l xs → l.length = xs.length
  | [], _, h => by
    simp only [RelDs] at h
    subst h
    rfl
  | d :: r, xs, h => by
    simp only [RelDs] at h
    obtain ⟨v, ys, rfl, h1, h2⟩ := h
    simp only [List.length_cons, RelDs.length h2]
theorem RelDs.get : ∀ {l : List D} {xs : List V} {i : Nat} {d : D}, RelDs G ρ H l xs → l[i]? = some d → ∃ v, xs[i]? = some v ∧ RelD G ρ H d v
  | [], _, _, _, _, e => by simp at e
  | d :: r, xs, i, d', h, e => by
    simp only [RelDs] at h
    obtain ⟨v, ys, rfl, h1, h2⟩ := h
    cases i with
    | zero =>
      simp only [List.getElem?_cons_zero, Option.some.injEq] at e ⊢
      subst e
      exact ⟨v, rfl, h1⟩
    | succ i =>
      simp only [List.getElem?_cons_succ] at e ⊢
      exact RelDs.get h2 e
theorem RelDs.append : ∀ {l m : List D} {xs ys : List V}, RelDs G ρ H l xs → RelDs G ρ H m ys → RelDs G ρ H (l ++ m) (xs ++ ys)
  | [], _, _, _, h, h2 => by
    simp only [RelDs] at h
    subst h
    exact h2
  | d :: r, m, xs, ys, h, h2 => by
    simp only [RelDs] at h
    obtain ⟨v, zs, rfl, h1, h3⟩ := h
    exact .cons h1 (RelDs.append h3 h2)
theorem RelDs.one {d : D} {v : V} (h : RelD G ρ H d v) : RelDs G ρ H [d] [v] := .cons h .nil
theorem RelDs.set {d : D} {v : V} (h : RelD G ρ H d v) : ∀ {l : List D} {xs : List V} (i : Nat), RelDs G ρ H l xs → RelDs G ρ H (l.set i d) (xs.set i v)
  | [], _, i, t => by
    simp only [RelDs] at t
    subst t
    exact .nil
  | e :: r, xs, i, t => by
    simp only [RelDs] at t
    obtain ⟨w, ys, rfl, h1, h2⟩ := t
    cases i with
    | zero => exact .cons h h2
    | succ i => exact .cons h1 (RelDs.set h i h2)
theorem RelDs.take : ∀ {l : List D} {xs : List V} (n : Nat), RelDs G ρ H l xs → RelDs G ρ H (l.take n) (xs.take n)
  | [], _, n, t => by
    simp only [RelDs] at t
    subst t
    simp only [List.take_nil]
    exact .nil
  | e :: r, xs, n, t => by
    simp only [RelDs] at t
    obtain ⟨w, ys, rfl, h1, h2⟩ := t
    cases n with
    | zero => exact .nil
    | succ n => exact .cons h1 (RelDs.take n h2)
theorem RelDs.drop : ∀ {l : List D} {xs : List V} (n : Nat), RelDs G ρ H l xs → RelDs G ρ H (l.drop n) (xs.drop n)
  | [], _, n, t => by
    simp only [RelDs] at t
    subst t
    simp only [List.drop_nil]
    exact .nil
  | e :: r, xs, n, t => by
    simp only [RelDs] at t
    obtain ⟨w, ys, rfl, h1, h2⟩ := t
    cases n with
    | zero => exact .cons h1 h2
    | succ n => exact RelDs.drop n h2
theorem RelDs.ints : ∀ (ns : List Int), RelDs G ρ H (ns.map D.int) (ns.map V.int)
  | [] => .nil
  | n :: r => .cons (by simp only [RelD]) (RelDs.ints r)
theorem RelD.tup' {l : List D} {a : Addr} {xs : List V} (h : H a = some (.tup xs)) (t : RelDs G ρ H l xs) : RelD G ρ H (.tup l) (.ref a) := by
  simp only [RelD]
  exact ⟨a, xs, rfl, h, t⟩
theorem RelD.loc' {n : Nat} {a : Addr} (h : ρ n = some a) : RelD G ρ H (.loc n) (.ref a) := by
  simp only [RelD]
  exact ⟨a, h, rfl⟩
end

/-! ### keys -/
def keyD : D → Option Key
  | .int i => some (.inl i)
  | .str x => some (.inr ⟨x.toArray⟩)
  | _ => none
def keysD : List D → Option (List Key)
  | [] => some []
  | d :: r => match keyD d, keysD r with
    | some k, some ks => some (k :: ks)
    | _, _ => none
def keyT : D → Option (List Key)
  | .tup l => keysD l
  | _ => none

/-- a dict whose keys are ints and texts, by its first one -/
def isK : List (D × D) → Bool
  | [] => true
  | p :: _ => (keyD p.1).isSome
def PairK {κ : Type} (kf : D → Option κ) (G : Glo) (ρ : Rho) (H : Hp) : List (D × D) → List (κ × V) → Prop
  | [], ys => ys = []
  | p :: r, ys => ∃ k v zs, ys = (k, v) :: zs ∧ kf p.1 = some k ∧ RelD G ρ H p.2 v ∧ PairK kf G ρ H r zs
theorem PairK.monoW {κ : Type} {kf : D → Option κ} {G : Glo} {ρ ρ' : Rho} {H H' : Hp} (le : Lw G ρ H ρ' H') : ∀ {l : List (D × D)} {ys : List (κ × V)}, PairK kf G ρ H l ys → PairK kf G ρ' H' l ys
  | [], _, h => h
  | p :: r, ys, h => by
    obtain ⟨k, v, zs, e, h1, h2, h3⟩ := h
    exact ⟨k, v, zs, e, h1, RelD.monoW le h2, PairK.monoW le h3⟩
theorem PairK.mono {κ : Type} {kf : D → Option κ} {G : Glo} {ρ ρ' : Rho} {H H' : Hp} (le : Le G ρ H ρ' H') {l : List (D × D)} {ys : List (κ × V)} (h : PairK kf G ρ H l ys) : PairK kf G ρ' H' l ys := PairK.monoW le.lw h

def PairR (G : Glo) (ρ : Rho) (H : Hp) : List (D × D) → List (V × V) → Prop
  | [], ys => ys = []
  | p :: r, ys => ∃ k v zs, ys = (k, v) :: zs ∧ RelD G ρ H p.1 k ∧ RelD G ρ H p.2 v ∧ PairR G ρ H r zs
theorem PairR.monoW {G : Glo} {ρ ρ' : Rho} {H H' : Hp} (le : Lw G ρ H ρ' H') : ∀ {l : List (D × D)} {ys : List (V × V)}, PairR G ρ H l ys → PairR G ρ' H' l ys
  | [], _, h => h
  | p :: r, ys, h => by
    obtain ⟨k, v, zs, e, h1, h2, h3⟩ := h
    exact ⟨k, v, zs, e, RelD.monoW le h1, RelD.monoW le h2, PairR.monoW le h3⟩

def RelSl (G : Glo) (ρ : Rho) (H : Hp) (l : List (Option D)) (vs : List (Option V)) : Prop := ∀ (i : Nat) (d : D), l[i]? = some (some d) → ∃ v, vs[i]? = some (some v) ∧ RelD G ρ H d v
theorem RelSl.monoW {G : Glo} {ρ ρ' : Rho} {H H' : Hp} (le : Lw G ρ H ρ' H') {l : List (Option D)} {vs : List (Option V)} (h : RelSl G ρ H l vs) : RelSl G ρ' H' l vs := fun i d e =>
  let ⟨v, e1, r⟩ := h i d e
  ⟨v, e1, RelD.monoW le r⟩
theorem RelSl.mono {G : Glo} {ρ ρ' : Rho} {H H' : Hp} (le : Le G ρ H ρ' H') {l : List (Option D)} {vs : List (Option V)} (h : RelSl G ρ H l vs) : RelSl G ρ' H' l vs := RelSl.monoW le.lw h

/-- a dict as it stands: unlocked (0), or known to an object while it is walked -/
def DctAt (H : Hp) (a : Addr) (lk : Nat) (u : HO) : Prop := match lk with
  | 0 => H a = some u
  | _ => ∃ o, H a = some (.frz o u)
def CellOk (G : Glo) (ρ : Rho) (H : Hp) (a : Addr) : Cell → Prop
  | .lst l => ∃ xs, H a = some (.lst xs) ∧ RelDs G ρ H l xs
  | .dct lk l => (∃ kvs, DctAt H a lk (.dK kvs) ∧ PairK keyD G ρ H l kvs) ∨ (l ≠ [] ∧ ∃ kvs, DctAt H a lk (.dT kvs) ∧ PairK keyT G ρ H l kvs)
  | .ins c l => ∃ C dx vs, G.ca c = .ref C ∧ SlX.Slt H a C dx vs ∧ RelSl G ρ H l vs
  | .dice => ∃ x y z : Int, H a = some (.lst [.int x, .int y, .int z])
  | .exv c fs => ∃ C d, G.ca c = .ref C ∧ H a = some (exo a C d) ∧ ((d = none ∧ fs = []) ∨ ∃ dx gs, d = some dx ∧ H dx = some (.xd gs) ∧ ∀ f e, fs.lookup f = some e → ∃ v, gs.lookup f = some v ∧ RelD G ρ H e v)
  | .raw l => ∃ (o : Obj) (es : Array DictEntry) (ep : Nat) (kvs : List (V × V)), H a = some (knownO a o) ∧ (a == sysModules) = false ∧ o.ExactDict ∧ o.data = .dict es ep ∧ EntsOk kvs es ∧ PairR G ρ H l kvs

/-- a table of code objects, none of which is a cell -/
def TabF (ρ : Rho) (H : Hp) (P : Addr) (q : Str) : Prop := ∃ ps : Array Value, H P = some (.tbl ps) ∧ TriplesOk ps.toList ∧ ∀ (pos : Pos) (cv : Value), codeAmong pos ps.toList = some cv → ∃ c, cv = .ref c ∧ H c = some (LamX.CodeO c q) ∧ ∀ i, ρ i ≠ some c
theorem TabF.mono {ρ ρ' : Rho} {H H' : Hp} {P : Addr} {q : Str} (h : TabF ρ H P q) (hP : ∀ ps, H P = some (.tbl ps) → H' P = some (.tbl ps)) (hc : ∀ c, H c = some (LamX.CodeO c q) → (∀ i, ρ i ≠ some c) → H' c = some (LamX.CodeO c q) ∧ ∀ i, ρ' i ≠ some c) : TabF ρ' H' P q := by
  obtain ⟨ps, h1, h2, h3⟩ := h
  refine ⟨ps, hP _ h1, h2, fun pos cv e => ?_⟩
  obtain ⟨c, e1, e2, e3⟩ := h3 pos cv e
  exact ⟨c, e1, hc c e2 e3⟩
structure Rep (G : Glo) (ρ : Rho) (S : Sto) (H : Hp) : Prop where
  cell : ∀ i c, S.get i = some c → ∃ a, ρ i = some a ∧ CellOk G ρ H a c
  inj : ∀ i j a, ρ i = some a → ρ j = some a → i = j
  top : ∀ i, S.n ≤ i → ρ i = none
  dom : ∀ i a, ρ i = some a → ∃ o, H a = some o
  tab : ∀ p ∈ G.tb, TabF ρ H p.1 p.2

/-! ### the heap changes -/
/-- what may be written by a store of ours, or is new: nothing of it is a tuple or the script -/
def Wr : Option HO → Prop
  | none => True
  | some (.lst _) => True
  | some (.dK _) => True
  | some (.dT _) => True
  | some (.ins _ _ _) => True
  | some (.ext _) => True
  | some (.own _) => True
  | some (.xd _) => True
  | some (.tbl _) => True
  | _ => False
section
variable {G : Glo} {ρ : Rho} {H : Hp}
theorem Le.upd {p : Addr} {o : HO} (w : Wr (H p)) : Le G ρ H ρ (upd H p o) := ⟨fun _ _ h => h, fun a xs h => by
  have ne : a ≠ p := fun z => by
    rw [← z, h] at w
    exact w
  rw [upd_ne ne]
  exact h, fun a ob u h => by
  have ne : a ≠ p := fun z => by
    rw [← z, h] at w
    exact w
  rw [upd_ne ne]
  exact h⟩
def ext (ρ : Rho) (n : Nat) (p : Addr) : Rho := fun i => if i = n then some p else ρ i
theorem ext_same {n : Nat} {p : Addr} : ext ρ n p n = some p := by
  unfold ext
  rw [if_pos rfl]
theorem ext_ne {n i : Nat} {p : Addr} (h : i ≠ n) : ext ρ n p i = ρ i := by
  unfold ext
  rw [if_neg h]
theorem Le.ext {n : Nat} {p : Addr} (hn : ρ n = none) : Le G ρ H (ext ρ n p) H := ⟨fun i a h => by
  have ne : i ≠ n := fun z => by
    rw [z, hn] at h
    cases h
  rw [ext_ne ne]
  exact h, fun _ _ h => h, fun _ _ _ h => h⟩
theorem Le.same {H' : Hp} (h : Same H H') : Le G ρ H ρ H' := ⟨fun _ _ h => h, fun a xs q => h _ _ q, fun a o u q => h _ _ q⟩

/-- a cell stands on its own address (and an instance's dict) -/
theorem CellOk.there {a : Addr} {c : Cell} (h : CellOk G ρ H a c) : ∃ o, H a = some o := by
  cases c with
  | lst l =>
    obtain ⟨xs, h, _⟩ := h
    exact ⟨_, h⟩
  | dct lk l =>
    rcases h with ⟨kvs, h, _⟩ | ⟨_, kvs, h, _⟩
    · cases lk with
      | zero => exact ⟨_, h⟩
      | succ k =>
        obtain ⟨o, h⟩ := h
        exact ⟨_, h⟩
    · cases lk with
      | zero => exact ⟨_, h⟩
      | succ k =>
        obtain ⟨o, h⟩ := h
        exact ⟨_, h⟩
  | ins k l =>
    obtain ⟨C, dx, vs, _, h, _⟩ := h
    rcases h with ⟨h, _⟩ | ⟨h, _⟩
    · exact ⟨_, h⟩
    · exact ⟨_, h⟩
  | dice =>
    obtain ⟨x, y, z, h⟩ := h
    exact ⟨_, h⟩
  | exv k fs =>
    obtain ⟨C, d, _, h, _⟩ := h
    exact ⟨_, h⟩
  | raw l =>
    obtain ⟨o, es, ep, kvs, h, _⟩ := h
    exact ⟨_, h⟩
/-- what of a heap a cell leans on -/
theorem CellOk.keepW {ρ' : Rho} {H' : Hp} {a : Addr} {c : Cell} (h : CellOk G ρ H a c) (le : Lw G ρ H ρ' H') (k : ∀ o, H a = some o → H' a = some o) (kd : ∀ dx gs, H dx = some (.xd gs) → H' dx = some (.xd gs)) : CellOk G ρ' H' a c := by
  cases c with
  | lst l =>
    obtain ⟨xs, h, r⟩ := h
    exact ⟨xs, k _ h, RelDs.monoW le r⟩
  | dct lk l =>
    have at_ : ∀ u, DctAt H a lk u → DctAt H' a lk u := fun u h => by
      cases lk with
      | zero => exact k _ h
      | succ n =>
        obtain ⟨o, h⟩ := h
        exact ⟨o, k _ h⟩
    rcases h with ⟨kvs, h, r⟩ | ⟨hne, kvs, h, r⟩
    · exact .inl ⟨kvs, at_ _ h, PairK.monoW le r⟩
    · exact .inr ⟨hne, kvs, at_ _ h, PairK.monoW le r⟩
  | ins n l =>
    obtain ⟨C, dx, vs, e, h, r⟩ := h
    refine ⟨C, dx, vs, e, ?_, RelSl.monoW le r⟩
    rcases h with ⟨h1, h2⟩ | ⟨h1, h2⟩
    · exact .inl ⟨k _ h1, h2⟩
    · exact .inr ⟨k _ h1, kd _ _ h2⟩
  | dice =>
    obtain ⟨x, y, z, h⟩ := h
    exact ⟨x, y, z, k _ h⟩
  | exv n fs =>
    obtain ⟨C, d, e, h, r⟩ := h
    refine ⟨C, d, e, k _ h, ?_⟩
    rcases r with r | ⟨dx, gs, e1, h1, h2⟩
    · exact .inl r
    · exact .inr ⟨dx, gs, e1, kd _ _ h1, fun f e q => let ⟨v, q1, q2⟩ := h2 f e q; ⟨v, q1, RelD.monoW le q2⟩⟩
  | raw l =>
    obtain ⟨o, es, ep, kvs, h, h1, h2, h3, h4, h5⟩ := h
    exact ⟨o, es, ep, kvs, k _ h, h1, h2, h3, h4, PairR.monoW le h5⟩
theorem CellOk.keep {ρ' : Rho} {H' : Hp} {a : Addr} {c : Cell} (h : CellOk G ρ H a c) (le : Le G ρ H ρ' H') (k : ∀ o, H a = some o → H' a = some o) (kd : ∀ dx gs, H dx = some (.xd gs) → H' dx = some (.xd gs)) : CellOk G ρ' H' a c := h.keepW le.lw k kd
/-- all of the heap stays -/
theorem Rep.same {S : Sto} {H' : Hp} (r : Rep G ρ S H) (h : Same H H') : Rep G ρ S H' :=
  ⟨fun i c e => let ⟨a, e1, q⟩ := r.cell i c e; ⟨a, e1, q.keep (Le.same h) (fun o => h a o) fun dx gs => h dx _⟩, r.inj, r.top, fun i a e => let ⟨o, q⟩ := r.dom i a e; ⟨o, h _ _ q⟩, fun p hp => (r.tab p hp).mono (fun _ => h _ _) fun c e1 e2 => ⟨h _ _ e1, e2⟩⟩
theorem same_new {p : Addr} {o : HO} (h : H p = none) : Same H (upd H p o) := fun b x e => by
  rw [upd_ne (ne_of_none e h)]
  exact e
/-- a new object that no one names -/
theorem Rep.free {S : Sto} {p : Addr} {o : HO} (r : Rep G ρ S H) (h : H p = none) : Rep G ρ S (upd H p o) := r.same (same_new h)
/-- a new cell -/
theorem Rep.new {S : Sto} {p : Addr} {o : HO} {c : Cell} (r : Rep G ρ S H) (h : H p = none) (q : CellOk G (Y.ext ρ S.n p) (L2.upd H p o) p c) : Rep G (Y.ext ρ S.n p) (S.new c) (L2.upd H p o) := by
  have hn : ρ S.n = none := r.top _ (Nat.le_refl _)
  have le : Le G ρ H (Y.ext ρ S.n p) (L2.upd H p o) := (Le.ext hn).trans (Le.same (same_new h))
  have nop : ∀ i a, ρ i = some a → i < S.n := fun i a e => by
    by_cases z : S.n ≤ i
    · rw [r.top i z] at e
      cases e
    · omega
  have nep : ∀ i, ρ i ≠ some p := fun i e => by
    obtain ⟨o, z⟩ := r.dom i p e
    rw [h] at z
    cases z
  refine ⟨fun i c' e => ?_, fun i j a e1 e2 => ?_, fun i hi => ?_, fun i a e => ?_, fun t ht => (r.tab t ht).mono (fun _ => same_new h _ _) fun c e1 e2 => ⟨same_new h _ _ e1, fun i e3 => ?_⟩⟩
  · rw [Sto.get_new] at e
    split at e
    · rename_i z
      cases e
      exact ⟨p, by rw [z]; exact ext_same, q⟩
    · rename_i z
      obtain ⟨a, e1, q1⟩ := r.cell i c' e
      exact ⟨a, le.rho _ _ e1, q1.keep le (fun x e => same_new h _ _ e) fun dx gs e => same_new h _ _ e⟩
  · by_cases h1 : i = S.n
    · by_cases h2 : j = S.n
      · rw [h1, h2]
      · rw [h1, ext_same] at e1
        rw [ext_ne h2, ← e1] at e2
        exact absurd e2 (nep j)
    · rw [ext_ne h1] at e1
      by_cases h2 : j = S.n
      · rw [h2, ext_same, ← e1] at e2
        exact absurd e2.symm (nep i)
      · rw [ext_ne h2] at e2
        exact r.inj i j a e1 e2
  · rw [ext_ne (by show i ≠ S.n; have : S.n + 1 ≤ i := hi; omega)]
    exact r.top i (by have : S.n + 1 ≤ i := hi; omega)
  · by_cases h1 : i = S.n
    · rw [h1, ext_same] at e
      cases e
      exact ⟨o, upd_same⟩
    · rw [ext_ne h1] at e
      obtain ⟨x, q⟩ := r.dom i a e
      exact ⟨x, same_new h _ _ q⟩
  · by_cases h1 : i = S.n
    · rw [h1, ext_same] at e3
      cases e3
      rw [h] at e1
      cases e1
    · rw [ext_ne h1] at e3
      exact e2 i e3
/-- what may be written: not an instance's dict -/
def Wr1 : Option HO → Prop
  | some (.lst _) => True
  | some (.dK _) => True
  | some (.dT _) => True
  | some (.ins _ _ _) => True
  | some (.ext _) => True
  | _ => False
theorem Wr1.wr {o : Option HO} (h : Wr1 o) : Wr o := by
  cases o with
  | none => exact h.elim
  | some u => cases u <;> first | exact trivial | exact h.elim
/-- a cell is written -/
theorem Rep.setW {S : Sto} {i : Nat} {a : Addr} {o : HO} {c c' : Cell} (r : Rep G ρ S H) (hi : S.get i = some c) (ha : ρ i = some a) (lw : Lw G ρ H ρ (L2.upd H a o)) (hx : ∀ gs, H a ≠ some (.xd gs)) (ht : ∀ ps, H a ≠ some (.tbl ps)) (q : CellOk G ρ (L2.upd H a o) a c') : Rep G ρ (S.set i c') (L2.upd H a o) := by
  refine ⟨fun j c2 e => ?_, r.inj, fun j hj => r.top j (by rw [Sto.set_n] at hj; exact hj), fun j b e => ?_, fun t htt => (r.tab t htt).mono (fun ps e => by rw [upd_ne (fun z => ht ps (by rw [← z]; exact e))]; exact e) fun c e1 e2 => ⟨by rw [upd_ne (fun z => e2 i (by rw [z]; exact ha))]; exact e1, e2⟩⟩
  · by_cases h : j = i
    · rw [h, Sto.get_set_self hi] at e
      cases e
      exact ⟨a, by rw [h]; exact ha, q⟩
    · rw [Sto.get_set_ne h] at e
      obtain ⟨b, e1, q1⟩ := r.cell j c2 e
      have ne : b ≠ a := fun z => h (r.inj j i a (by rw [← z]; exact e1) ha)
      refine ⟨b, e1, q1.keepW lw (fun x e => by rw [upd_ne ne]; exact e) fun dx gs e => ?_⟩
      have nd : dx ≠ a := fun z => by
        rw [z] at e
        exact hx gs e
      rw [upd_ne nd]
      exact e
  · by_cases h : b = a
    · exact ⟨o, by rw [h]; exact upd_same⟩
    · obtain ⟨x, z⟩ := r.dom j b e
      exact ⟨x, by rw [upd_ne h]; exact z⟩
theorem Rep.set {S : Sto} {i : Nat} {a : Addr} {o : HO} {c c' : Cell} (r : Rep G ρ S H) (hi : S.get i = some c) (ha : ρ i = some a) (w : Wr1 (H a)) (q : CellOk G ρ (L2.upd H a o) a c') : Rep G ρ (S.set i c') (L2.upd H a o) :=
  r.setW hi ha (Le.upd w.wr).lw (fun gs z => by rw [z] at w; exact w) (fun ps z => by rw [z] at w; exact w) q
/-- a dict is locked, unlocked -/
theorem Rep.lock {S : Sto} {n : Nat} {l : List (D × D)} {v : V} (r : Rep G ρ S H) (hi : S.get n = some (.dct 0 l)) (h : RelD G ρ H (.loc n) v) : ∃ a u, v = .ref a ∧ ρ n = some a ∧ H a = some u ∧ Mut (some u) ∧ Wr (some u) ∧ (∀ xs, u ≠ .tup xs) ∧ (∀ xs, u ≠ .lst xs) ∧ ∀ od, Rep G ρ (S.set n (.dct 1 l)) (L2.upd H a (.frz od u)) := by
  simp only [RelD] at h
  obtain ⟨a, e, rfl⟩ := h
  obtain ⟨b, e1, q⟩ := r.cell n _ hi
  rw [e] at e1
  cases e1
  rcases q with ⟨kvs, hd, p⟩ | ⟨hne, kvs, hd, p⟩
  · have hd : H a = some (.dK kvs) := hd
    have w : Wr1 (H a) := by rw [hd]; exact trivial
    exact ⟨a, _, rfl, e, hd, trivial, trivial, fun xs z => (by cases z), fun xs z => (by cases z), fun od => r.set hi e w (Or.inl ⟨kvs, ⟨od, upd_same⟩, p.mono (Le.upd w.wr)⟩)⟩
  · have hd : H a = some (.dT kvs) := hd
    have w : Wr1 (H a) := by rw [hd]; exact trivial
    exact ⟨a, _, rfl, e, hd, trivial, trivial, fun xs z => (by cases z), fun xs z => (by cases z), fun od => r.set hi e w (Or.inr ⟨hne, kvs, ⟨od, upd_same⟩, p.mono (Le.upd w.wr)⟩)⟩
theorem Rep.unlock {S : Sto} {n : Nat} {l : List (D × D)} {a : Addr} {od : Obj} {u : HO} (r : Rep G ρ S H) (hi : S.get n = some (.dct 1 l)) (e : ρ n = some a) (hd : H a = some (.frz od u)) (u1 : ∀ xs, u ≠ .tup xs) (u2 : ∀ xs, u ≠ .lst xs) : Rep G ρ (S.set n (.dct 0 l)) (L2.upd H a u) := by
  have lw : Lw G ρ H ρ (L2.upd H a u) := ⟨fun _ _ h => h, fun b xs h => by
    rw [upd_ne (fun z => by rw [z, hd] at h; cases h)]
    exact h, fun b l h => by
    rcases h with ⟨ob, h⟩ | h
    · exact .inl ⟨ob, by rw [upd_ne (fun z => by rw [z, hd] at h; cases h; exact u2 _ rfl)]; exact h⟩
    · exact .inr h⟩
  obtain ⟨b, e1, q⟩ := r.cell n _ hi
  rw [e] at e1
  cases e1
  refine r.setW hi e lw (fun gs z => by rw [hd] at z; cases z) (fun ps z => by rw [hd] at z; cases z) ?_
  rcases q with ⟨kvs, ⟨o, h⟩, p⟩ | ⟨hne, kvs, ⟨o, h⟩, p⟩
  · rw [hd] at h
    cases h
    exact .inl ⟨kvs, upd_same, p.monoW lw⟩
  · rw [hd] at h
    cases h
    exact .inr ⟨hne, kvs, upd_same, p.monoW lw⟩
theorem le_unlock {ρ' : Rho} {H' : Hp} {a : Addr} {od : Obj} {u : HO} (hd : H a = some u) (w : Wr (some u)) (le : Le G ρ (L2.upd H a (.frz od u)) ρ' H') : Le G ρ H ρ' (L2.upd H' a u) := by
  refine ⟨le.rho, fun b xs h => ?_, fun b o x h => ?_⟩
  · have ne : b ≠ a := fun z => by
      rw [z, hd] at h
      cases h
      exact w
    rw [upd_ne ne]
    exact le.tp _ _ (by rw [upd_ne ne]; exact h)
  · have ne : b ≠ a := fun z => by
      rw [z, hd] at h
      cases h
      exact w
    rw [upd_ne ne]
    exact le.fz _ _ _ (by rw [upd_ne ne]; exact h)
/-- less is known -/
theorem Rep.list {S : Sto} {i : Nat} {l : List D} {v : V} (r : Rep G ρ S H) (hi : S.get i = some (.lst l)) (h : RelD G ρ H (.loc i) v) : ∃ a xs, v = .ref a ∧ ρ i = some a ∧ H a = some (.lst xs) ∧ RelDs G ρ H l xs := by
  simp only [RelD] at h
  obtain ⟨a, e, rfl⟩ := h
  obtain ⟨b, e1, xs, q, t⟩ := r.cell i _ hi
  rw [e] at e1
  cases e1
  exact ⟨a, xs, rfl, e, q, t⟩
end

/-! ### what follows -/
/-- an exception's class and own dict -/
def RelX (G : Glo) (ρ : Rho) (H : Hp) (x : Ex) (cls : Value) (d : Option Addr) : Prop := cls = G.ca x.cls ∧
  match x.fs, d with
  | [], _ => True
  | fs, some a => ∃ gs, H a = some (.xd gs) ∧ ∀ f e, fs.lookup f = some e → ∃ v, gs.lookup f = some v ∧ RelD G ρ H e v
  | _, none => False
section
variable (G : Glo) {α β : Type} (RL : Rho → Hp → α → β → Prop)
def Aft (ρ : Rho) (H : Hp) (r : Res α) (Q : β → Hp → Prop) (W : XK) : Prop := match r with
  | .ok d S => ∀ ρ' H' v, Le G ρ H ρ' H' → Rep G ρ' S H' → RL ρ' H' d v → Q v H'
  | .exc x S => ∀ ρ' H' cls dd, Le G ρ H ρ' H' → Rep G ρ' S H' → RelX G ρ' H' x cls dd → W cls dd H'
  | .stuck => False
  | .pick t f => ∀ r, r < t → Aft ρ H (f r) Q W
end
section
variable {G : Glo} {α β α' β' : Type} {RL : Rho → Hp → α → β → Prop} {RL' : Rho → Hp → α' → β' → Prop} {ρ ρ' : Rho} {H H' : Hp}
theorem Aft.le {r : Res α} {Q : β → Hp → Prop} {W : XK} (h : Aft G RL ρ H r Q W) (le : Le G ρ H ρ' H') : Aft G RL ρ' H' r Q W := by
  induction r with
  | ok d S => exact fun ρ2 H2 v l1 r1 r2 => h ρ2 H2 v (le.trans l1) r1 r2
  | exc x S => exact fun ρ2 H2 c d l1 r1 r2 => h ρ2 H2 c d (le.trans l1) r1 r2
  | stuck => exact h
  | pick t f ih => exact fun r hr => ih r (h r hr)
theorem Aft.bind {r : Res α'} {k : α' → Sto → Res α} {Q : β → Hp → Prop} {W : XK} (h : Aft G RL ρ H (r.bind k) Q W) {Q' : β' → Hp → Prop}
    (f : ∀ ρ1 H1 v d S1, Le G ρ H ρ1 H1 → Rep G ρ1 S1 H1 → RL' ρ1 H1 d v → Aft G RL ρ1 H1 (k d S1) Q W → Q' v H1) : Aft G RL' ρ H r Q' W := by
  induction r with
  | ok d S => exact fun ρ1 H1 v le rp rl => f ρ1 H1 v d S le rp rl (Aft.le (r := k d S) h le)
  | exc x S => exact h
  | stuck => exact h
  | pick t g ih => exact fun r hr => ih r (h r hr)
theorem Aft.ok {d : α} {S : Sto} {Q : β → Hp → Prop} {W : XK} {v : β} (h : Aft G RL ρ H (.ok d S) Q W) (r : Rep G ρ S H) (rl : RL ρ H d v) : Q v H := h ρ H v Le.refl r rl
/-- a bind in which nothing may be raised -/
def Res.bindX (r : Res α') (k : α' → Sto → Res α) : Res α := match r with
  | .ok a S => k a S
  | .exc _ _ => .stuck
  | .stuck => .stuck
  | .pick t f => .pick t fun r => (f r).bindX k
theorem Aft.bindX {r : Res α'} {k : α' → Sto → Res α} {Q : β → Hp → Prop} {W W' : XK} (h : Aft G RL ρ H (r.bindX k) Q W) {Q' : β' → Hp → Prop}
    (f : ∀ ρ1 H1 v d S1, Le G ρ H ρ1 H1 → Rep G ρ1 S1 H1 → RL' ρ1 H1 d v → Aft G RL ρ1 H1 (k d S1) Q W → Q' v H1) : Aft G RL' ρ H r Q' W' := by
  induction r with
  | ok d S => exact fun ρ1 H1 v le rp rl => f ρ1 H1 v d S le rp rl (Aft.le (r := k d S) h le)
  | exc x S => exact h.elim
  | stuck => exact h
  | pick t g ih => exact fun r hr => ih r (h r hr)
/-- all ends -/
def Res.all (p : α → Sto → Bool) : Res α → Bool
  | .ok a S => p a S
  | .exc _ _ => false
  | .stuck => false
  | .pick t f => (List.range t).all fun r => (f r).all p
theorem Res.all_aft {p : α → Sto → Bool} {r : Res α} {Q : β → Hp → Prop} {W : XK} (h : r.all p = true) (f : ∀ d S, p d S = true → ∀ ρ' H' v, Le G ρ H ρ' H' → Rep G ρ' S H' → RL ρ' H' d v → Q v H') : Aft G RL ρ H r Q W := by
  induction r with
  | ok d S => exact f d S h
  | exc x S => cases h
  | stuck => cases h
  | pick t g ih =>
    intro r hr
    simp only [Res.all, List.all_eq_true, List.mem_range] at h
    exact ih r (h r hr)
end
end Y

/-! Y2: judgements, expressions. -/
namespace Y
open PySem PySem.Spec PyProof.Rows L2

def RelSt (G : Glo) (ρ : Rho) (H : Hp) (sd : SD) (σ : L2.St) : Prop := sd.length = σ.length ∧ RelSl G ρ H sd σ
theorem RelSt.mono {G : Glo} {ρ ρ' : Rho} {H H' : Hp} {sd : SD} {σ : L2.St} (h : RelSt G ρ H sd σ) (le : Le G ρ H ρ' H') : RelSt G ρ' H' sd σ := ⟨h.1, RelSl.mono le h.2⟩
theorem RelSt.set {G : Glo} {ρ : Rho} {H : Hp} {sd : SD} {σ : L2.St} {d : D} {v : V} (h : RelSt G ρ H sd σ) (r : RelD G ρ H d v) (i : Nat) : RelSt G ρ H (sd.set i (some d)) (σ.set i (some v)) := by
  refine ⟨by simp only [List.length_set]; exact h.1, fun j e hj => ?_⟩
  by_cases hij : i = j
  · subst hij
    have hl : i < sd.length := by
      obtain ⟨z, _⟩ := List.getElem?_eq_some_iff.mp hj
      simpa using z
    rw [List.getElem?_set_self hl] at hj
    cases hj
    exact ⟨v, List.getElem?_set_self (by rw [← h.1]; exact hl), r⟩
  · rw [List.getElem?_set_ne hij] at hj ⊢
    exact h.2 j e hj

structure XOk (G : Glo) (X : Cx) (W : WX) : Prop where
  tk : Takes X W
  own : PassesOwn (model X.prog X.w) X.A X.env X.xe
  kk : G.K = X.K

def te (G : Glo) (m : ME) (W : WX) : TE := fun σ H Q => ∃ sd S ρ, RelSt G ρ H sd σ ∧ Rep G ρ S H ∧ Aft G (RelD G) ρ H (m sd S) Q (fun c d H' => W c d σ H')
def RelB (ρ : Rho) (H : Hp) (a b : Bool) : Prop := a = b
def tt (G : Glo) (m : MT) (W : WX) : TT := fun σ H Q => ∃ sd S ρ, RelSt G ρ H sd σ ∧ Rep G ρ S H ∧ Aft G RelB ρ H (m sd S) Q (fun c d H' => W c d σ H')
def ta (G : Glo) (m : MA) (W : WX) : TA := fun σ H Q => ∃ sd S ρ, RelSt G ρ H sd σ ∧ Rep G ρ S H ∧ Aft G (RelDs G) ρ H (m sd S) Q (fun c d H' => W c d σ H')

def PEm (G : Glo) (X : Cx) (e : Expr) (m : ME) : Prop := ∀ W, XOk G X W → PE X e (te G m W)
def PTm (G : Glo) (X : Cx) (e : Expr) (m : MT) : Prop := ∀ W, XOk G X W → PT X e (tt G m W)
def PAm (G : Glo) (X : Cx) (es : List Expr) (m : MA) : Prop := ∀ W, XOk G X W → PA X es (ta G m W)
/-- operations on values -/
def OpM (G : Glo) (X : Cx) (F : Value → Value → Sem Value) (f : D → D → Sto → Res D) : Prop := ∀ W, XOk G X W →
  ∀ (pins : List (Addr × Obj)) (s : Shared) (σ : L2.St) (H : Hp) (ρ : Rho) (S : Sto) (x y : V) (v u : Value) (d e : D) (Q : VK), Inv X pins σ H s → RelV x v → RelV y u → Rep G ρ S H → RelD G ρ H d x → RelD G ρ H e y →
    Aft G (RelD G) ρ H (f d e S) Q (fun c a H' => W c a σ H') → wpAny (model X.prog X.w) X.A (F v u) (EP X pins σ Q) X.xe s
def UnM (G : Glo) (X : Cx) (F : Value → Sem Value) (f : D → Sto → Res D) : Prop := ∀ W, XOk G X W →
  ∀ (pins : List (Addr × Obj)) (s : Shared) (σ : L2.St) (H : Hp) (ρ : Rho) (S : Sto) (x : V) (v : Value) (d : D) (Q : VK), Inv X pins σ H s → RelV x v → Rep G ρ S H → RelD G ρ H d x →
    Aft G (RelD G) ρ H (f d S) Q (fun c a H' => W c a σ H') → wpAny (model X.prog X.w) X.A (F v) (EP X pins σ Q) X.xe s
def CallM (G : Glo) (X : Cx) (F : Value) (f : MF) : Prop := ∀ W, XOk G X W →
  ∀ (pins : List (Addr × Obj)) (s : Shared) (σ : L2.St) (H : Hp) (ρ : Rho) (S : Sto) (xs : List V) (us : List Value) (ds : List D) (Q : VK), Inv X pins σ H s → Vals xs us → Rep G ρ S H → RelDs G ρ H ds xs →
    Aft G (RelD G) ρ H (f ds S) Q (fun c a H' => W c a σ H') → wpAny (model X.prog X.w) X.A (call F us) (EP X pins σ Q) X.xe s

theorem PE_imp {X : Cx} {e : Expr} {t t' : TE} (h : PE X e t) (f : ∀ σ H Q, t' σ H Q → t σ H Q) : PE X e t' := ⟨fun pins s σ H Q I q => h.run pins s σ H Q I (f σ H Q q)⟩
theorem PT_imp {X : Cx} {e : Expr} {t t' : TT} (h : PT X e t) (f : ∀ σ H Q, t' σ H Q → t σ H Q) : PT X e t' := ⟨fun pins s σ H Q I q => h.run pins s σ H Q I (f σ H Q q)⟩
theorem PA_imp {X : Cx} {e : List Expr} {t t' : TA} (h : PA X e t) (f : ∀ σ H Q, t' σ H Q → t σ H Q) : PA X e t' := ⟨fun pos pins s σ H Q I q => h.run pos pins s σ H Q I (f σ H Q q)⟩
theorem PS_imp {X : Cx} {e : Stmt} {t t' : TS} (h : PS X e t) (f : ∀ D σ H, t' D σ H → t D σ H) : PS X e t' := ⟨fun pins s σ H D I q => h.run pins s σ H D I (f D σ H q)⟩
theorem PSs_imp {X : Cx} {e : List Stmt} {t t' : TS} (h : PSs X e t) (f : ∀ D σ H, t' D σ H → t D σ H) : PSs X e t' := ⟨fun pins s σ H D I q => h.run pins s σ H D I (f D σ H q)⟩

/-! ### mirrors -/
def mVar (i : Nat) : ME := fun sd S => match sd[i]? with
  | some (some d) => .ok d S
  | _ => .stuck
def mC (d : D) : ME := fun _ S => .ok d S
def mBin (f : D → D → Sto → Res D) (a b : ME) : ME := fun sd S => (a sd S).bind fun x S1 => (b sd S1).bind fun y S2 => f x y S2
def mUn (f : D → Sto → Res D) (a : ME) : ME := fun sd S => (a sd S).bind f
def mNil : MA := fun _ S => .ok [] S
def mCons (a : ME) (r : MA) : MA := fun sd S => (a sd S).bind fun x S1 => (r sd S1).bind fun xs S2 => .ok (x :: xs) S2
def mTup (a : MA) : ME := fun sd S => (a sd S).bind fun l S1 => if l.length ≤ 16777216 then .ok (.tup l) S1 else .stuck
def mLst (a : MA) : ME := fun sd S => (a sd S).bind fun l S1 => if l.length ≤ 16777216 then .ok (.loc S1.n) (S1.new (.lst l)) else .stuck
def mCall (f : MF) (a : MA) : ME := fun sd S => (a sd S).bind f
def mIf (t : MT) (a b : ME) : ME := fun sd S => (t sd S).bind fun k S1 => if k then a sd S1 else b sd S1
/-- tests -/
def tAndM (t u : MT) : MT := fun sd S => (t sd S).bind fun k S1 => if k then u sd S1 else .ok false S1
def tOrM (t u : MT) : MT := fun sd S => (t sd S).bind fun k S1 => if k then .ok true S1 else u sd S1
def tNotM (t : MT) : MT := fun sd S => (t sd S).bind fun k S1 => .ok (!k) S1
def truD : D → Sto → Res Bool
  | .non, S => .ok false S
  | .bl b, S => .ok b S
  | .int i, S => .ok (i != 0) S
  | .str x, S => if x.length ≤ 16777216 then .ok (!x.isEmpty) S else .stuck
  | .tup l, S => .ok (!l.isEmpty) S
  | .loc n, S => match S.get n with
    | some (.lst l) => .ok (!l.isEmpty) S
    | _ => .stuck
  | _, _ => .stuck
def mTru (m : ME) : MT := fun sd S => (m sd S).bind truD
/-- and, or, not as values -/
def mAndV (a b : ME) : ME := fun sd S => (a sd S).bind fun x S1 => match x with
  | .bl true => b sd S1
  | .bl false => .ok (.bl false) S1
  | _ => .stuck
def mOrV (a b : ME) : ME := fun sd S => (a sd S).bind fun x S1 => match x with
  | .bl true => .ok (.bl true) S1
  | .bl false => b sd S1
  | _ => .stuck
def mNotV (a : ME) : ME := fun sd S => (a sd S).bind fun x S1 => match x with
  | .bl k => .ok (.bl (!k)) S1
  | _ => .stuck

section
variable {G : Glo} {X : Cx}
/-! ### rules -/
theorem pm_var {i : Nat} {x : Str} {pos : Pos} (hN : X.N[i]? = some x := by rfl) (hv : Vis X.env.scope x := by first | exact Or.inl rfl | exact Or.inr (Or.inl rfl) | exact Or.inr (Or.inr rfl)) (hd : (x == ("__debug__" : Str)) = false := by decide)
    (hcd : (x == ("__classdict__" : Str)) = false := by decide) : PEm G X (.Name x pos) (mVar i) := fun W ok => PE_imp (pe_var hN hv hd hcd) fun σ H Q ⟨sd, S, ρ, hs, hr, h⟩ => by
  unfold mVar at h
  split at h
  · rename_i d e
    obtain ⟨v, e1, r⟩ := hs.2 i d e
    exact ⟨v, e1, h.ok hr r⟩
  · exact h.elim
theorem pm_c {e : Expr} {d : D} {v : V} (h : PE X e (tC v)) (r : ∀ ρ H, RelD G ρ H d v) : PEm G X e (mC d) := fun W ok => PE_imp h fun σ H Q ⟨sd, S, ρ, hs, hr, h⟩ => h.ok hr (r ρ H)
theorem pm_int {i : Int} {j pos} : PEm G X (.Constant (.int i) j pos) (mC (.int i)) := pm_c pe_int fun _ _ => by simp only [RelD]
theorem pm_bl {b : Bool} {j pos} : PEm G X (.Constant (.bool b) j pos) (mC (.bl b)) := pm_c pe_bl fun _ _ => by simp only [RelD]
theorem pm_non {j pos} : PEm G X (.Constant .none j pos) (mC .non) := pm_c pe_non fun _ _ => by simp only [RelD]
theorem pm_str {x : Str} {l : List Nat} {j pos} (h : x = ⟨l.toArray⟩) : PEm G X (.Constant (.str x) j pos) (mC (.str l)) := pm_c pe_str fun _ _ => by simp only [RelD, h]
/-- a module's constant, a class -/
theorem pm_glob {x : Str} {d : D} {u : Value} {v : V} {pos : Pos} (hg : Gl X x) (hm : X.mg x = some u) (r : RelV v u) (rd : ∀ ρ H, RelD G ρ H d v) (hd : (x == ("__debug__" : Str)) = false := by decide) : PEm G X (.Name x pos) (mC d) := pm_c (pe_glob hg hm r hd) rd

theorem te_bin {ma mb : ME} {f : D → D → Sto → Res D} {W : WX} {σ : L2.St} {H : Hp} {Q : VK} {R : V → V → Hp → Prop} (h : te G (mBin f ma mb) W σ H Q)
    (k : ∀ ρ H2 S d e x y, Rep G ρ S H2 → RelD G ρ H2 d x → RelD G ρ H2 e y → Aft G (RelD G) ρ H2 (f d e S) Q (fun c a H' => W c a σ H') → R x y H2) : te G ma W σ H fun x H1 => te G mb W σ H1 fun y H2 => R x y H2 := by
  obtain ⟨sd, S, ρ, hs, hr, h⟩ := h
  refine ⟨sd, S, ρ, hs, hr, Aft.bind h fun ρ1 H1 x d S1 le1 r1 rd h1 => ⟨sd, S1, ρ1, hs.mono le1, r1, Aft.bind h1 fun ρ2 H2 y e S2 le2 r2 re h2 => ?_⟩⟩
  exact k ρ2 H2 S2 d e x y r2 (rd.mono le2) re h2
theorem pm_bin {op : Operator} {f : D → D → Sto → Res D} {a b : Expr} {ma mb : ME} {pos : Pos} (ho : OpM G X (binaryOp op) f) (ha : PEm G X a ma) (hb : PEm G X b mb) : PEm G X (.BinOp a op b pos) (mBin f ma mb) := fun W ok => by
  refine ⟨fun pins s σ H Q I h => ?_⟩
  refine wpAny_BinOp (binT (ha W ok) (hb W ok) (R := fun x y H2 => ∃ ρ S d e, Rep G ρ S H2 ∧ RelD G ρ H2 d x ∧ RelD G ρ H2 e y ∧ Aft G (RelD G) ρ H2 (f d e S) Q (fun c a H' => W c a σ H')) I (te_bin h fun ρ H2 S d e x y a b c q => ⟨ρ, S, d, e, a, b, c, q⟩) fun v u s2 x y H2 I2 rx ry q => ?_)
  obtain ⟨ρ, S, d, e, a, b, c, q⟩ := q
  exact ho W ok pins s2 σ H2 ρ S x y v u d e Q I2 rx ry a b c q
theorem pm_cmp {op : CmpOp} {f : D → D → Sto → Res D} {a b : Expr} {ma mb : ME} {pos : Pos} (ho : OpM G X (compareOp op) f) (ha : PEm G X a ma) (hb : PEm G X b mb) (hm : behindInMarks op b = false) : PEm G X (.Compare a [op] [b] pos) (mBin f ma mb) := fun W ok => by
  refine ⟨fun pins s σ H Q I h => ?_⟩
  refine wpAny_Compare1 (binT (ha W ok) (hb W ok) (R := fun x y H2 => ∃ ρ S d e, Rep G ρ S H2 ∧ RelD G ρ H2 d x ∧ RelD G ρ H2 e y ∧ Aft G (RelD G) ρ H2 (f d e S) Q (fun c a H' => W c a σ H')) I (te_bin h fun ρ H2 S d e x y a b c q => ⟨ρ, S, d, e, a, b, c, q⟩) fun v u s2 x y H2 I2 rx ry q => ?_) hm
  obtain ⟨ρ, S, d, e, a, b, c, q⟩ := q
  exact ho W ok pins s2 σ H2 ρ S x y v u d e Q I2 rx ry a b c q
/-- a comparison as a test: its answer is a bool -/
def mTst (f : D → D → Sto → Res D) (a b : ME) : MT := fun sd S => (mBin f a b sd S).bind fun d S1 => match d with
  | .bl k => .ok k S1
  | _ => .stuck
theorem aft_bl {ρ : Rho} {H : Hp} {r : Res D} {Q : Bool → Hp → Prop} {W : XK} (h : Aft G RelB ρ H (r.bind fun d S1 => match d with | .bl k => Res.ok k S1 | _ => .stuck) Q W) :
    Aft G (RelD G) ρ H r (fun z H3 => ∃ k, z = .bl k ∧ Q k H3) W := by
  refine Aft.bind h fun ρ1 H1 v d S1 le r1 rd h1 => ?_
  cases d with
  | bl k =>
    simp only [RelD] at rd
    exact ⟨k, rd, h1.ok r1 rfl⟩
  | _ => exact h1.elim
theorem pt_cmp {op : CmpOp} {f : D → D → Sto → Res D} {a b : Expr} {ma mb : ME} {pos : Pos} (ho : OpM G X (compareOp op) f) (ha : PEm G X a ma) (hb : PEm G X b mb) (hm : behindInMarks op b = false) : PTm G X (.Compare a [op] [b] pos) (mTst f ma mb) := fun W ok => by
  refine ⟨fun pins s σ H Q I h => ?_⟩
  obtain ⟨sd, S, ρ, hs, hr, h⟩ := h
  have h' : te G (mBin f ma mb) W σ H (fun z H3 => ∃ k, z = .bl k ∧ Q k H3) := ⟨sd, S, ρ, hs, hr, aft_bl h⟩
  have t := te_bin (R := fun x y H2 => ∃ ρ S d e, Rep G ρ S H2 ∧ RelD G ρ H2 d x ∧ RelD G ρ H2 e y ∧ Aft G (RelD G) ρ H2 (f d e S) (fun z H3 => ∃ k, z = .bl k ∧ Q k H3) (fun c a H' => W c a σ H')) h' fun ρ H2 S d e x y a b c q => ⟨ρ, S, d, e, a, b, c, q⟩
  refine wpAny_isTrue_Compare1 (thn ((ha W ok).run pins s σ H _ I t) fun v s1 ⟨x, H1, I1, r1, q1⟩ => thn ((hb W ok).run pins s1 σ H1 _ I1 q1) fun u s2 ⟨y, H2, I2, r2, q2⟩ => ?_) hm
  obtain ⟨ρ, S, d, e, a, b, c, q⟩ := q2
  refine thn (ho W ok pins s2 σ H2 ρ S x y v u d e _ I2 r1 r2 a b c q) fun c s3 ⟨z, H3, I3, r3, k, e, q3⟩ => ?_
  subst e
  cases r3
  exact wpAny_truthy_bool ⟨H3, I3, q3⟩
theorem pm_un {op : UnaryOp} {f : D → Sto → Res D} {a : Expr} {ma : ME} {pos : Pos} (ho : UnM G X (unaryOp op) f) (ha : PEm G X a ma) : PEm G X (.UnaryOp op a pos) (mUn f ma) := fun W ok => by
  refine ⟨fun pins s σ H Q I h => ?_⟩
  obtain ⟨sd, S, ρ, hs, hr, h⟩ := h
  have t : te G ma W σ H (fun x H1 => ∃ ρ S d, Rep G ρ S H1 ∧ RelD G ρ H1 d x ∧ Aft G (RelD G) ρ H1 (f d S) Q (fun c a H' => W c a σ H')) := ⟨sd, S, ρ, hs, hr, Aft.bind h fun ρ1 H1 x d S1 le1 r1 rd h1 => ⟨ρ1, S1, d, r1, rd, h1⟩⟩
  refine UnaryOp_ (thn ((ha W ok).run pins s σ H _ I t) fun v s1 ⟨x, H1, I1, r1, q1⟩ => ?_)
  obtain ⟨ρ1, S1, d, a, b, q⟩ := q1
  exact ho W ok pins s1 σ H1 ρ1 S1 x v d Q I1 r1 a b q
/-! ### arguments, displays -/
theorem pa_nilm : PAm G X [] mNil := fun W ok => PA_imp pa_nil fun σ H Q ⟨sd, S, ρ, hs, hr, h⟩ => h.ok hr RelDs.nil
theorem pa_consm {e : Expr} {es : List Expr} {m : ME} {r : MA} (ha : PEm G X e m) (hr : PAm G X es r) (hs : starEach (e :: es) X.env = (false, eval e X.env) :: starEach es X.env := by rfl) : PAm G X (e :: es) (mCons m r) := fun W ok =>
  PA_imp (pa_cons (ha W ok) (hr W ok) hs) fun σ H Q ⟨sd, S, ρ, hs, hr, h⟩ => ⟨sd, S, ρ, hs, hr, Aft.bind h fun ρ1 H1 x d S1 le1 r1 rd h1 => ⟨sd, S1, ρ1, hs.mono le1, r1, Aft.bind h1 fun ρ2 H2 y ds S2 le2 r2 re h2 => h2.ok r2 (.cons (rd.mono le2) re)⟩⟩
theorem pm_tup {es : List Expr} {m : MA} {x1} {pos : Pos} (ha : PAm G X es m) : PEm G X (.Tuple es x1 pos) (mTup m) := fun W ok => PE_imp (pe_tup (ha W ok)) fun σ H Q ⟨sd, S, ρ, hs, hr, h⟩ => by
  refine ⟨sd, S, ρ, hs, hr, Aft.bind h fun ρ1 H1 xs ds S1 le1 r1 rd h1 => ?_⟩
  split at h1
  · rename_i hl
    refine ⟨by rw [← rd.length, sizeLine_eq]; exact hl, fun p hp => ?_⟩
    have s := same_new (o := .tup xs) hp
    exact h1 ρ1 _ _ (Le.same s) (r1.same s) (RelD.tup' upd_same (rd.mono (Le.same s)))
  · exact h1.elim
theorem pm_lst {es : List Expr} {m : MA} {pos : Pos} (ha : PAm G X es m) : PEm G X (.List es pos) (mLst m) := fun W ok => PE_imp (pe_lst (ha W ok)) fun σ H Q ⟨sd, S, ρ, hs, hr, h⟩ => by
  refine ⟨sd, S, ρ, hs, hr, Aft.bind h fun ρ1 H1 xs ds S1 le1 r1 rd h1 => ?_⟩
  split at h1
  · rename_i hl
    refine ⟨by rw [← rd.length, sizeLine_eq]; exact hl, fun p hp => ?_⟩
    have le : Le G ρ1 H1 (ext ρ1 S1.n p) (upd H1 p (.lst xs)) := (Le.ext (r1.top _ (Nat.le_refl _))).trans (Le.same (same_new hp))
    exact h1 _ _ _ le (r1.new hp ⟨xs, upd_same, rd.mono le⟩) (RelD.loc' ext_same)
  · exact h1.elim
/-! ### tests -/
theorem truD_ok {W : WX} {pins : List (Addr × Obj)} {s : Shared} {σ : L2.St} {H : Hp} {ρ : Rho} {S : Sto} {x : V} {v : Value} {d : D} {Q : Bool → Hp → Prop} (kk : G.K = X.K) (I : Inv X pins σ H s) (rx : RelV x v) (hr : Rep G ρ S H) (rd : RelD G ρ H d x)
    (h : Aft G RelB ρ H (truD d S) Q (fun c a H' => W c a σ H')) : ∃ k, TruV X.K x H k ∧ Q k H := by
  cases d with
  | non =>
    simp only [RelD] at rd
    subst rd
    exact ⟨false, rfl, h.ok hr rfl⟩
  | bl b =>
    simp only [RelD] at rd
    subst rd
    exact ⟨b, rfl, h.ok hr rfl⟩
  | int i =>
    simp only [RelD] at rd
    subst rd
    exact ⟨_, rfl, h.ok hr rfl⟩
  | str l =>
    simp only [RelD] at rd
    subst rd
    simp only [truD] at h
    split at h
    · rename_i hl
      have e : (⟨l.toArray⟩ : Str).length = l.length := by show l.toArray.size = l.length; simp
      refine ⟨!l.isEmpty, ⟨by rw [e, sizeLine_eq]; exact hl, ?_⟩, h.ok hr rfl⟩
      rw [e]
      cases l with
      | nil => rfl
      | cons a r =>
        show true = ((((r.length + 1 : Nat)) : Int) != 0)
        have z : ((((r.length + 1 : Nat)) : Int) != 0) = true := by
          simp only [bne_iff_ne, ne_eq]
          omega
        rw [z]
    · exact h.elim
  | tup l =>
    simp only [RelD] at rd
    obtain ⟨a, xs, rfl, hs, ht⟩ := rd
    refine ⟨!l.isEmpty, .inr (.inl ⟨xs, (.inl (.inl hs)), ?_⟩), h.ok hr rfl⟩
    have e := ht.length
    cases l <;> cases xs <;> first | rfl | (simp at e)
  | loc n =>
    simp only [truD] at h
    split at h
    · rename_i l e
      obtain ⟨a, xs, rfl, e1, hH, ht⟩ := hr.list e rd
      refine ⟨!l.isEmpty, .inl ⟨xs, .inl (.inl hH), ?_⟩, h.ok hr rfl⟩
      have e := ht.length
      cases l <;> cases xs <;> first | rfl | (simp at e)
    · exact h.elim
  | cls n => exact h.elim
  | scr l => exact h.elim
theorem pt_tru {a : Expr} {m : ME} (ha : PEm G X a m) (he : ∀ whole, isTrue a X.env whole = (do let v ← whole; standAt a.pos; holding [v] (truthy v)) := by intro _; rfl) : PTm G X a (mTru m) := fun W ok => by
  refine ⟨fun pins s σ H Q I h => ?_⟩
  obtain ⟨sd, S, ρ, hs, hr, h⟩ := h
  have t : te G m W σ H (fun x H1 => ∃ ρ S d, Rep G ρ S H1 ∧ RelD G ρ H1 d x ∧ Aft G RelB ρ H1 (truD d S) Q (fun c a H' => W c a σ H')) := ⟨sd, S, ρ, hs, hr, Aft.bind h fun ρ1 H1 x d S1 le1 r1 rd h1 => ⟨ρ1, S1, d, r1, rd, h1⟩⟩
  refine isTrue_plain (thn ((ha W ok).run pins s σ H _ I t) fun v s1 ⟨x, H1, I1, r1, q1⟩ => ?_) (he _)
  obtain ⟨ρ1, S1, d, a, b, q⟩ := q1
  exact tru_ok pins s1 σ H1 x v Q I1 r1 (truD_ok ok.kk I1 r1 a b q)
theorem pt_notm {a : Expr} {m : MT} {pos : Pos} (ha : PTm G X a m) : PTm G X (.UnaryOp .Not a pos) (tNotM m) := fun W ok => PT_imp (pt_not (ha W ok)) fun σ H Q ⟨sd, S, ρ, hs, hr, h⟩ =>
  ⟨sd, S, ρ, hs, hr, Aft.bind h fun ρ1 H1 x d S1 le1 r1 rd h1 => by
    have e : d = x := rd
    subst e
    exact h1.ok r1 rfl⟩
def PWm (G : Glo) (X : Cx) (e : Expr) (m : MT) : Prop := ∀ W, XOk G X W → PW X e (tt G m W)
theorem PW_imp {X : Cx} {e : Expr} {t t' : TT} (h : PW X e t) (f : ∀ σ H Q, t' σ H Q → t σ H Q) : PW X e t' := ⟨fun wh pins s σ H Q I q => h.run wh pins s σ H Q I (f σ H Q q)⟩
theorem pt_w {e : Expr} {m : MT} (h : PWm G X e m) : PTm G X e m := fun W ok => (h W ok).pt
theorem pw_and1m {a : Expr} {m : MT} {pos : Pos} (ha : PTm G X a m) : PWm G X (.BoolOp .And [a] pos) m := fun W ok => pw_and1 (ha W ok)
theorem pw_or1m {a : Expr} {m : MT} {pos : Pos} (ha : PTm G X a m) : PWm G X (.BoolOp .Or [a] pos) m := fun W ok => pw_or1 (ha W ok)
theorem pw_andm {a b : Expr} {rest : List Expr} {m n : MT} {pos : Pos} (ha : PTm G X a m) (hb : PWm G X (.BoolOp .And (b :: rest) pos) n) : PWm G X (.BoolOp .And (a :: b :: rest) pos) (tAndM m n) := fun W ok => PW_imp (pw_and (ha W ok) (hb W ok)) fun σ H Q ⟨sd, S, ρ, hs, hr, h⟩ =>
  ⟨sd, S, ρ, hs, hr, Aft.bind h fun ρ1 H1 x d S1 le1 r1 rd h1 => by
    have e : d = x := rd
    subst e
    cases d with
    | true => exact ⟨sd, S1, ρ1, hs.mono le1, r1, h1⟩
    | false => exact h1.ok r1 rfl⟩
theorem pw_orm {a b : Expr} {rest : List Expr} {m n : MT} {pos : Pos} (ha : PTm G X a m) (hb : PWm G X (.BoolOp .Or (b :: rest) pos) n) : PWm G X (.BoolOp .Or (a :: b :: rest) pos) (tOrM m n) := fun W ok => PW_imp (pw_or (ha W ok) (hb W ok)) fun σ H Q ⟨sd, S, ρ, hs, hr, h⟩ =>
  ⟨sd, S, ρ, hs, hr, Aft.bind h fun ρ1 H1 x d S1 le1 r1 rd h1 => by
    have e : d = x := rd
    subst e
    cases d with
    | true => exact h1.ok r1 rfl
    | false => exact ⟨sd, S1, ρ1, hs.mono le1, r1, h1⟩⟩
theorem pm_ifexp {c a b : Expr} {t : MT} {m n : ME} {pos : Pos} (hc : PTm G X c t) (ha : PEm G X a m) (hb : PEm G X b n) : PEm G X (.IfExp c a b pos) (mIf t m n) := fun W ok => PE_imp (pe_ifExp (hc W ok) (ha W ok) (hb W ok)) fun σ H Q ⟨sd, S, ρ, hs, hr, h⟩ =>
  ⟨sd, S, ρ, hs, hr, Aft.bind h fun ρ1 H1 x d S1 le1 r1 rd h1 => by
    have e : d = x := rd
    subst e
    cases d with
    | true => exact ⟨sd, S1, ρ1, hs.mono le1, r1, h1⟩
    | false => exact ⟨sd, S1, ρ1, hs.mono le1, r1, h1⟩⟩
theorem pm_one {op} {a : Expr} {m : ME} {pos : Pos} (h : PEm G X a m) : PEm G X (.BoolOp op [a] pos) m := fun W ok => pe_one (h W ok)
theorem pm_and {a b : Expr} {rest : List Expr} {m n : ME} {pos : Pos} (ha : PEm G X a m) (hb : PEm G X (.BoolOp .And (b :: rest) pos) n) : PEm G X (.BoolOp .And (a :: b :: rest) pos) (mAndV m n) := fun W ok => PE_imp (pe_and (ha W ok) (hb W ok)) fun σ H Q ⟨sd, S, ρ, hs, hr, h⟩ =>
  ⟨sd, S, ρ, hs, hr, Aft.bind h fun ρ1 H1 x d S1 le1 r1 rd h1 => by
    cases d with
    | bl k =>
      simp only [RelD] at rd
      refine ⟨k, rd, ?_⟩
      cases k with
      | true => exact ⟨sd, S1, ρ1, hs.mono le1, r1, h1⟩
      | false => exact h1.ok r1 (by simp only [RelD])
    | _ => exact h1.elim⟩
theorem pm_or {a b : Expr} {rest : List Expr} {m n : ME} {pos : Pos} (ha : PEm G X a m) (hb : PEm G X (.BoolOp .Or (b :: rest) pos) n) : PEm G X (.BoolOp .Or (a :: b :: rest) pos) (mOrV m n) := fun W ok => PE_imp (pe_or (ha W ok) (hb W ok)) fun σ H Q ⟨sd, S, ρ, hs, hr, h⟩ =>
  ⟨sd, S, ρ, hs, hr, Aft.bind h fun ρ1 H1 x d S1 le1 r1 rd h1 => by
    cases d with
    | bl k =>
      simp only [RelD] at rd
      refine ⟨k, rd, ?_⟩
      cases k with
      | true => exact h1.ok r1 (by simp only [RelD])
      | false => exact ⟨sd, S1, ρ1, hs.mono le1, r1, h1⟩
    | _ => exact h1.elim⟩
theorem pm_not {a : Expr} {m : ME} {pos : Pos} (ha : PEm G X a m) : PEm G X (.UnaryOp .Not a pos) (mNotV m) := fun W ok => PE_imp (pe_not (ha W ok)) fun σ H Q ⟨sd, S, ρ, hs, hr, h⟩ =>
  ⟨sd, S, ρ, hs, hr, Aft.bind h fun ρ1 H1 x d S1 le1 r1 rd h1 => by
    cases d with
    | bl k =>
      simp only [RelD] at rd
      exact ⟨k, rd, h1.ok r1 (by simp only [RelD])⟩
    | _ => exact h1.elim⟩
/-! ### calls -/
theorem pm_callB {x : Str} {id : String} {f : MF} {e : Expr} {es : List Expr} {m : MA} {p pos : Pos} (hc : CallM G X (.builtin id) f) (hg : Gl X x) (hm : X.mg x = none) (hv : bootBuiltins x = some (.builtin id)) (ha : PAm G X (e :: es) m) (hn : x ≠ "__name__" := by decide) (hdb : (x == ("__debug__" : Str)) = false := by decide)
    (he : starEach (e :: es) X.env = (false, eval e X.env) :: starEach es X.env := by rfl) (hpl : (backTo pos (starEach es X.env)).any (·.1) = false := by rfl) : PEm G X (.Call (.Name x p) (e :: es) [] pos) (mCall f m) := fun W ok => by
  refine ⟨fun pins s σ H Q I h => ?_⟩
  obtain ⟨sd, S, ρ, hs, hr, h⟩ := h
  have t : ta G m W σ H (fun xs H1 => ∃ ρ S ds, Rep G ρ S H1 ∧ RelDs G ρ H1 ds xs ∧ Aft G (RelD G) ρ H1 (f ds S) Q (fun c a H' => W c a σ H')) := ⟨sd, S, ρ, hs, hr, Aft.bind h fun ρ1 H1 x d S1 le1 r1 rd h1 => ⟨ρ1, S1, d, r1, rd, h1⟩⟩
  refine wpAny_Call_Name_kw (ld_blt I hg hm hv ?_ hn hdb)
  refine PyProof.Rows.callWith_builtin1 (thn ((ha W ok).run pos pins s σ H _ I t) fun us s1 ⟨vs, H1, I1, r1, q1⟩ => ?_) he hpl
  obtain ⟨ρ1, S1, d, a, b, q⟩ := q1
  exact hc W ok pins s1 σ H1 ρ1 S1 vs us d Q I1 r1 a b q
theorem pm_callT {x : Str} {T : String} {f : MF} {e : Expr} {es : List Expr} {m : MA} {p pos : Pos} (hc : CallM G X (.type T) f) (hg : Gl X x) (hm : X.mg x = none) (hv : bootBuiltins x = some (.type T)) (ha : PAm G X (e :: es) m) (hn : x ≠ "__name__" := by decide) (hdb : (x == ("__debug__" : Str)) = false := by decide)
    (he : starEach (e :: es) X.env = (false, eval e X.env) :: starEach es X.env := by rfl) (hpl : (backTo pos (starEach es X.env)).any (·.1) = false := by rfl) : PEm G X (.Call (.Name x p) (e :: es) [] pos) (mCall f m) := fun W ok => by
  refine ⟨fun pins s σ H Q I h => ?_⟩
  obtain ⟨sd, S, ρ, hs, hr, h⟩ := h
  have t : ta G m W σ H (fun xs H1 => ∃ ρ S ds, Rep G ρ S H1 ∧ RelDs G ρ H1 ds xs ∧ Aft G (RelD G) ρ H1 (f ds S) Q (fun c a H' => W c a σ H')) := ⟨sd, S, ρ, hs, hr, Aft.bind h fun ρ1 H1 x d S1 le1 r1 rd h1 => ⟨ρ1, S1, d, r1, rd, h1⟩⟩
  refine wpAny_Call_Name_kw (ld_blt I hg hm hv ?_ hn hdb)
  refine PyProof.Rows.callWith_type1 (thn ((ha W ok).run pos pins s σ H _ I t) fun us s1 ⟨vs, H1, I1, r1, q1⟩ => ?_) he hpl
  obtain ⟨ρ1, S1, d, a, b, q⟩ := q1
  exact hc W ok pins s1 σ H1 ρ1 S1 vs us d Q I1 r1 a b q
/-- a def of our own, called by its name -/
theorem pm_call {x : Str} {g : Addr} {f : MF} {e : Expr} {es : List Expr} {m : MA} {p pos : Pos} (hc : CallM G X (.ref g) f) (hg : Gl X x) (hm : X.mg x = some (.ref g)) (hk : PySem.W.keepIn X.K (.ref g) = true) (ha : PAm G X (e :: es) m) (hdb : (x == ("__debug__" : Str)) = false := by decide)
    (he : starEach (e :: es) X.env = (false, eval e X.env) :: starEach es X.env := by rfl) (hpl : (backTo pos (starEach es X.env)).any (·.1) = false := by rfl) : PEm G X (.Call (.Name x p) (e :: es) [] pos) (mCall f m) := fun W ok => by
  refine ⟨fun pins s σ H Q I h => ?_⟩
  obtain ⟨sd, S, ρ, hs, hr, h⟩ := h
  have t : ta G m W σ H (fun xs H1 => ∃ ρ S ds, Rep G ρ S H1 ∧ RelDs G ρ H1 ds xs ∧ Aft G (RelD G) ρ H1 (f ds S) Q (fun c a H' => W c a σ H')) := ⟨sd, S, ρ, hs, hr, Aft.bind h fun ρ1 H1 x d S1 le1 r1 rd h1 => ⟨ρ1, S1, d, r1, rd, h1⟩⟩
  refine wpAny_Call_Name_kw (ld_glob I hg hm ?_ hdb)
  refine PySem.W.callWith_K (h₀ := X.base) I.ok.mod.kin hk (thn ((ha W ok).run pos pins s σ H _ I t) fun us s1 ⟨vs, H1, I1, r1, q1⟩ => ⟨I1.kIn, ?_⟩) he hpl
  obtain ⟨ρ1, S1, d, a, b, q⟩ := q1
  exact hc W ok pins s1 σ H1 ρ1 S1 vs us d Q I1 r1 a b q
theorem pm_call0 {x : Str} {g : Addr} {f : MF} {p pos : Pos} (hc : CallM G X (.ref g) f) (hg : Gl X x) (hm : X.mg x = some (.ref g)) (hk : PySem.W.keepIn X.K (.ref g) = true) (hdb : (x == ("__debug__" : Str)) = false := by decide) :
    PEm G X (.Call (.Name x p) [] [] pos) (mCall f mNil) := fun W ok => by
  refine ⟨fun pins s σ H Q I h => ?_⟩
  obtain ⟨sd, S, ρ, hs, hr, h⟩ := h
  refine wpAny_Call_Name_kw (ld_glob I hg hm ?_ hdb)
  exact PySem.W.callWith_K0 I.kIn hk (hc W ok pins s σ H ρ S [] [] [] Q I .nil hr RelDs.nil h)
end
end Y

/-! Y3: statements, targets, loops, comprehensions. -/
namespace Y
open PySem PySem.Spec PyProof.Rows L2

inductive SRes where
  | nx (sd : SD) (S : Sto)
  | rt (d : D) (S : Sto)
  | bk (sd : SD) (S : Sto)
  | ct (sd : SD) (S : Sto)
  | ex (x : Ex) (sd : SD) (S : Sto)
  | stuck
  | pick (t : Nat) (f : Nat → SRes)
abbrev MS := SD → Sto → SRes
def AftS (G : Glo) (ρ : Rho) (H : Hp) (r : SRes) (E : Ends) (W : WX) : Prop := match r with
  | .nx sd S => ∀ ρ' H' σ', Le G ρ H ρ' H' → Rep G ρ' S H' → RelSt G ρ' H' sd σ' → E.nx σ' H'
  | .rt d S => ∀ ρ' H' v, Le G ρ H ρ' H' → Rep G ρ' S H' → RelD G ρ' H' d v → E.rt v H'
  | .bk sd S => ∀ ρ' H' σ', Le G ρ H ρ' H' → Rep G ρ' S H' → RelSt G ρ' H' sd σ' → E.bk σ' H'
  | .ct sd S => ∀ ρ' H' σ', Le G ρ H ρ' H' → Rep G ρ' S H' → RelSt G ρ' H' sd σ' → E.ct σ' H'
  | .ex x sd S => ∀ ρ' H' σ' cls dd, Le G ρ H ρ' H' → Rep G ρ' S H' → RelSt G ρ' H' sd σ' → RelX G ρ' H' x cls dd → W cls dd σ' H'
  | .stuck => False
  | .pick t f => ∀ r, r < t → AftS G ρ H (f r) E W
theorem AftS.le {G : Glo} {ρ ρ' : Rho} {H H' : Hp} {r : SRes} {E : Ends} {W : WX} (h : AftS G ρ H r E W) (le : Le G ρ H ρ' H') : AftS G ρ' H' r E W := by
  induction r with
  | nx sd S => exact fun ρ2 H2 σ2 l1 r1 r2 => h ρ2 H2 σ2 (le.trans l1) r1 r2
  | rt d S => exact fun ρ2 H2 σ2 l1 r1 r2 => h ρ2 H2 σ2 (le.trans l1) r1 r2
  | bk sd S => exact fun ρ2 H2 σ2 l1 r1 r2 => h ρ2 H2 σ2 (le.trans l1) r1 r2
  | ct sd S => exact fun ρ2 H2 σ2 l1 r1 r2 => h ρ2 H2 σ2 (le.trans l1) r1 r2
  | ex x sd S => exact fun ρ2 H2 σ2 c d l1 r1 r2 r3 => h ρ2 H2 σ2 c d (le.trans l1) r1 r2 r3
  | stuck => exact h
  | pick t f ih => exact fun r hr => ih r (h r hr)
def bindS {α : Type} (r : Res α) (sd : SD) (k : α → Sto → SRes) : SRes := match r with
  | .ok a S => k a S
  | .exc x S => .ex x sd S
  | .stuck => .stuck
  | .pick t f => .pick t fun r => bindS (f r) sd k
theorem AftS.bind {G : Glo} {α β : Type} {RL : Rho → Hp → α → β → Prop} {ρ : Rho} {H : Hp} {r : Res α} {sd : SD} {σ : L2.St} {k : α → Sto → SRes} {E : Ends} {W : WX} (h : AftS G ρ H (bindS r sd k) E W) (hs : RelSt G ρ H sd σ) {Q : β → Hp → Prop}
    (f : ∀ ρ1 H1 v d S1, Le G ρ H ρ1 H1 → Rep G ρ1 S1 H1 → RL ρ1 H1 d v → AftS G ρ1 H1 (k d S1) E W → Q v H1) : Aft G RL ρ H r Q (fun c d H' => W c d σ H') := by
  induction r with
  | ok d S => exact fun ρ1 H1 v le rp rl => f ρ1 H1 v d S le rp rl (AftS.le (r := k d S) h le)
  | exc x S => exact fun ρ1 H1 c d le rp rx => h ρ1 H1 σ c d le rp (hs.mono le) rx
  | stuck => exact h
  | pick t g ih => exact fun r hr => ih r (h r hr)
def ts (G : Glo) (m : MS) (W : WX) : TS := fun E σ H => ∃ sd S ρ, RelSt G ρ H sd σ ∧ Rep G ρ S H ∧ AftS G ρ H (m sd S) E W
def PSm (G : Glo) (X : Cx) (st : Stmt) (m : MS) : Prop := ∀ W, XOk G X W → PS X st (ts G m W)
def PSsm (G : Glo) (X : Cx) (st : List Stmt) (m : MS) : Prop := ∀ W, XOk G X W → PSs X st (ts G m W)

def SRes.andThen (r : SRes) (f : MS) : SRes := match r with
  | .nx sd S => f sd S
  | .pick t g => .pick t fun r => (g r).andThen f
  | .rt d S => .rt d S
  | .bk sd S => .bk sd S
  | .ct sd S => .ct sd S
  | .ex x sd S => .ex x sd S
  | .stuck => .stuck
/-- behind a turn of a loop -/
def SRes.turn (r : SRes) (f : MS) : SRes := match r with
  | .nx sd S => f sd S
  | .pick t g => .pick t fun r => (g r).turn f
  | .rt d S => .rt d S
  | .bk sd S => .nx sd S
  | .ct sd S => f sd S
  | .ex x sd S => .ex x sd S
  | .stuck => .stuck
theorem AftS.andThen {G : Glo} {ρ : Rho} {H : Hp} {r : SRes} {f : MS} {E : Ends} {W : WX} (h : AftS G ρ H (r.andThen f) E W) : AftS G ρ H r { E with nx := ts G f W E } W := by
  induction r with
  | nx sd S => exact fun ρ1 H1 σ1 le r1 s1 => ⟨sd, S, ρ1, s1, r1, AftS.le (r := f sd S) h le⟩
  | pick t g ih => exact fun r hr => ih r (h r hr)
  | _ => exact h
theorem AftS.turn {G : Glo} {ρ : Rho} {H : Hp} {r : SRes} {f : MS} {E : Ends} {W : WX} (h : AftS G ρ H (r.turn f) E W) {N : L2.St → Hp → Prop}
    (k : ∀ σ' H' sd S ρ', Le G ρ H ρ' H' → RelSt G ρ' H' sd σ' → Rep G ρ' S H' → AftS G ρ' H' (f sd S) E W → N σ' H') : AftS G ρ H r { E with nx := N, ct := N, bk := E.nx } W := by
  induction r with
  | nx sd S => exact fun ρ1 H1 σ1 le r1 s1 => k σ1 H1 sd S ρ1 le s1 r1 (AftS.le (r := f sd S) h le)
  | ct sd S => exact fun ρ1 H1 σ1 le r1 s1 => k σ1 H1 sd S ρ1 le s1 r1 (AftS.le (r := f sd S) h le)
  | pick t g ih => exact fun r hr => ih r (h r hr)
  | _ => exact h

/-! ### mirrors -/
def sSkip : MS := fun sd S => .nx sd S
def sSeq (a b : MS) : MS := fun sd S => (a sd S).andThen b
def sExpr (m : ME) : MS := fun sd S => bindS (m sd S) sd fun _ S1 => .nx sd S1
def sRet (m : ME) : MS := fun sd S => bindS (m sd S) sd fun d S1 => .rt d S1
def sRetN : MS := fun _ S => .rt .non S
def sIf (t : MT) (a b : MS) : MS := fun sd S => bindS (t sd S) sd fun k S1 => if k then a sd S1 else b sd S1
def sSet (i : Nat) (m : ME) : MS := fun sd S => bindS (m sd S) sd fun d S1 => .nx (sd.set i (some d)) S1
def sBreak : MS := fun sd S => .bk sd S
def sCont : MS := fun sd S => .ct sd S

section
variable {G : Glo} {X : Cx}
theorem pss_nilm : PSsm G X [] sSkip := fun W ok => PSs_imp pss_nil fun E σ H ⟨sd, S, ρ, hs, hr, h⟩ => h ρ H σ Le.refl hr hs
theorem pss_consm {st : Stmt} {rest : List Stmt} {a b : MS} (h1 : PSm G X st a) (h2 : PSsm G X rest b) : PSsm G X (st :: rest) (sSeq a b) := fun W ok => PSs_imp (pss_cons (h1 W ok) (h2 W ok)) fun E σ H ⟨sd, S, ρ, hs, hr, h⟩ => by
  exact ⟨sd, S, ρ, hs, hr, AftS.andThen h⟩
theorem pss_onem {st : Stmt} {a : MS} (h1 : PSm G X st a) : PSsm G X [st] a := fun W ok => pss_one (h1 W ok)
theorem ps_passm {pos : Pos} : PSm G X (.Pass pos) sSkip := fun W ok => PS_imp ps_pass fun E σ H ⟨sd, S, ρ, hs, hr, h⟩ => h ρ H σ Le.refl hr hs
theorem ps_breakm {pos : Pos} : PSm G X (.Break pos) sBreak := fun W ok => PS_imp ps_break fun E σ H ⟨sd, S, ρ, hs, hr, h⟩ => h ρ H σ Le.refl hr hs
theorem ps_contm {pos : Pos} : PSm G X (.Continue pos) sCont := fun W ok => PS_imp ps_continue fun E σ H ⟨sd, S, ρ, hs, hr, h⟩ => h ρ H σ Le.refl hr hs
theorem ps_exprm {e : Expr} {m : ME} {pos : Pos} (he : PEm G X e m) (hs : swapsWith e none pos.line X.env = pure false := by rfl) : PSm G X (.Expr e pos) (sExpr m) := fun W ok => PS_imp (ps_expr (he W ok) hs) fun E σ H ⟨sd, S, ρ, hs, hr, h⟩ =>
  ⟨sd, S, ρ, hs, hr, AftS.bind h hs fun ρ1 H1 v d S1 le r1 rd h1 => h1 ρ1 H1 σ Le.refl r1 (hs.mono le)⟩
theorem ps_retm {e : Expr} {m : ME} {pos : Pos} (he : PEm G X e m) : PSm G X (.Return (some e) pos) (sRet m) := fun W ok => PS_imp (ps_ret (he W ok)) fun E σ H ⟨sd, S, ρ, hs, hr, h⟩ =>
  ⟨sd, S, ρ, hs, hr, AftS.bind h hs fun ρ1 H1 v d S1 le r1 rd h1 => h1 ρ1 H1 v Le.refl r1 rd⟩
theorem ps_retNm {pos : Pos} : PSm G X (.Return none pos) sRetN := fun W ok => PS_imp ps_retN fun E σ H ⟨sd, S, ρ, hs, hr, h⟩ => h ρ H .non Le.refl hr (by simp only [RelD])
theorem ps_ifm {c : Expr} {a b : List Stmt} {t : MT} {m n : MS} {pos : Pos} (hc : PTm G X c t) (ha : PSsm G X a m) (hb : PSsm G X b n) : PSm G X (.If c a b pos) (sIf t m n) := fun W ok => PS_imp (ps_if (hc W ok) (ha W ok) (hb W ok)) fun E σ H ⟨sd, S, ρ, hs, hr, h⟩ =>
  ⟨sd, S, ρ, hs, hr, AftS.bind h hs fun ρ1 H1 v d S1 le r1 rd h1 => by
    have e : d = v := rd
    subst e
    cases d with
    | true => exact ⟨sd, S1, ρ1, hs.mono le, r1, h1⟩
    | false => exact ⟨sd, S1, ρ1, hs.mono le, r1, h1⟩⟩
theorem ps_setm {i : Nat} {x : Str} {e : Expr} {m : ME} {pos pos' : Pos} (hN : X.N.Nodup) (he : PEm G X e m) (hi : X.N[i]? = some x := by rfl) (hx : Loc X.env.scope x := by first | exact Or.inl rfl | exact Or.inr rfl)
    (hs : swapsWith e (some (.Name x pos')) pos.line X.env = pure false := by rfl) (hf : X.fn x = true ∨ X.env.scope.names.lookup x = some .local := by first | exact .inl rfl | exact .inr rfl | assumption) :
    PSm G X (.Assign [.Name x pos'] e pos) (sSet i m) := fun W ok => PS_imp (ps_set hN hi hx (he W ok) hs hf) fun E σ H ⟨sd, S, ρ, hs, hr, h⟩ =>
  ⟨sd, S, ρ, hs, hr, AftS.bind h hs fun ρ1 H1 v d S1 le r1 rd h1 => h1 ρ1 H1 _ Le.refl r1 ((hs.mono le).set rd i)⟩

/-! ### targets -/
inductive Tg where
  | nm (i : Nat)
  | tp (l : List Tg)
mutual
def asg : Tg → D → SD → Option SD
  | .nm i, d, sd => some (sd.set i (some d))
  | .tp l, d, sd => match d with
    | .tup ds => asgs l ds sd
    | _ => none
def asgs : List Tg → List D → SD → Option SD
  | [], ds, sd => match ds with
    | [] => some sd
    | _ :: _ => none
  | t :: r, ds, sd => match ds with
    | [] => none
    | d :: q => match asg t d sd with
      | some sd1 => asgs r q sd1
      | none => none
end
mutual
def Tg.slots : Tg → List Nat
  | .nm i => [i]
  | .tp l => Tg.slotss l
def Tg.slotss : List Tg → List Nat
  | [] => []
  | t :: r => t.slots ++ Tg.slotss r
end
mutual
def gOf (K : PySem.W.Frag) : Tg → TG
  | .nm i => gName i
  | .tp l => gTup K l.length (gsOf K l)
def gsOf (K : PySem.W.Frag) : List Tg → TGs
  | [] => gNil
  | t :: r => gCons (gOf K t) (gsOf K r)
end
/-- what a target leaves of the slots -/
def Kept (l : List Nat) (σ σ' : L2.St) : Prop := σ'.length = σ.length ∧ ∀ j : Nat, j ∉ l → σ'[j]? = σ[j]?
theorem asgs_len : ∀ {l : List Tg} {ds : List D} {sd sd' : SD}, asgs l ds sd = some sd' → l.length = ds.length
  | [], [], _, _, _ => rfl
  | [], _ :: _, sd, _, h => by simp only [asgs] at h; cases h
  | t :: r, [], sd, _, h => by simp only [asgs] at h; cases h
  | t :: r, d :: q, sd, sd', h => by
    simp only [asgs] at h
    split at h
    · simp only [List.length_cons, asgs_len h]
    · cases h
mutual
theorem gOf_ok {ρ : Rho} {H : Hp} (kk : G.K = X.K) : ∀ {t : Tg} {d : D} {v : V} {sd sd' : SD} {σ : L2.St} {Q : L2.St → Hp → Prop}, RelD G ρ H d v → RelSt G ρ H sd σ → asg t d sd = some sd' →
    (∀ σ', RelSt G ρ H sd' σ' → Kept t.slots σ σ' → Q σ' H) → gOf X.K t v σ H Q
  | .nm i, d, v, sd, sd', σ, Q, rd, hs, e, h => by
    simp only [asg, Option.some.injEq] at e
    subst e
    show gName i v σ H Q
    refine h _ (hs.set rd i) ⟨by simp, fun j hj => ?_⟩
    simp only [Tg.slots, List.mem_singleton] at hj
    exact List.getElem?_set_ne (Ne.symm hj)
  | .tp l, d, v, sd, sd', σ, Q, rd, hs, e, h => by
    simp only [asg] at e
    split at e
    · rename_i ds
      simp only [RelD] at rd
      obtain ⟨a, xs, rfl, hq, ht⟩ := rd
      show gTup X.K l.length (gsOf X.K l) (.ref a) σ H Q
      refine ⟨a, xs, rfl, (.inl (.inl hq)), by rw [← ht.length, asgs_len e], gsOf_ok kk ht hs e fun σ' a b => h σ' a ?_⟩
      simpa only [Tg.slots] using b
    · cases e
theorem gsOf_ok {ρ : Rho} {H : Hp} (kk : G.K = X.K) : ∀ {l : List Tg} {ds : List D} {xs : List V} {sd sd' : SD} {σ : L2.St} {Q : L2.St → Hp → Prop}, RelDs G ρ H ds xs → RelSt G ρ H sd σ → asgs l ds sd = some sd' →
    (∀ σ', RelSt G ρ H sd' σ' → Kept (Tg.slotss l) σ σ' → Q σ' H) → gsOf X.K l xs σ H Q
  | [], [], xs, sd, sd', σ, Q, rd, hs, e, h => by
    simp only [asgs, Option.some.injEq] at e
    subst e
    simp only [RelDs] at rd
    subst rd
    exact ⟨rfl, h σ hs ⟨rfl, fun _ _ => rfl⟩⟩
  | [], _ :: _, xs, sd, sd', σ, Q, rd, hs, e, h => by simp only [asgs] at e; cases e
  | t :: r, [], xs, sd, sd', σ, Q, rd, hs, e, h => by simp only [asgs] at e; cases e
  | t :: r, d :: q, xs, sd, sd', σ, Q, rd, hs, e, h => by
    simp only [RelDs] at rd
    obtain ⟨v, ys, rfl, r1, r2⟩ := rd
    simp only [asgs] at e
    split at e
    · rename_i sd1 e1
      refine ⟨v, ys, rfl, gOf_ok kk r1 hs e1 fun σ1 s1 k1 => gsOf_ok kk r2 s1 e fun σ2 s2 k2 => h σ2 s2 ⟨k2.1.trans k1.1, fun j hj => ?_⟩⟩
      simp only [Tg.slotss, List.mem_append, not_or] at hj
      exact (k2.2 j hj.2).trans (k1.2 j hj.1)
    · cases e
end
def sAsg (t : Tg) (m : ME) : MS := fun sd S => bindS (m sd S) sd fun d S1 => match asg t d sd with
  | some sd1 => .nx sd1 S1
  | none => .stuck
theorem ps_asgm {tg e : Expr} {t : Tg} {m : ME} {pos : Pos} (he : PEm G X e m) (hg : PG X tg (gOf X.K t)) (hs : swapsWithSole [tg] e pos.line X.env = pure false := by rfl) (hw : swappedStores [tg] e X.env = pure none := by rfl)
    (h1 : (assignEach [tg] X.env).map (·.2) = [assign tg X.env] := by rfl) : PSm G X (.Assign [tg] e pos) (sAsg t m) := fun W ok => PS_imp (ps_asg (he W ok) hg hs hw h1) fun E σ H ⟨sd, S, ρ, hs, hr, h⟩ =>
  ⟨sd, S, ρ, hs, hr, AftS.bind h hs fun ρ1 H1 v d S1 le r1 rd h1 => by
    split at h1
    · rename_i sd1 e1
      exact gOf_ok ok.kk rd (hs.mono le) e1 fun σ' s' _ => h1 ρ1 H1 σ' Le.refl r1 s'
    · exact h1.elim⟩
/-- a, b = x, y (two local names) -/
def sPar (i j : Nat) (m : MA) : MS := fun sd S => bindS (m sd S) sd fun l S1 => match l with
  | [d, e] => .nx ((sd.set i (some d)).set j (some e)) S1
  | _ => .stuck
theorem ps_parm {i j : Nat} {tp t2 : Expr} {es : List Expr} {m : MA} {pos : Pos} (h : ∀ t : TA, PA X es t → PS X (.Assign [tp] t2 pos) (tPar i j t)) (ha : PAm G X es m) : PSm G X (.Assign [tp] t2 pos) (sPar i j m) := fun W ok => PS_imp (h _ (ha W ok)) fun E σ H ⟨sd, S, ρ, hs, hr, h⟩ =>
  ⟨sd, S, ρ, hs, hr, AftS.bind h hs fun ρ1 H1 v d S1 le r1 rd h1 => by
    match d, rd, h1 with
    | [], rd, h1 => exact h1.elim
    | [_], rd, h1 => exact h1.elim
    | [d, e], rd, h1 =>
      simp only [RelDs] at rd
      obtain ⟨v1, _, rfl, r2, v2, _, rfl, r3, rfl⟩ := rd
      exact ⟨v1, v2, rfl, h1 ρ1 H1 _ Le.refl r1 (((hs.mono le).set r2 i).set r3 j)⟩
    | _ :: _ :: _ :: _, rd, h1 => exact h1.elim⟩

/-! ### while -/
def whileLoop (t : MT) (b : MS) : Nat → MS
  | 0 => fun _ _ => .stuck
  | n + 1 => fun sd S => bindS (t sd S) sd fun k S1 => if k then (b sd S1).turn (whileLoop t b n) else .nx sd S1
theorem ps_whilem {c : Expr} {body : List Stmt} {t : MT} {b : MS} {pos : Pos} (n : Nat) (hc : PTm G X c t) (hb : PSsm G X body b) : PSm G X (.While c body [] pos) (whileLoop t b n) := fun W ok => PS_imp (ps_while ok.own (hc W ok) (hb W ok)) fun E σ H ⟨sd, S, ρ, hs, hr, h⟩ => by
  refine ⟨fun m σ H => ∃ sd S ρ, RelSt G ρ H sd σ ∧ Rep G ρ S H ∧ AftS G ρ H (whileLoop t b m sd S) E W, ⟨n, sd, S, ρ, hs, hr, h⟩, fun m σ H ⟨sd, S, ρ, hs, hr, h⟩ => ?_⟩
  cases m with
  | zero => exact h.elim
  | succ m =>
    refine ⟨sd, S, ρ, hs, hr, AftS.bind h hs fun ρ1 H1 v d S1 le r1 rd h1 => ?_⟩
    have e : d = v := rd
    subst e
    cases d with
    | false => exact h1 ρ1 H1 σ Le.refl r1 (hs.mono le)
    | true =>
      refine ⟨fun σ H => ∃ sd S ρ, RelSt G ρ H sd σ ∧ Rep G ρ S H ∧ AftS G ρ H (whileLoop t b m sd S) E W, fun σ' H' q => ⟨m, Nat.lt_succ_self m, q⟩, sd, S1, ρ1, hs.mono le, r1, ?_⟩
      exact AftS.turn h1 fun σ' H' sd S ρ' le rs rp h => ⟨sd, S, ρ', rs, rp, h⟩

/-! ### what is walked -/
inductive ItD where
  | lst (n : Nat)
  | tup (l : List D)
  | rng (lo c : Int) (n : Nat)
  | str (l : List Nat)
  | scr (l : List Int)
  | enl (n : Nat)
  | ent (l : List D)
  | dk (n : Nat)
  | dv (n : Nat)
  | di (n : Nat)
  | zip (a b : ItD)
def itNext : ItD → Nat → Sto → Option (Option D)
  | .lst n, i, S => match S.get n with
    | some (.lst l) => some l[i]?
    | _ => none
  | .tup l, i, _ => some l[i]?
  | .rng lo c n, i, _ => some (if i < n then some (.int (lo + i * c)) else none)
  | .str l, i, _ => some (l[i]?.map fun c => .str [c])
  | .scr l, i, _ => some (l[i]?.map D.int)
  | .enl n, i, S => match S.get n with
    | some (.lst l) => some (l[i]?.map fun d => .tup [.int i, d])
    | _ => none
  | .ent l, i, _ => some (l[i]?.map fun d => .tup [.int i, d])
  | .dk n, i, S => match S.get n with
    | some (.dct _ l) => some (l[i]?.map fun p => p.1)
    | _ => none
  | .dv n, i, S => match S.get n with
    | some (.dct _ l) => some (l[i]?.map fun p => p.2)
    | _ => none
  | .di n, i, S => match S.get n with
    | some (.dct _ l) => some (l[i]?.map fun p => .tup [p.1, p.2])
    | some (.raw l) => some (l[i]?.map fun p => .tup [p.1, p.2])
    | _ => none
  | .zip a b, i, S => match itNext a i S, itNext b i S with
    | some (some x), some (some y) => some (some (.tup [x, y]))
    | some none, some _ => some none
    | some (some _), some none => some none
    | _, _ => none
def itLen : ItD → Sto → Nat
  | .lst n, S => match S.get n with
    | some (.lst l) => l.length
    | _ => 0
  | .tup l, _ => l.length
  | .rng _ _ n, _ => n
  | .str l, _ => l.length
  | .scr l, _ => l.length
  | .enl n, S => match S.get n with
    | some (.lst l) => l.length
    | _ => 0
  | .ent l, _ => l.length
  | .dk n, S => match S.get n with
    | some (.dct _ l) => l.length
    | _ => 0
  | .dv n, S => match S.get n with
    | some (.dct _ l) => l.length
    | _ => 0
  | .di n, S => match S.get n with
    | some (.dct _ l) => l.length
    | some (.raw l) => l.length
    | _ => 0
  | .zip a b, S => min (itLen a S) (itLen b S)
def ItOk (G : Glo) (ρ : Rho) (H : Hp) (it : ItD) (J : It) : Prop := ∀ (i : Nat) ρ' H' S, Le G ρ H ρ' H' → Rep G ρ' S H' → match itNext it i S with
  | some (some d) => J.go i H' ∧ ∀ x H2, J.yld i H' x H2 → Le G ρ' H' ρ' H2 ∧ Rep G ρ' S H2 ∧ RelD G ρ' H2 d x
  | some none => J.stop i H'
  | none => True
abbrev MI := SD → Sto → Res ItD
def ti (G : Glo) (m : MI) (W : WX) : TI := fun σ H R => ∃ sd S ρ, RelSt G ρ H sd σ ∧ Rep G ρ S H ∧ Aft G (ItOk G) ρ H (m sd S) R (fun c d H' => W c d σ H')
def PIm (G : Glo) (X : Cx) (tg iter : Expr) (m : MI) : Prop := ∀ W, XOk G X W → PI X tg iter (ti G m W)
theorem PI_imp {X : Cx} {tg e : Expr} {t t' : TI} (h : PI X tg e t) (f : ∀ σ H Q, t' σ H Q → t σ H Q) : PI X tg e t' := ⟨fun pins s σ H Q I q => h.run pins s σ H Q I (f σ H Q q)⟩
def forLoop (it : ItD) (t : Tg) (b : MS) : Nat → Nat → MS
  | 0, _ => fun _ _ => .stuck
  | n + 1, i => fun sd S => match itNext it i S with
    | none => .stuck
    | some none => .nx sd S
    | some (some d) => match asg t d sd with
      | none => .stuck
      | some sd1 => (b sd1 S).turn (forLoop it t b n (i + 1))
def sFor (m : MI) (t : Tg) (b : MS) : MS := fun sd S => bindS (m sd S) sd fun it S1 => forLoop it t b (itLen it S1 + 1) 0 sd S1
theorem ps_form {iter tg : Expr} {body : List Stmt} {m : MI} {t : Tg} {b : MS} {pos : Pos} (hc : X.calm = true) (hi : PIm G X tg iter m) (hg : PG X tg (gOf X.K t)) (hb : PSsm G X body b)
    (hs : ∀ x, foldedSetIterable iter X.env x = pure x := by intro _; rfl) : PSm G X (.For tg iter body [] pos) (sFor m t b) := fun W ok => PS_imp (ps_for ok.own hc (hi W ok) hg (hb W ok) hs) fun E σ H ⟨sd, S, ρ, hs, hr, h⟩ => by
  refine ⟨sd, S, ρ, hs, hr, AftS.bind h hs fun ρ1 H1 J it S1 le r1 ij h1 => ?_⟩
  refine ⟨fun i m σ H => ∃ sd S ρ, Le G ρ1 H1 ρ H ∧ RelSt G ρ H sd σ ∧ Rep G ρ S H ∧ AftS G ρ H (forLoop it t b m i sd S) E W, ⟨_, sd, S1, ρ1, Le.refl, hs.mono le, r1, h1⟩, fun i m σ H ⟨sd, S, ρ, lh, hs, hr, h⟩ => ?_⟩
  cases m with
  | zero => exact h.elim
  | succ m =>
    have ij2 := ij i ρ H S lh hr
    simp only [forLoop] at h
    split at h
    · exact h.elim
    · rename_i en
      rw [en] at ij2
      exact .inl ⟨ij2, h ρ H σ Le.refl hr hs⟩
    · rename_i d en
      rw [en] at ij2
      obtain ⟨hgo, hy⟩ := ij2
      refine .inr ⟨hgo, fun σ H => ∃ sd S ρ, Le G ρ1 H1 ρ H ∧ RelSt G ρ H sd σ ∧ Rep G ρ S H ∧ AftS G ρ H (forLoop it t b m (i + 1) sd S) E W, fun σ' H' q => ⟨m, Nat.lt_succ_self m, q⟩, fun x H2 hx => ?_⟩
      obtain ⟨l2, r2, rd⟩ := hy x H2 hx
      split at h
      · exact h.elim
      · rename_i sd1 e1
        refine gOf_ok ok.kk rd (hs.mono l2) e1 fun σ' s' _ => ⟨sd1, S, ρ, s', r2, ?_⟩
        exact AftS.turn (AftS.le h l2) fun σ2 H3 sd2 S2 ρ3 l3 rs rp h3 => ⟨sd2, S2, ρ3, (lh.trans l2).trans l3, rs, rp, h3⟩
end
end Y

/-! Y4: what is walked; comprehensions. -/
namespace Y
open PySem PySem.Spec PyProof.Rows L2
section
variable {G : Glo} {X : Cx} {ρ : Rho} {H : Hp}
theorem keyD_rel {d : D} {k : Key} (h : keyD d = some k) : RelD G ρ H d (kV k) := by
  cases d with
  | int i => cases h; simp only [RelD, kV]
  | str x => cases h; simp only [RelD, kV]
  | _ => cases h
theorem keysD_rel : ∀ {l : List D} {ks : List Key}, keysD l = some ks → RelDs G ρ H l (ks.map kV)
  | [], ks, h => by
    cases h
    exact .nil
  | d :: r, ks, h => by
    simp only [keysD] at h
    split at h
    · rename_i k ks' e1 e2
      cases h
      exact .cons (keyD_rel e1) (keysD_rel e2)
    · cases h
theorem PairK.get {κ : Type} {kf : D → Option κ} : ∀ {l : List (D × D)} {ys : List (κ × V)}, PairK kf G ρ H l ys → l.length = ys.length ∧ ∀ (i : Nat) p, l[i]? = some p → ∃ k v, ys[i]? = some (k, v) ∧ kf p.1 = some k ∧ RelD G ρ H p.2 v
  | [], _, h => by
    cases h
    exact ⟨rfl, fun i p e => by simp at e⟩
  | q :: r, ys, h => by
    obtain ⟨k, v, zs, rfl, h1, h2, h3⟩ := h
    obtain ⟨e, g⟩ := h3.get
    refine ⟨by simp [e], fun i p ei => ?_⟩
    cases i with
    | zero =>
      simp only [List.getElem?_cons_zero, Option.some.injEq] at ei ⊢
      subst ei
      exact ⟨k, v, rfl, h1, h2⟩
    | succ i =>
      simp only [List.getElem?_cons_succ] at ei ⊢
      exact g i p ei

theorem it_lst {n : Nat} {a : Addr} (kk : G.K = X.K) (hn : ρ n = some a) : ItOk G ρ H (.lst n) (Itl X.K a) := fun i ρ' H' S le rp => by
  simp only [itNext]
  split
  · rename_i d en
    split at en
    · rename_i l el
      simp only [Option.some.injEq] at en
      obtain ⟨b, xs, eb, e1, hH, ht⟩ := rp.list el (RelD.loc' (G := G) (H := H') (le.rho _ _ hn))
      cases eb
      obtain ⟨v, ev, rd⟩ := ht.get en
      refine ⟨⟨xs, v, .inl (.inl hH), ev⟩, fun x H2 hx => ?_⟩
      obtain ⟨rfl, hx⟩ := hx
      have e2 := hx xs (.inl (.inl hH))
      rw [ev] at e2
      cases e2
      exact ⟨Le.refl, rp, rd⟩
    · cases en
  · rename_i en
    split at en
    · rename_i l el
      simp only [Option.some.injEq] at en
      obtain ⟨b, xs, eb, e1, hH, ht⟩ := rp.list el (RelD.loc' (G := G) (H := H') (le.rho _ _ hn))
      cases eb
      exact ⟨xs, .inl (.inl hH), by rw [← ht.length]; exact List.getElem?_eq_none_iff.mp en⟩
    · cases en
  · trivial
theorem it_tup {l : List D} {a : Addr} {xs : List V} (kk : G.K = X.K) (hq : H a = some (.tup xs)) (ht : RelDs G ρ H l xs) : ItOk G ρ H (.tup l) (Itt X.K a) := fun i ρ' H' S le rp => by
  have hq' := le.tup _ _ hq
  have ht' := ht.mono le
  simp only [itNext]
  split
  · rename_i d en
    simp only [Option.some.injEq] at en
    obtain ⟨v, ev, rd⟩ := ht'.get en
    refine ⟨⟨xs, v, .inl (.inl hq'), ev⟩, fun x H2 hx => ?_⟩
    obtain ⟨rfl, hx⟩ := hx
    have e2 := hx xs (.inl (.inl hq'))
    rw [ev] at e2
    cases e2
    exact ⟨Le.refl, rp, rd⟩
  · rename_i en
    simp only [Option.some.injEq] at en
    exact ⟨xs, .inl (.inl hq'), by rw [← ht'.length]; exact List.getElem?_eq_none_iff.mp en⟩
  · trivial
theorem it_scr {l : List Int} {a : Addr} (kk : G.K = X.K) (hq : ScrAt G.K H a l) : ItOk G ρ H (.scr l) (Itl X.K a) := fun i ρ' H' S le rp => by
  have hq' := (le.scr _ _ hq).seq
  rw [kk] at hq'
  simp only [itNext]
  cases e : l[i]? with
  | none =>
    simp only [Option.map_none]
    exact ⟨_, hq', by rw [List.length_map]; exact List.getElem?_eq_none_iff.mp e⟩
  | some n =>
    simp only [Option.map_some]
    have ev : (l.map V.int)[i]? = some (.int n) := by rw [List.getElem?_map, e]; rfl
    refine ⟨⟨_, .int n, hq', ev⟩, fun x H2 hx => ?_⟩
    obtain ⟨rfl, hx⟩ := hx
    have e2 := hx _ hq'
    rw [ev] at e2
    cases e2
    exact ⟨Le.refl, rp, by simp only [RelD]⟩
theorem it_rng {lo : Int} {n : Nat} : ItOk G ρ H (.rng lo 1 n) (Itr lo n) := fun i ρ' H' S le rp => by
  simp only [itNext]
  split
  · rename_i d en
    split at en
    · rename_i hi
      simp only [Option.some.injEq] at en
      subst en
      refine ⟨hi, fun x H2 hx => ?_⟩
      obtain ⟨rfl, rfl⟩ := hx
      exact ⟨Le.refl, rp, by simp only [RelD, Int.mul_one]⟩
    · cases en
  · rename_i en
    split at en
    · cases en
    · rename_i hi
      exact Nat.le_of_not_lt hi
  · trivial
theorem it_rngc {lo c : Int} {n : Nat} : ItOk G ρ H (.rng lo c n) (Itc lo c n) := fun i ρ' H' S le rp => by
  simp only [itNext]
  split
  · rename_i d en
    split at en
    · rename_i hi
      simp only [Option.some.injEq] at en
      subst en
      refine ⟨hi, fun x H2 hx => ?_⟩
      obtain ⟨rfl, rfl⟩ := hx
      exact ⟨Le.refl, rp, by simp only [RelD]⟩
    · cases en
  · rename_i en
    split at en
    · cases en
    · rename_i hi
      exact Nat.le_of_not_lt hi
  · trivial
theorem it_str {l : List Nat} : ItOk G ρ H (.str l) (Its ⟨l.toArray⟩) := fun i ρ' H' S le rp => by
  simp only [itNext]
  cases e : l[i]? with
  | none =>
    simp only [Option.map_none]
    show l.toArray.size ≤ i
    simp only [List.size_toArray]
    exact List.getElem?_eq_none_iff.mp e
  | some n =>
    simp only [Option.map_some]
    refine ⟨?_, fun x H2 hx => ?_⟩
    · show i < l.toArray.size
      simp only [List.size_toArray]
      exact (List.getElem?_eq_some_iff.mp e).1
    · obtain ⟨rfl, c, ec, rfl⟩ := hx
      have ec : l.toArray[i]? = some c := ec
      rw [List.getElem?_toArray, e] at ec
      cases ec
      exact ⟨Le.refl, rp, by simp only [RelD]⟩
theorem it_enl {n : Nat} {a : Addr} (kk : G.K = X.K) (hn : ρ n = some a) : ItOk G ρ H (.enl n) (Ite X.K a) := fun i ρ' H' S le rp => by
  simp only [itNext]
  cases el : S.get n with
  | none => trivial
  | some c =>
    cases c with
    | lst l =>
      obtain ⟨b, xs, eb, e1, hH, ht⟩ := rp.list el (RelD.loc' (G := G) (H := H') (le.rho _ _ hn))
      cases eb
      simp only
      cases e : l[i]? with
      | none =>
        simp only [Option.map_none]
        exact ⟨xs, .inl (.inl hH), by rw [← ht.length]; exact List.getElem?_eq_none_iff.mp e⟩
      | some d =>
        simp only [Option.map_some]
        obtain ⟨v, ev, rd⟩ := ht.get e
        refine ⟨⟨xs, v, .inl (.inl hH), ev⟩, fun x H2 hx => ?_⟩
        obtain ⟨T, y, rfl, nT, rfl, hy⟩ := hx
        have e2 := hy xs (.inl (.inl hH))
        rw [ev] at e2
        cases e2
        have sm := same_new (o := .tup [.int (i : Nat), v]) nT
        exact ⟨Le.same sm, rp.same sm, RelD.tup' upd_same (.cons (by simp only [RelD]) (.one (rd.mono (Le.same sm))))⟩
    | _ => trivial
/-- a locked dict's own pairs -/
theorem dct_at {ρ' : Rho} {H' : Hp} {S : Sto} {n : Nat} {d : Addr} {o : Obj} {kvs : List (Key × V)} {lk : Nat} {l : List (D × D)} (rp : Rep G ρ' S H') (el : S.get n = some (.dct lk l)) (hn : ρ' n = some d) (hd : H' d = some (.frz o (.dK kvs))) : PairK keyD G ρ' H' l kvs := by
  obtain ⟨b, e1, q⟩ := rp.cell n _ el
  rw [hn] at e1
  cases e1
  rcases q with ⟨kvs', h, p⟩ | ⟨hne, kvs', h, p⟩
  · cases lk with
    | zero =>
      have h : H' d = _ := h
      rw [hd] at h
      cases h
    | succ k =>
      obtain ⟨o', h⟩ := h
      rw [hd] at h
      cases h
      exact p
  · cases lk with
    | zero =>
      have h : H' d = _ := h
      rw [hd] at h
      cases h
    | succ k =>
      obtain ⟨o', h⟩ := h
      rw [hd] at h
      cases h
theorem dct_atT {ρ' : Rho} {H' : Hp} {S : Sto} {n : Nat} {d : Addr} {o : Obj} {kvs : List (List Key × V)} {lk : Nat} {l : List (D × D)} (rp : Rep G ρ' S H') (el : S.get n = some (.dct lk l)) (hn : ρ' n = some d) (hd : H' d = some (.frz o (.dT kvs))) : PairK keyT G ρ' H' l kvs := by
  obtain ⟨b, e1, q⟩ := rp.cell n _ el
  rw [hn] at e1
  cases e1
  rcases q with ⟨kvs', h, p⟩ | ⟨hne, kvs', h, p⟩
  · cases lk with
    | zero =>
      have h : H' d = _ := h
      rw [hd] at h
      cases h
    | succ k =>
      obtain ⟨o', h⟩ := h
      rw [hd] at h
      cases h
  · cases lk with
    | zero =>
      have h : H' d = _ := h
      rw [hd] at h
      cases h
    | succ k =>
      obtain ⟨o', h⟩ := h
      rw [hd] at h
      cases h
      exact p
theorem it_dk {n : Nat} {d : Addr} {o : Obj} {kvs : List (Key × V)} (hn : ρ n = some d) (hd : H d = some (.frz o (.dK kvs))) : ItOk G ρ H (.dk n) (Itk d o kvs) := fun i ρ' H' S le rp => by
  have hd' := le.fz _ _ _ hd
  simp only [itNext]
  cases el : S.get n with
  | none => trivial
  | some c =>
    cases c with
    | dct lk l =>
      have p := dct_at rp el (le.rho _ _ hn) hd'
      obtain ⟨el2, g⟩ := p.get
      simp only
      cases e : l[i]? with
      | none =>
        simp only [Option.map_none]
        exact ⟨hd', by rw [← el2]; exact List.getElem?_eq_none_iff.mp e⟩
      | some q =>
        simp only [Option.map_some]
        obtain ⟨k, v, ek, e1, e2⟩ := g i q e
        refine ⟨⟨hd', (List.getElem?_eq_some_iff.mp ek).1⟩, fun x H2 hx => ?_⟩
        obtain ⟨rfl, k', v', ek', rfl⟩ := hx
        rw [ek] at ek'
        cases ek'
        exact ⟨Le.refl, rp, keyD_rel e1⟩
    | _ => trivial
theorem it_dkT {n : Nat} {d : Addr} {o : Obj} {kvs : List (List Key × V)} (hn : ρ n = some d) (hd : H d = some (.frz o (.dT kvs))) : ItOk G ρ H (.dk n) (Itkt d o kvs) := fun i ρ' H' S le rp => by
  have hd' := le.fz _ _ _ hd
  simp only [itNext]
  cases el : S.get n with
  | none => trivial
  | some c =>
    cases c with
    | dct lk l =>
      have p := dct_atT rp el (le.rho _ _ hn) hd'
      obtain ⟨el2, g⟩ := p.get
      simp only
      cases e : l[i]? with
      | none =>
        simp only [Option.map_none]
        exact ⟨hd', by rw [← el2]; exact List.getElem?_eq_none_iff.mp e⟩
      | some q =>
        simp only [Option.map_some]
        obtain ⟨k, v, ek, e1, e2⟩ := g i q e
        refine ⟨⟨hd', (List.getElem?_eq_some_iff.mp ek).1⟩, fun x H2 hx => ?_⟩
        obtain ⟨rfl, k', v', qa, ek', rfl, hq⟩ := hx
        rw [ek] at ek'
        cases ek'
        refine ⟨Le.refl, rp, ?_⟩
        cases hq1 : q.1 with
        | tup ds =>
          rw [hq1] at e1
          exact RelD.tup' hq (keysD_rel e1)
        | _ =>
          rw [hq1] at e1
          cases e1
    | _ => trivial
theorem it_dv {n : Nat} {d : Addr} {o : Obj} {kvs : List (Key × V)} (hn : ρ n = some d) (hd : H d = some (.frz o (.dK kvs))) : ItOk G ρ H (.dv n) (Itd d o kvs) := fun i ρ' H' S le rp => by
  have hd' := le.fz _ _ _ hd
  simp only [itNext]
  cases el : S.get n with
  | none => trivial
  | some c =>
    cases c with
    | dct lk l =>
      have p := dct_at rp el (le.rho _ _ hn) hd'
      obtain ⟨el2, g⟩ := p.get
      simp only
      cases e : l[i]? with
      | none =>
        simp only [Option.map_none]
        exact ⟨hd', by rw [← el2]; exact List.getElem?_eq_none_iff.mp e⟩
      | some q =>
        simp only [Option.map_some]
        obtain ⟨k, v, ek, e1, e2⟩ := g i q e
        refine ⟨⟨hd', (List.getElem?_eq_some_iff.mp ek).1⟩, fun x H2 hx => ?_⟩
        obtain ⟨rfl, k', ek'⟩ := hx
        rw [ek] at ek'
        cases ek'
        exact ⟨Le.refl, rp, e2⟩
    | _ => trivial
theorem it_di {n : Nat} {d : Addr} {o : Obj} {kvs : List (Key × V)} (hn : ρ n = some d) (hd : H d = some (.frz o (.dK kvs))) : ItOk G ρ H (.di n) (Iti d o kvs) := fun i ρ' H' S le rp => by
  have hd' := le.fz _ _ _ hd
  simp only [itNext]
  cases el : S.get n with
  | none => trivial
  | some c =>
    cases c with
    | dct lk l =>
      have p := dct_at rp el (le.rho _ _ hn) hd'
      obtain ⟨el2, g⟩ := p.get
      simp only
      cases e : l[i]? with
      | none =>
        simp only [Option.map_none]
        exact ⟨hd', by rw [← el2]; exact List.getElem?_eq_none_iff.mp e⟩
      | some q =>
        simp only [Option.map_some]
        obtain ⟨k, v, ek, e1, e2⟩ := g i q e
        refine ⟨⟨hd', (List.getElem?_eq_some_iff.mp ek).1⟩, fun x H2 hx => ?_⟩
        obtain ⟨T, k', v', ek', rfl, nT, rfl⟩ := hx
        rw [ek] at ek'
        cases ek'
        have sm := same_new (o := .tup [kV k, v]) nT
        exact ⟨Le.same sm, rp.same sm, RelD.tup' upd_same (.cons (keyD_rel e1) (.one (e2.mono (Le.same sm))))⟩
    | raw l =>
      obtain ⟨b, e1, o', es, ep, kvs', h, _⟩ := rp.cell n _ el
      rw [le.rho _ _ hn] at e1
      cases e1
      rw [hd'] at h
      unfold knownO at h
      cases h
    | _ => trivial
theorem PairR.get : ∀ {l : List (D × D)} {ys : List (V × V)}, PairR G ρ H l ys → l.length = ys.length ∧ ∀ (i : Nat) p, l[i]? = some p → ∃ k v, ys[i]? = some (k, v) ∧ RelD G ρ H p.1 k ∧ RelD G ρ H p.2 v
  | [], ys, h => by
    cases h
    exact ⟨rfl, fun i p e => by simp at e⟩
  | q :: r, ys, h => by
    obtain ⟨k, v, zs, rfl, h1, h2, h3⟩ := h
    obtain ⟨e, g⟩ := PairR.get h3
    refine ⟨by simp only [List.length_cons, e], fun i p ei => ?_⟩
    cases i with
    | zero =>
      simp only [List.getElem?_cons_zero, Option.some.injEq] at ei ⊢
      subst ei
      exact ⟨k, v, rfl, h1, h2⟩
    | succ i =>
      simp only [List.getElem?_cons_succ] at ei ⊢
      exact g i p ei
theorem it_diR {n : Nat} {d : Addr} {o : Obj} {es : Array DictEntry} {ep : Nat} {kvs : List (V × V)} (hn : ρ n = some d) (hd : H d = some (knownO d o)) (hda : o.data = .dict es ep) (hp : EntsOk kvs es) : ItOk G ρ H (.di n) (ItR d o kvs) := fun i ρ' H' S le rp => by
  have hd' := le.fz _ _ _ hd
  simp only [itNext]
  cases el : S.get n with
  | none => trivial
  | some c =>
    cases c with
    | dct lk l =>
      obtain ⟨b, e1, q⟩ := rp.cell n _ el
      rw [le.rho _ _ hn] at e1
      cases e1
      exfalso
      cases lk with
      | zero =>
        rcases q with ⟨k2, h, _⟩ | ⟨_, k2, h, _⟩ <;> (replace h : H' d = _ := h; rw [hd'] at h; cases h)
      | succ z =>
        rcases q with ⟨k2, ⟨o2, h⟩, _⟩ | ⟨_, k2, ⟨o2, h⟩, _⟩ <;> (rw [hd'] at h; cases h)
    | raw l =>
      obtain ⟨b, e1, o', es', ep', kvs', h, h1, h2, h3, h4, p⟩ := rp.cell n _ el
      rw [le.rho _ _ hn] at e1
      cases e1
      rw [hd'] at h
      have eo : o = o' := by
        unfold knownO at h
        injection h with h
        injection h with h
      subst eo
      rw [hda] at h3
      injection h3 with e3 _
      subst e3
      have ek : kvs = kvs' := pairedRelV_inj hp h4
      subst ek
      obtain ⟨el2, g⟩ := p.get
      simp only
      cases e : l[i]? with
      | none =>
        simp only [Option.map_none]
        exact ⟨⟨_, hd'⟩, by rw [← el2]; exact List.getElem?_eq_none_iff.mp e⟩
      | some q =>
        simp only [Option.map_some]
        obtain ⟨k, v, ek, e1, e2⟩ := g i q e
        refine ⟨⟨⟨_, hd'⟩, (List.getElem?_eq_some_iff.mp ek).1⟩, fun x H2 hx => ?_⟩
        obtain ⟨T, k', v', ek', rfl, nT, rfl⟩ := hx
        rw [ek] at ek'
        cases ek'
        have sm := same_new (o := .tup [k, v]) nT
        exact ⟨Le.refl.trans (Le.same sm), rp.same sm, RelD.tup' upd_same (.cons (e1.mono (Le.same sm)) (.one (e2.mono (Le.same sm))))⟩
    | _ => trivial

/-! ### walks -/
def itOf : D → Sto → Res ItD
  | .tup l, S => .ok (.tup l) S
  | .str l, S => .ok (.str l) S
  | .scr l, S => .ok (.scr l) S
  | .loc n, S => match S.get n with
    | some (.lst _) => .ok (.lst n) S
    | some (.dct (_ + 1) _) => .ok (.dk n) S
    | _ => .stuck
  | _, _ => .stuck
def mIt (m : ME) : MI := fun sd S => (m sd S).bind itOf
theorem pi_anym {tg e : Expr} {m : ME} (he : PEm G X e m) : PIm G X tg e (mIt m) := fun W ok => by
  refine ⟨fun pins s σ H R I h => ?_⟩
  obtain ⟨sd, S, ρ, hs, hr, h⟩ := h
  have t : te G m W σ H (fun x H1 => ∃ ρ S d, Rep G ρ S H1 ∧ RelD G ρ H1 d x ∧ Aft G (ItOk G) ρ H1 (itOf d S) R (fun c a H' => W c a σ H')) := ⟨sd, S, ρ, hs, hr, Aft.bind h fun ρ1 H1 x d S1 le1 r1 rd h1 => ⟨ρ1, S1, d, r1, rd, h1⟩⟩
  refine thn ((he W ok).run pins s σ H _ I t) fun v s1 ⟨x, H1, I1, r1, q1⟩ => ?_
  obtain ⟨ρ1, S1, d, rp, rd, q⟩ := q1
  cases d with
  | tup l =>
    simp only [RelD] at rd
    obtain ⟨a, xs, rfl, hq, ht⟩ := rd
    cases r1
    obtain ⟨its, rv, p, hz⟩ := I1.tuple (show SqT X.K H1 a xs from .inl (.inl hq))
    refine wpAny_pyIter_tuple (show s1.heap.IsTuple a its.toArray from p) ?_
    refine ⟨s1.heap.objs.size, [s1.heap.objs.size], _, _, H1, rfl, I1.kept (t' := s1.toks) fun b o e => Heap.get?_push_of_some _ e, turn_tuple a _, ⟨_, Heap.get?_push_size _ rfl, rfl, rfl⟩, fun b hb => ?_, q.ok rp (it_tup ok.kk hq ht)⟩
    have e : b = s1.heap.objs.size := by simpa using hb
    subst e
    exact I1.fpOk (Nat.le_refl _) (I1.hok.fresh (Nat.le_refl _))
  | str l =>
    simp only [RelD] at rd
    subst rd
    obtain ⟨t, rfl⟩ := r1
    cases ha : (⟨l.toArray⟩ : Str).cps.all (· < 128)
    · exact wpAny_pyIter_wide ha (pi_one (tk := s1.toks) I1 _ (turn_str _ _ t "str_iterator" (.inr rfl)) ⟨_, Heap.get?_push_size _ rfl, rfl, rfl⟩ (q.ok rp it_str))
    · exact wpAny_pyIter_ascii ha (pi_one (tk := s1.toks) I1 _ (turn_str _ _ t "str_ascii_iterator" (.inl rfl)) ⟨_, Heap.get?_push_size _ rfl, rfl, rfl⟩ (q.ok rp it_str))
  | scr l =>
    simp only [RelD] at rd
    obtain ⟨a, rfl, hq⟩ := rd
    cases r1
    have hq2 := hq.seq
    rw [ok.kk] at hq2
    obtain ⟨its, rv, p, hz⟩ := I1.list hq2
    refine wpAny_pyIter_list p.isList ?_
    refine ⟨s1.heap.objs.size, [s1.heap.objs.size], _, _, H1, rfl, I1.kept (t' := s1.toks) fun b o e => Heap.get?_push_of_some _ e, turn_list a _, ⟨_, Heap.get?_push_size _ rfl, rfl, rfl⟩, fun b hb => ?_, q.ok rp (it_scr ok.kk hq)⟩
    have e : b = s1.heap.objs.size := by simpa using hb
    subst e
    exact I1.fpOk (Nat.le_refl _) (I1.hok.fresh (Nat.le_refl _))
  | loc n =>
    simp only [itOf] at q
    split at q
    · rename_i l el
      obtain ⟨a, xs, rfl, e1, hH, ht⟩ := rp.list el rd
      cases r1
      obtain ⟨its, rv, p, hz⟩ := I1.list (show SqL X.K H1 a xs from .inl (.inl hH))
      refine wpAny_pyIter_list p.isList ?_
      refine ⟨s1.heap.objs.size, [s1.heap.objs.size], _, _, H1, rfl, I1.kept (t' := s1.toks) fun b o e => Heap.get?_push_of_some _ e, turn_list a _, ⟨_, Heap.get?_push_size _ rfl, rfl, rfl⟩, fun b hb => ?_, q.ok rp (it_lst ok.kk e1)⟩
      have e : b = s1.heap.objs.size := by simpa using hb
      subst e
      exact I1.fpOk (Nat.le_refl _) (I1.hok.fresh (Nat.le_refl _))
    · rename_i lk l el
      simp only [RelD] at rd
      obtain ⟨a, e1, rfl⟩ := rd
      cases r1
      obtain ⟨b, e2, c⟩ := rp.cell n _ el
      rw [e1] at e2
      cases e2
      rcases c with ⟨kvs, ⟨o, hd⟩, p⟩ | ⟨hne, kvs, ⟨o, hd⟩, p⟩
      · obtain ⟨hs, hgd, hx, es, ep, vs, hdt, hsz, kv, hm⟩ := I1.frzK hd
        refine iter_keys hs hgd hx hdt (pi_one (tk := s1.toks) I1 _ (turn_keys _ hdt) ⟨_, Heap.get?_push_size _ rfl, rfl, ?_⟩ (q.ok rp (it_dk e1 hd)))
        rw [hsz] <;> rfl
      · obtain ⟨hs, hgd, hx, es, ep, hdt, hsz, ent⟩ := I1.frzT hd
        refine iter_keys hs hgd hx hdt (pi_one (tk := s1.toks) I1 _ (turn_keysT _ hdt) ⟨_, Heap.get?_push_size _ rfl, rfl, ?_⟩ (q.ok rp (it_dkT e1 hd)))
        rw [hsz] <;> rfl
    · exact q.elim
  | _ => exact q.elim
def itRng1 : List D → Sto → Res ItD
  | [.int j], S => if -4611686018427387904 ≤ j ∧ j < 4611686018427387904 then .ok (.rng 0 1 j.toNat) S else .stuck
  | _, _ => .stuck
def itRng2 : List D → Sto → Res ItD
  | [.int i, .int j], S => if -4611686018427387904 ≤ i ∧ i < 4611686018427387904 ∧ -4611686018427387904 ≤ j ∧ j < 4611686018427387904 then .ok (.rng i 1 (j - i).toNat) S else .stuck
  | _, _ => .stuck
def mIts (f : List D → Sto → Res ItD) (m : MA) : MI := fun sd S => (m sd S).bind f
theorem rels1 {ds : List D} {v : V} (h : RelDs G ρ H ds [v]) : ∃ d, ds = [d] ∧ RelD G ρ H d v := by
  match ds, h with
  | [], h => simp only [RelDs] at h; cases h
  | [d], h =>
    simp only [RelDs] at h
    obtain ⟨w, ys, e, h1, h2⟩ := h
    cases e
    exact ⟨d, rfl, h1⟩
  | _ :: _ :: _, h =>
    have e := h.length
    simp at e
theorem pi_range1m {tg a : Expr} {m : MA} {p pos : Pos} (hg : Gl X "range") (hm : X.mg "range" = none) (ha : PAm G X [a] m) (hs : starEach [a] X.env = [(false, eval a X.env)] := by rfl) : PIm G X tg (.Call (.Name "range" p) [a] [] pos) (mIts itRng1 m) := fun W ok =>
  PI_imp (pi_range1 hg hm (ha W ok) hs) fun σ H R ⟨sd, S, ρ, hs, hr, h⟩ => ⟨sd, S, ρ, hs, hr, Aft.bind h fun ρ1 H1 xs ds S1 le1 r1 rd h1 => by
    unfold itRng1 at h1
    split at h1
    · rename_i j
      simp only [RelDs, RelD] at rd
      obtain ⟨_, _, rfl, rfl, rfl⟩ := rd
      split at h1
      · rename_i hj
        exact ⟨j, rfl, hj.1, hj.2, h1.ok r1 it_rng⟩
      · exact h1.elim
    · exact h1.elim⟩
theorem pi_range2m {tg a b : Expr} {m : MA} {p pos : Pos} (hg : Gl X "range") (hm : X.mg "range" = none) (ha : PAm G X [a, b] m) (hs : starEach [a, b] X.env = [(false, eval a X.env), (false, eval b X.env)] := by rfl) (hs2 : starEach [b] X.env = [(false, eval b X.env)] := by rfl) :
    PIm G X tg (.Call (.Name "range" p) [a, b] [] pos) (mIts itRng2 m) := fun W ok =>
  PI_imp (pi_range2 hg hm (ha W ok) hs hs2) fun σ H R ⟨sd, S, ρ, hs, hr, h⟩ => ⟨sd, S, ρ, hs, hr, Aft.bind h fun ρ1 H1 xs ds S1 le1 r1 rd h1 => by
    unfold itRng2 at h1
    split at h1
    · rename_i i j
      simp only [RelDs, RelD] at rd
      obtain ⟨_, _, rfl, rfl, _, _, rfl, rfl, rfl⟩ := rd
      split at h1
      · rename_i hj
        exact ⟨i, j, rfl, hj, h1.ok r1 it_rng⟩
      · exact h1.elim
    · exact h1.elim⟩
def itEnl : List D → Sto → Res ItD
  | [.loc n], S => match S.get n with
    | some (.lst _) => .ok (.enl n) S
    | _ => .stuck
  | _, _ => .stuck
theorem pi_enlm {e : Expr} {m : MA} {p pos tpos : Pos} {elts : List Expr} {kk : Nat} (hg : Gl X "enumerate") (hm : X.mg "enumerate" = none) (ha : PAm G X [e] m) (hs : starEach [e] X.env = [(false, eval e X.env)] := by rfl) :
    PIm G X (.Tuple elts kk tpos) (.Call (.Name "enumerate" p) [e] [] pos) (mIts itEnl m) := fun W ok =>
  PI_imp (pi_enum hg hm (ha W ok) hs) fun σ H R ⟨sd, S, ρ, hs, hr, h⟩ => ⟨sd, S, ρ, hs, hr, Aft.bind h fun ρ1 H1 xs ds S1 le1 r1 rd h1 => by
    unfold itEnl at h1
    split at h1
    · rename_i n
      simp only [RelDs] at rd
      obtain ⟨v, _, rfl, rd, rfl⟩ := rd
      split at h1
      · rename_i l el
        obtain ⟨a, ys, rfl, e2, hH, ht⟩ := r1.list el rd
        exact ⟨a, ys, rfl, .inl (.inl hH), h1.ok r1 (it_enl ok.kk e2)⟩
      · exact h1.elim
    · exact h1.elim⟩
theorem noT {l : List (D × D)} {kvs : List (List Key × V)} (h : isK l = true) (hne : l ≠ []) (p : PairK keyT G ρ H l kvs) : False := by
  cases l with
  | nil => exact hne rfl
  | cons q r =>
    obtain ⟨k, v, zs, _, e, _⟩ := p
    simp only [isK] at h
    cases hq : q.1 with
    | tup ds => rw [hq] at h; simp [keyD] at h
    | _ => rw [hq] at e; simp [keyT] at e
def itDv : D → Sto → Res ItD
  | .loc n, S => match S.get n with
    | some (.dct (_ + 1) l) => if isK l then .ok (.dv n) S else .stuck
    | _ => .stuck
  | _, _ => .stuck
def itDi : D → Sto → Res ItD
  | .loc n, S => match S.get n with
    | some (.dct (_ + 1) l) => if isK l then .ok (.di n) S else .stuck
    | some (.raw _) => .ok (.di n) S
    | _ => .stuck
  | _, _ => .stuck
def mItM (f : D → Sto → Res ItD) (m : ME) : MI := fun sd S => (m sd S).bind f
theorem dct_k {S : Sto} {n lk : Nat} {l : List (D × D)} {x : V} (r1 : Rep G ρ S H) (el : S.get n = some (.dct (lk + 1) l)) (hk : isK l = true) (rd : RelD G ρ H (.loc n) x) : ∃ a o kvs, x = .ref a ∧ ρ n = some a ∧ H a = some (.frz o (.dK kvs)) := by
  simp only [RelD] at rd
  obtain ⟨a, e2, rfl⟩ := rd
  obtain ⟨b, e3, c⟩ := r1.cell n _ el
  rw [e2] at e3
  cases e3
  rcases c with ⟨kvs, ⟨o, hd⟩, p⟩ | ⟨hne, kvs, ⟨o, hd⟩, p⟩
  · exact ⟨a, o, kvs, rfl, e2, hd⟩
  · exact (noT hk hne p).elim
theorem pi_itemsm {e : Expr} {m : ME} {elts : List Expr} {kk : Nat} {tpos apos cpos : Pos} (he : PEm G X e m) (hbase : attributeBase e "items" X.env (eval e X.env) = eval e X.env := by rfl) (hline : (apos.endLine == cpos.line) = true := by rfl) :
    PIm G X (.Tuple elts kk tpos) (.Call (.Attribute e "items" apos) [] [] cpos) (mItM itDi m) := fun W ok =>
  PI_imp (pi_itemsJ (he W ok) hbase hline) fun σ H R ⟨sd, S, ρ, hs, hr, h⟩ => ⟨sd, S, ρ, hs, hr, Aft.bind h fun ρ1 H1 x d S1 le1 r1 rd h1 => by
    unfold itDi at h1
    split at h1
    · rename_i n
      split at h1
      · rename_i lk l el
        split at h1
        · rename_i hk
          obtain ⟨a, o, kvs, rfl, e2, hd⟩ := dct_k r1 el hk rd
          exact .inl ⟨a, o, kvs, rfl, hd, h1.ok r1 (it_di e2 hd)⟩
        · exact h1.elim
      · rename_i l el
        simp only [RelD] at rd
        obtain ⟨a, e2, rfl⟩ := rd
        obtain ⟨b, e3, o, es, ep, kvs, hd, c1, c2, c3, c4, p⟩ := r1.cell n _ el
        rw [e2] at e3
        cases e3
        exact .inr ⟨a, o, es, ep, kvs, _, rfl, hd, c1, c2, c3, c4, h1.ok r1 (it_diR e2 hd c3 c4)⟩
      · exact h1.elim
    · exact h1.elim⟩
theorem pi_valuesm {tg e : Expr} {m : ME} {apos cpos : Pos} (he : PEm G X e m) (hbase : attributeBase e "values" X.env (eval e X.env) = eval e X.env := by rfl) (hline : (apos.endLine == cpos.line) = true := by rfl) :
    PIm G X tg (.Call (.Attribute e "values" apos) [] [] cpos) (mItM itDv m) := fun W ok =>
  PI_imp (pi_values (he W ok) hbase hline) fun σ H R ⟨sd, S, ρ, hs, hr, h⟩ => ⟨sd, S, ρ, hs, hr, Aft.bind h fun ρ1 H1 x d S1 le1 r1 rd h1 => by
    unfold itDv at h1
    split at h1
    · rename_i n
      split at h1
      · rename_i lk l el
        split at h1
        · rename_i hk
          obtain ⟨a, o, kvs, rfl, e2, hd⟩ := dct_k r1 el hk rd
          exact ⟨a, o, kvs, rfl, hd, h1.ok r1 (it_dv e2 hd)⟩
        · exact h1.elim
      · exact h1.elim
    · exact h1.elim⟩

/-! ### a dict that is walked is locked -/
def unlkS (n : Nat) : SRes → SRes
  | .nx sd S => match S.get n with
    | some (.dct 1 l) => .nx sd (S.set n (.dct 0 l))
    | _ => .stuck
  | .rt d S => match S.get n with
    | some (.dct 1 l) => .rt d (S.set n (.dct 0 l))
    | _ => .stuck
  | .bk sd S => match S.get n with
    | some (.dct 1 l) => .bk sd (S.set n (.dct 0 l))
    | _ => .stuck
  | .ct sd S => match S.get n with
    | some (.dct 1 l) => .ct sd (S.set n (.dct 0 l))
    | _ => .stuck
  | .ex x sd S => .ex x sd S
  | .stuck => .stuck
  | .pick t f => .pick t fun r => unlkS n (f r)
def unlkE (n : Nat) : Res D → Res D
  | .ok d S => match S.get n with
    | some (.dct 1 l) => .ok d (S.set n (.dct 0 l))
    | _ => .stuck
  | .exc x S => .exc x S
  | .stuck => .stuck
  | .pick t f => .pick t fun r => unlkE n (f r)
/-- md: which dict it is -/
def sLock (md : ME) (m : MS) : MS := fun sd S => match md sd S with
  | .ok (.loc n) _ => (match S.get n with
    | some (.dct 0 l) => unlkS n (m sd (S.set n (.dct 1 l)))
    | _ => m sd S)
  | .ok _ _ => m sd S
  | _ => .stuck
def mLock (md : ME) (m : ME) : ME := fun sd S => match md sd S with
  | .ok (.loc n) _ => (match S.get n with
    | some (.dct 0 l) => unlkE n (m sd (S.set n (.dct 1 l)))
    | _ => m sd S)
  | .ok _ _ => m sd S
  | _ => .stuck
theorem unl {ρ' : Rho} {H' : Hp} {S' : Sto} {n : Nat} {l' : List (D × D)} {a : Addr} {od : Obj} {u : HO} (e : ρ n = some a) (hH : H a = some u) (w : Wr (some u)) (u1 : ∀ xs, u ≠ .tup xs) (u2 : ∀ xs, u ≠ .lst xs) (le : Le G ρ (L2.upd H a (.frz od u)) ρ' H') (rp : Rep G ρ' S' H') (el : S'.get n = some (.dct 1 l')) :
    H' a = some (.frz od u) ∧ Le G ρ H ρ' (L2.upd H' a u) ∧ Rep G ρ' (S'.set n (.dct 0 l')) (L2.upd H' a u) ∧ Lw G ρ' H' ρ' (L2.upd H' a u) := by
  have hd := le.fz a od u upd_same
  refine ⟨hd, le_unlock hH w le, rp.unlock el (le.rho _ _ e) hd u1 u2, ⟨fun _ _ h => h, fun b xs h => ?_, fun b l h => ?_⟩⟩
  · rw [upd_ne (fun z => by rw [z, hd] at h; cases h)]
    exact h
  · rcases h with ⟨ob, h⟩ | h
    · exact .inl ⟨ob, by rw [upd_ne (fun z => by rw [z, hd] at h; cases h; exact u2 _ rfl)]; exact h⟩
    · exact .inr h
theorem RelSt.monoW {ρ' : Rho} {H' : Hp} {sd : SD} {σ : L2.St} (h : RelSt G ρ H sd σ) (le : Lw G ρ H ρ' H') : RelSt G ρ' H' sd σ := ⟨h.1, RelSl.monoW le h.2⟩
/-- which dict: what md reads stands at the same place whatever is locked -/
theorem ps_lockm {st : Stmt} {md : ME} {m : MS} (h : PSm G X st m) : PSm G X st (sLock md m) := fun W ok => by
  refine ⟨fun pins s σ H E I ⟨sd, S, ρ, hs, hr, q⟩ => ?_⟩
  unfold sLock at q
  split at q
  · rename_i n S0 e0
    split at q
    · rename_i l el
      obtain ⟨b, eb, _⟩ := hr.cell n _ el
      obtain ⟨a, u, ea, e, hH, mu, w, u1, u2, hl⟩ := hr.lock (ρ := ρ) el (RelD.loc' eb)
      refine (ps_lock (h W ok)).run pins s σ H E I ⟨a, u, hH, mu, fun od => ⟨sd, _, ρ, hs.mono (Le.upd (by rw [hH]; exact w)), hl od, ?_⟩⟩
      have lk : Le G ρ H ρ (upd H a (.frz od u)) := Le.upd (by rw [hH]; exact w)
      generalize m sd (S.set n (.dct 1 l)) = r at q
      induction r with
      | nx sd1 S1 =>
        simp only [unlkS] at q
        split at q
        · rename_i l' el'
          intro ρ' H' σ' le rp rs
          obtain ⟨h1, h2, h3, h4⟩ := unl e hH w u1 u2 le rp el'
          exact ⟨h1, q ρ' _ σ' h2 h3 (rs.monoW h4)⟩
        · exact q.elim
      | rt d S1 =>
        simp only [unlkS] at q
        split at q
        · rename_i l' el'
          intro ρ' H' v le rp rs
          obtain ⟨h1, h2, h3, h4⟩ := unl e hH w u1 u2 le rp el'
          exact ⟨h1, q ρ' _ v h2 h3 (RelD.monoW h4 rs)⟩
        · exact q.elim
      | bk sd1 S1 =>
        simp only [unlkS] at q
        split at q
        · rename_i l' el'
          intro ρ' H' σ' le rp rs
          obtain ⟨h1, h2, h3, h4⟩ := unl e hH w u1 u2 le rp el'
          exact ⟨h1, q ρ' _ σ' h2 h3 (rs.monoW h4)⟩
        · exact q.elim
      | ct sd1 S1 =>
        simp only [unlkS] at q
        split at q
        · rename_i l' el'
          intro ρ' H' σ' le rp rs
          obtain ⟨h1, h2, h3, h4⟩ := unl e hH w u1 u2 le rp el'
          exact ⟨h1, q ρ' _ σ' h2 h3 (rs.monoW h4)⟩
        · exact q.elim
      | ex x sd1 S1 => exact fun ρ' H' σ' c d le rp rs rx => q ρ' H' σ' c d (lk.trans le) rp rs rx
      | stuck => exact q.elim
      | pick t f ih => exact fun r hr => ih r (q r hr)
    · exact (h W ok).run pins s σ H E I ⟨sd, S, ρ, hs, hr, q⟩
  · exact (h W ok).run pins s σ H E I ⟨sd, S, ρ, hs, hr, q⟩
  · exact q.elim
theorem pm_lock {ex : Expr} {md : ME} {m : ME} (h : PEm G X ex m) : PEm G X ex (mLock md m) := fun W ok => by
  refine ⟨fun pins s σ H Q I ⟨sd, S, ρ, hs, hr, q⟩ => ?_⟩
  unfold mLock at q
  split at q
  · rename_i n S0 e0
    split at q
    · rename_i l el
      obtain ⟨b, eb, _⟩ := hr.cell n _ el
      obtain ⟨a, u, ea, e, hH, mu, w, u1, u2, hl⟩ := hr.lock (ρ := ρ) el (RelD.loc' eb)
      refine (pe_lock (h W ok)).run pins s σ H Q I ⟨a, u, hH, mu, fun od => ⟨sd, _, ρ, hs.mono (Le.upd (by rw [hH]; exact w)), hl od, ?_⟩⟩
      have lk : Le G ρ H ρ (upd H a (.frz od u)) := Le.upd (by rw [hH]; exact w)
      generalize m sd (S.set n (.dct 1 l)) = r at q
      induction r with
      | ok d S1 =>
        simp only [unlkE] at q
        split at q
        · rename_i l' el'
          intro ρ' H' v le rp rs
          obtain ⟨h1, h2, h3, h4⟩ := unl e hH w u1 u2 le rp el'
          exact ⟨h1, q ρ' _ v h2 h3 (RelD.monoW h4 rs)⟩
        · exact q.elim
      | exc x S1 => exact fun ρ' H' c d le rp rx => q ρ' H' c d (lk.trans le) rp rx
      | stuck => exact q.elim
      | pick t f ih => exact fun r hr => ih r (q r hr)
    · exact (h W ok).run pins s σ H Q I ⟨sd, S, ρ, hs, hr, q⟩
  · exact (h W ok).run pins s σ H Q I ⟨sd, S, ρ, hs, hr, q⟩
  · exact q.elim
end
end Y

/-! Y5: list comprehensions. -/
namespace Y
open PySem PySem.Spec PyProof.Rows L2
def wipeD (sd : SD) : List Nat → SD
  | [] => sd
  | v :: vs => (wipeD sd vs).set v none
section
variable {G : Glo} {X : Cx} {ρ : Rho} {H : Hp}
theorem RelSt.none {sd : SD} {σ : L2.St} (h : RelSt G ρ H sd σ) (i : Nat) : RelSt G ρ H (sd.set i Option.none) (σ.set i Option.none) := by
  refine ⟨by simp only [List.length_set]; exact h.1, fun j e hj => ?_⟩
  by_cases hij : i = j
  · subst hij
    rw [List.getElem?_set] at hj
    simp at hj
  · rw [List.getElem?_set_ne hij] at hj ⊢
    exact h.2 j e hj
theorem RelSt.wipe {sd : SD} {σ : L2.St} (h : RelSt G ρ H sd σ) : ∀ vs : List Nat, RelSt G ρ H (wipeD sd vs) (L2.wipe σ vs)
  | [] => h
  | v :: vs => (RelSt.wipe h vs).none v
theorem wipe_get {σ : L2.St} : ∀ {vs : List Nat} {j : Nat}, j < σ.length → (L2.wipe σ vs)[j]? = if j ∈ vs then some Option.none else σ[j]?
  | [], j, _ => by simp [L2.wipe]
  | v :: vs, j, hj => by
    unfold L2.wipe
    rw [List.getElem?_set]
    have hl : j < (L2.wipe σ vs).length := by rw [wipe_length]; exact hj
    by_cases e : v = j
    · subst e
      simp [hl]
    · rw [if_neg e, wipe_get hj]
      simp [Ne.symm e]
/-- two lots of slots that agree but for vs are one when vs is wiped -/
theorem wipe_eq {σ σ' : L2.St} {vs l : List Nat} (k : Kept l σ σ') (hl : ∀ j ∈ l, j ∈ vs) : L2.wipe σ' vs = L2.wipe σ vs := by
  refine List.ext_getElem? fun j => ?_
  by_cases hj : j < σ.length
  · rw [wipe_get hj, wipe_get (by rw [k.1]; exact hj)]
    split
    · rfl
    · rename_i hn
      exact k.2 j fun z => hn (hl j z)
  · rw [List.getElem?_eq_none (by rw [wipe_length, k.1]; omega), List.getElem?_eq_none (by rw [wipe_length]; omega)]
theorem wipe_twice {σ : L2.St} {vs : List Nat} : L2.wipe (L2.wipe σ vs) vs = L2.wipe σ vs := by
  refine List.ext_getElem? fun j => ?_
  by_cases hj : j < σ.length
  · rw [wipe_get (by rw [wipe_length]; exact hj), wipe_get hj]
    split <;> rfl
  · rw [List.getElem?_eq_none (by rw [wipe_length, wipe_length]; omega), List.getElem?_eq_none (by rw [wipe_length]; omega)]

def tYesM : MT := fun _ S => .ok true S
def PTsm (G : Glo) (X : Cx) (es : List Expr) (m : MT) : Prop := ∀ W, XOk G X W → PTs X es (tt G m W)
theorem pts_nilm : PTsm G X [] tYesM := fun W ok => ⟨fun pins s σ H Q I ⟨sd, S, ρ, hs, hr, h⟩ => pts_nil.run pins s σ H Q I (h.ok hr rfl)⟩
theorem pts_onem {c : Expr} {m : MT} (h : PTm G X c m) : PTsm G X [c] m := fun W ok => pts_one (h W ok)
def lcLoop (it : ItD) (t : Tg) (q : MT) (e : ME) (sd : SD) (dl : Nat) : Nat → Nat → Sto → Res D
  | 0, _, _ => .stuck
  | n + 1, i, S => match itNext it i S with
    | none => .stuck
    | some none => .ok (.loc dl) S
    | some (some d) => match asg t d sd with
      | none => .stuck
      | some sd1 => (q sd1 S).bindX fun k S1 => if k then (e sd1 S1).bindX fun y S2 => (match S2.get dl with
          | some (.lst acc) => if acc.length < 16777216 then lcLoop it t q e sd dl n (i + 1) (S2.set dl (.lst (acc ++ [y]))) else .stuck
          | _ => .stuck) else lcLoop it t q e sd dl n (i + 1) S1
def mLc (mi : MI) (t : Tg) (q : MT) (e : ME) (vs : List Nat) : ME := fun sd S => (mi sd S).bind fun it S1 => lcLoop it t q e (wipeD sd vs) S1.n (itLen it S1 + 1) 0 (S1.new (.lst []))
abbrev Wno : WX := fun _ _ _ _ => False
theorem blk_ok {s : Shared} {H : Hp} {scope : Scope} {cenv : Env} {fp : List Addr} (kk : G.K = X.K) : XOk G (X.blk s H scope cenv fp) Wno := ⟨takes0, PassesOwn.never, kk⟩
theorem lc_read {mi : MI} {t : Tg} {q : MT} {m : ME} {W : WX} {vs : List Nat} (kk : G.K = X.K) (hv : ∀ j ∈ t.slots, j ∈ vs) {σ : L2.St} {H : Hp} {Q : VK} (h : te G (mLc mi t q m vs) W σ H Q) : tLc (ti G mi W) (gOf X.K t) (tt G q Wno) (te G m Wno) vs σ H Q := by
  obtain ⟨sd, S, ρ, hs, hr, h⟩ := h
  refine ⟨sd, S, ρ, hs, hr, Aft.bind h fun ρ1 H1 J it S1 le1 r1 ij h1 => fun Dd hD => ?_⟩
  have leD : Le G ρ1 H1 (ext ρ1 S1.n Dd) (upd H1 Dd (.lst [])) := (Le.ext (r1.top _ (Nat.le_refl _))).trans (Le.same (same_new hD))
  have hs1 := hs.mono (le1.trans leD)
  refine ⟨fun i m2 H => ∃ S ρ, Le G (ext ρ1 S1.n Dd) (upd H1 Dd (.lst [])) ρ H ∧ Rep G ρ S H ∧ Aft G (RelD G) ρ H (lcLoop it t q m (wipeD sd vs) S1.n m2 i S) Q (fun c d H' => W c d σ H'),
    ⟨_, _, _, Le.refl, r1.new (c := .lst []) hD ⟨[], upd_same, .nil⟩, h1.le leD⟩, fun i m2 H2 ⟨S2, ρ2, le2, r2, h2⟩ => ?_⟩
  have hsw : RelSt G ρ2 H2 (wipeD sd vs) (L2.wipe σ vs) := (hs1.mono le2).wipe vs
  have hρD : ρ2 S1.n = some Dd := le2.rho _ _ ext_same
  cases m2 with
  | zero => exact h2.elim
  | succ m2 =>
    have ij2 := ij i ρ2 H2 S2 (leD.trans le2) r2
    simp only [lcLoop] at h2
    split at h2
    · exact h2.elim
    · rename_i en
      rw [en] at ij2
      exact .inl ⟨ij2, h2.ok r2 (RelD.loc' hρD)⟩
    · rename_i d en
      rw [en] at ij2
      obtain ⟨hgo, hy⟩ := ij2
      refine .inr ⟨hgo, _, fun H' hn => ⟨m2, Nat.lt_succ_self m2, hn⟩, fun x H3 hx => ?_⟩
      obtain ⟨l3, r3, rd⟩ := hy x H3 hx
      split at h2
      · exact h2.elim
      · rename_i sd1 ea
        refine gOf_ok kk rd (hsw.mono l3) ea fun σ2 s2 k2 => ?_
        refine ⟨(wipe_eq k2 hv).trans wipe_twice, sd1, S2, ρ2, s2, r3, ?_⟩
        refine Aft.bindX (h2.le l3) fun ρ4 H4 b k S4 l4 r4 eb h4 => ?_
        have eb : k = b := eb
        subst eb
        cases k with
        | false => exact ⟨S4, ρ4, (le2.trans l3).trans l4, r4, h4⟩
        | true =>
          refine ⟨sd1, S4, ρ4, s2.mono l4, r4, Aft.bindX h4 fun ρ5 H5 v y S5 l5 r5 rv h5 => ?_⟩
          split at h5
          · rename_i acc eacc
            split at h5
            · rename_i hlen
              have hρ5 : ρ5 S1.n = some Dd := l5.rho _ _ (l4.rho _ _ hρD)
              obtain ⟨a, xs, ea2, _, hH, hrel⟩ := r5.list eacc (RelD.loc' hρ5)
              cases ea2
              have w : Wr1 (H5 Dd) := by rw [hH]; exact trivial
              have lw := Le.upd (G := G) (ρ := ρ5) (o := .lst (xs ++ [v])) w.wr
              exact ⟨xs, hH, by rw [← hrel.length, sizeLine_eq]; exact hlen, _, ρ5, (((le2.trans l3).trans l4).trans l5).trans lw, r5.set (c' := .lst (acc ++ [y])) eacc hρ5 w ⟨_, upd_same, (hrel.mono lw).append (.one (rv.mono lw))⟩, h5.le lw⟩
            · exact h5.elim
          · exact h5.elim
theorem pm_lc {elt tg iter : Expr} {ifs : List Expr} {scope : Scope} {own : List (Str × Nat)} {pos : Pos} {mi : MI} {t : Tg} {q : MT} {m : ME} (hc : X.calm = true) (hN : X.N.Nodup) (hi : PIm G X tg iter mi) (ok : BlkOk X.N X.env.scope scope own)
    (hg : ∀ (s : Shared) (H : Hp) (C : Addr) (cl : List (Str × Addr)) (fp : List Addr), PG (X.blk s H scope (compEnvC scope cl C X.env) fp) tg (gOf X.K t)) (ht : ∀ (s : Shared) (H : Hp) (C : Addr) (cl : List (Str × Addr)) (fp : List Addr), PTsm G (X.blk s H scope (compEnvC scope cl C X.env) fp) ifs q)
    (he : ∀ (s : Shared) (H : Hp) (C : Addr) (cl : List (Str × Addr)) (fp : List Addr), PEm G (X.blk s H scope (compEnvC scope cl C X.env) fp) elt m) (hv : ∀ j ∈ t.slots, j ∈ own.map (·.2) := by decide) (hs : ∀ x, foldedSetIterable iter X.env x = pure x := by intro _; rfl) :
    PEm G X (.ListComp elt [⟨tg, iter, ifs, 0⟩] scope pos) (mLc mi t q m (own.map (·.2))) := fun W xk =>
  PE_imp (pe_lc hc hN (hi W xk) ok hg (fun s H C cl fp => ht s H C cl fp Wno (blk_ok xk.kk)) (fun s H C cl fp => he s H C cl fp Wno (blk_ok xk.kk)) hs) fun σ H Q h => lc_read xk.kk hv h
/-- name = [..] on one row -/
theorem ps_setLcm {i : Nat} {y : Str} {py spos : Pos} {elt tg iter : Expr} {ifs : List Expr} {scope : Scope} {own : List (Str × Nat)} {pos : Pos} {mi : MI} {t : Tg} {q : MT} {m : ME} (hc : X.calm = true) (hN : X.N.Nodup) (hi : PIm G X tg iter mi) (ok : BlkOk X.N X.env.scope scope own)
    (hg : ∀ (s : Shared) (H : Hp) (C : Addr) (cl : List (Str × Addr)) (fp : List Addr), PG (X.blk s H scope (compEnvC scope cl C X.env) fp) tg (gOf X.K t)) (ht : ∀ (s : Shared) (H : Hp) (C : Addr) (cl : List (Str × Addr)) (fp : List Addr), PTsm G (X.blk s H scope (compEnvC scope cl C X.env) fp) ifs q)
    (he : ∀ (s : Shared) (H : Hp) (C : Addr) (cl : List (Str × Addr)) (fp : List Addr), PEm G (X.blk s H scope (compEnvC scope cl C X.env) fp) elt m) (hv : ∀ j ∈ t.slots, j ∈ own.map (·.2) := by decide) (hs : ∀ x, foldedSetIterable iter X.env x = pure x := by intro _; rfl)
    (hy : X.N[i]? = some y := by rfl) (hyl : X.env.scope.names.lookup y = some .local := by rfl) (hsw : swapsWith (.ListComp elt [⟨tg, iter, ifs, 0⟩] scope pos) (some (.Name y py)) spos.line X.env = pure true := by exact sw_true rfl rfl rfl (by decide +kernel)) :
    PSm G X (.Assign [.Name y py] (.ListComp elt [⟨tg, iter, ifs, 0⟩] scope pos) spos) (sSet i (mLc mi t q m (own.map (·.2)))) := fun W xk =>
  PS_imp (ps_setLc hc hN hy hyl hsw (hi W xk) ok hg (fun s H C cl fp => ht s H C cl fp Wno (blk_ok xk.kk)) (fun s H C cl fp => he s H C cl fp Wno (blk_ok xk.kk)) hs) fun E σ H ⟨sd, S, ρ, hs, hr, h⟩ =>
    lc_read xk.kk hv ⟨sd, S, ρ, hs, hr, AftS.bind h hs fun ρ1 H1 v d S1 le r1 rd h1 => h1 ρ1 H1 _ Le.refl r1 ((hs.mono le).set rd i)⟩
end
end Y

/-! Y6: operators, built-ins. -/
namespace Y
open PySem PySem.Spec PyProof.Rows L2
def mulOk (i j : Int) : Bool := decide (i.natAbs < 18446744073709551616) || decide (i.natAbs.log2 + j.natAbs.log2 < 1000000)
def bAdd : D → D → Sto → Res D
  | .int i, .int j, S => .ok (.int (i + j)) S
  | .str x, .str y, S => if x.length + y.length ≤ 16777216 then .ok (.str (x ++ y)) S else .stuck
  | .tup x, .tup y, S => if x.length + y.length ≤ 16777216 then .ok (.tup (x ++ y)) S else .stuck
  | .loc a, .loc b, S => (match S.get a, S.get b with
    | some (.lst x), some (.lst y) => if x.length + y.length ≤ 16777216 then .ok (.loc S.n) (S.new (.lst (x ++ y))) else .stuck
    | _, _ => .stuck)
  | _, _, _ => .stuck
def bSub : D → D → Sto → Res D
  | .int i, .int j, S => .ok (.int (i - j)) S
  | _, _, _ => .stuck
def bMul : D → D → Sto → Res D
  | .int i, .int j, S => if mulOk i j then .ok (.int (i * j)) S else .stuck
  | .loc a, .int k, S => (match S.get a with
    | some (.lst x) => if -(2 ^ 63) ≤ k ∧ k < 2 ^ 63 ∧ x.length * k.toNat ≤ 16777216 then .ok (.loc S.n) (S.new (.lst (List.replicate k.toNat x).flatten)) else .stuck
    | _ => .stuck)
  | _, _, _ => .stuck
def bDiv : D → D → Sto → Res D
  | .int i, .int j, S => if 0 < j ∧ j.natAbs.log2 < 9000 then .ok (.int (i / j)) S else .stuck
  | _, _, _ => .stuck
def bMod : D → D → Sto → Res D
  | .int i, .int j, S => if 0 < j then .ok (.int (i % j)) S else .stuck
  | _, _, _ => .stuck
def bPow : D → D → Sto → Res D
  | .int i, .int j, S => if 0 ≤ j ∧ j ≤ 1000000 ∧ i.natAbs < 18446744073709551616 then .ok (.int (i ^ j.toNat)) S else .stuck
  | _, _, _ => .stuck
def cLt : D → D → Sto → Res D
  | .int i, .int j, S => .ok (.bl (decide (i < j))) S
  | _, _, _ => .stuck
def cLe : D → D → Sto → Res D
  | .int i, .int j, S => .ok (.bl (decide (i ≤ j))) S
  | _, _, _ => .stuck
def cGt : D → D → Sto → Res D
  | .int i, .int j, S => .ok (.bl (decide (j < i))) S
  | _, _, _ => .stuck
def cGe : D → D → Sto → Res D
  | .int i, .int j, S => .ok (.bl (decide (j ≤ i))) S
  | _, _, _ => .stuck
def uNeg : D → Sto → Res D
  | .int i, S => .ok (.int (-i)) S
  | _, _ => .stuck
def isNon : D → Bool
  | .non => true
  | _ => false
def isCls : D → Bool
  | .cls _ => true
  | _ => false
def cIs (d e : D) (S : Sto) : Res D := if isNon e && !isCls d then .ok (.bl (isNon d)) S else .stuck
def cIsNot (d e : D) (S : Sto) : Res D := if isNon e && !isCls d then .ok (.bl (!isNon d)) S else .stuck
/-! data as a whole -/
def allP (f : D → Option PyData) : List D → Option (List PyData)
  | [] => some []
  | d :: r => match f d, allP f r with
    | some x, some xs => some (x :: xs)
    | _, _ => none
def toPy (S : Sto) : Nat → D → Option PyData
  | 0, _ => none
  | n + 1, d => match d with
    | .non => some .none
    | .bl b => some (.bool b)
    | .int i => some (.int i)
    | .str x => some (.str ⟨x.toArray⟩)
    | .tup l => (allP (toPy S n) l).map .tuple
    | .loc k => (match S.get k with
      | some (.lst l) => (allP (toPy S n) l).map .list
      | _ => none)
    | _ => none
def eqDat (S : Sto) (d e : D) : Option Bool := match toPy S 12 d, toPy S 12 e with
  | some a, some b => if SeqAt.shaped a && SeqAt.shaped b then some (PyData.eqv a b) else none
  | _, _ => none
def cEq (d e : D) (S : Sto) : Res D := match eqDat S d e with
  | some b => .ok (.bl b) S
  | none => .stuck
def cNe (d e : D) (S : Sto) : Res D := match eqDat S d e with
  | some b => .ok (.bl (!b)) S
  | none => .stuck
section
variable {G : Glo} {X : Cx} {ρ : Rho} {H : Hp}
theorem OpM.of {F : Value → Value → Sem Value} {f : D → D → Sto → Res D} {r : R2} (h : OpR X F r) (k : G.K = X.K → ∀ (ρ : Rho) (H : Hp) (S : Sto) (x y : V) (d e : D) (Q : VK) (W : XK), Rep G ρ S H → RelD G ρ H d x → RelD G ρ H e y → Aft G (RelD G) ρ H (f d e S) Q W → r x y H Q) : OpM G X F f :=
  fun W ok pins s σ H ρ S x y v u d e Q I rx ry rp rd re q => h pins s σ H x y v u Q I rx ry (k ok.kk ρ H S x y d e Q _ rp rd re q)
theorem rel_int {i : Int} : RelD G ρ H (.int i) (.int i) := by simp only [RelD]
theorem rel_bl {b : Bool} : RelD G ρ H (.bl b) (.bl b) := by simp only [RelD]
theorem rel_non : RelD G ρ H .non .non := by simp only [RelD]
theorem rel_str {x : List Nat} : RelD G ρ H (.str x) (.str ⟨x.toArray⟩) := by simp only [RelD]
theorem str_len (x : List Nat) : (⟨x.toArray⟩ : Str).length = x.length := by show x.toArray.size = x.length; simp
theorem str_app (x y : List Nat) : (⟨x.toArray⟩ : Str) ++ ⟨y.toArray⟩ = ⟨(x ++ y).toArray⟩ := by
  show (⟨x.toArray ++ y.toArray⟩ : Str) = _
  simp
theorem om_sub : OpM G X (binaryOp .Sub) bSub := .of op_sub fun kk ρ H S x y d e Q W rp rd re q => by
  unfold bSub at q
  split at q
  · rename_i i j
    simp only [RelD] at rd re
    exact ⟨i, j, rd, re, q.ok rp rel_int⟩
  · exact q.elim
theorem om_mod : OpM G X (binaryOp .Mod) bMod := .of op_mod fun kk ρ H S x y d e Q W rp rd re q => by
  unfold bMod at q
  split at q
  · rename_i i j
    simp only [RelD] at rd re
    split at q
    · rename_i h
      exact ⟨i, j, rd, re, h, q.ok rp rel_int⟩
    · exact q.elim
  · exact q.elim
theorem om_div : OpM G X (binaryOp .FloorDiv) bDiv := .of op_fdivW fun kk ρ H S x y d e Q W rp rd re q => by
  unfold bDiv at q
  split at q
  · rename_i i j
    simp only [RelD] at rd re
    split at q
    · rename_i h
      exact ⟨i, j, rd, re, h, q.ok rp rel_int⟩
    · exact q.elim
  · exact q.elim
theorem om_pow : OpM G X (binaryOp .Pow) bPow := .of op_pow fun kk ρ H S x y d e Q W rp rd re q => by
  unfold bPow at q
  split at q
  · rename_i i j
    simp only [RelD] at rd re
    split at q
    · rename_i h
      exact ⟨i, j, rd, re, h, q.ok rp rel_int⟩
    · exact q.elim
  · exact q.elim
theorem om_mul : OpM G X (binaryOp .Mult) bMul := fun W ok pins s σ H ρ S x y v u d e Q I rx ry rp rd re q => by
  unfold bMul at q
  split at q
  · rename_i i j
    simp only [RelD] at rd re
    split at q
    · rename_i h
      unfold mulOk at h
      rcases Bool.or_eq_true_iff.mp h with h | h
      · have h := of_decide_eq_true h
        exact op_mul pins s σ H x y v u Q I rx ry ⟨i, j, rd, re, .inl ⟨by omega, by omega⟩, q.ok rp rel_int⟩
      · exact op_mulW pins s σ H x y v u Q I rx ry ⟨i, j, rd, re, (show CMulW i j from of_decide_eq_true (p := i.natAbs.log2 + j.natAbs.log2 < 1000000) h), q.ok rp rel_int⟩
    · exact q.elim
  · rename_i a k
    simp only [RelD] at re
    split at q
    · rename_i l el
      obtain ⟨p, xs, rfl, e1, hH, ht⟩ := rp.list el rd
      split at q
      · rename_i h
        refine op_rep pins s σ H _ y v u Q I rx ry ⟨p, k, xs, rfl, re, hH, h.1, h.2.1, by rw [← ht.length, sizeLine_eq]; exact h.2.2, fun z hz => ?_⟩
        have le : Le G ρ H (ext ρ S.n z) (upd H z (.lst (List.replicate k.toNat xs).flatten)) := (Le.ext (rp.top _ (Nat.le_refl _))).trans (Le.same (same_new hz))
        refine q _ _ _ le (rp.new (c := .lst (List.replicate k.toNat l).flatten) hz ⟨_, upd_same, ?_⟩) (RelD.loc' ext_same)
        have rr : ∀ n : Nat, RelDs G (ext ρ S.n z) (upd H z (.lst (List.replicate k.toNat xs).flatten)) (List.replicate n l).flatten (List.replicate n xs).flatten := fun n => by
          induction n with
          | zero => exact .nil
          | succ n ih =>
            simp only [List.replicate_succ, List.flatten_cons]
            exact (ht.mono le).append ih
        exact rr _
      · exact q.elim
    · exact q.elim
  · exact q.elim
theorem om_add : OpM G X (binaryOp .Add) bAdd := fun W ok pins s σ H ρ S x y v u d e Q I rx ry rp rd re q => by
  unfold bAdd at q
  split at q
  · rename_i i j
    simp only [RelD] at rd re
    exact op_add pins s σ H x y v u Q I rx ry ⟨i, j, rd, re, q.ok rp rel_int⟩
  · rename_i a b
    simp only [RelD] at rd re
    split at q
    · rename_i h
      exact op_add_str pins s σ H x y v u Q I rx ry ⟨_, _, rd, re, by rw [str_len, str_len, sizeLine_eq]; exact h, by rw [str_app]; exact q.ok rp rel_str⟩
    · exact q.elim
  · rename_i l m
    simp only [RelD] at rd re
    obtain ⟨a, xs, rfl, hx, tx⟩ := rd
    obtain ⟨b, ys, rfl, hy, ty⟩ := re
    split at q
    · rename_i h
      refine op_catA pins s σ H _ _ v u Q I rx ry ⟨a, b, xs, ys, rfl, rfl, (.inl (.inl hx)), (.inl (.inl hy)), by rw [← tx.length, ← ty.length, sizeLine_eq]; exact h, fun e => ?_, fun _ e => ?_, fun _ _ p hp => ?_⟩
      · subst e
        have e2 := tx.length
        have e3 : l = [] := List.length_eq_zero_iff.mp e2
        subst e3
        exact q.ok rp (RelD.tup' hy ty)
      · subst e
        have e2 := ty.length
        have e3 : m = [] := List.length_eq_zero_iff.mp e2
        subst e3
        rw [List.append_nil] at q
        exact q.ok rp (RelD.tup' hx tx)
      · have sm := same_new (o := .tup (xs ++ ys)) hp
        exact q ρ _ _ (Le.same sm) (rp.same sm) (RelD.tup' upd_same ((tx.mono (Le.same sm)).append (ty.mono (Le.same sm))))
    · exact q.elim
  · rename_i a b
    split at q
    · rename_i l m el em
      obtain ⟨p, xs, rfl, e1, hH, ht⟩ := rp.list el rd
      obtain ⟨p2, ys, rfl, e2, hH2, ht2⟩ := rp.list em re
      split at q
      · rename_i h
        refine op_cat pins s σ H _ _ v u Q I rx ry ⟨p, p2, xs, ys, rfl, rfl, hH, hH2, by rw [← ht.length, ← ht2.length, sizeLine_eq]; exact h, fun z hz => ?_⟩
        have le : Le G ρ H (ext ρ S.n z) (upd H z (.lst (xs ++ ys))) := (Le.ext (rp.top _ (Nat.le_refl _))).trans (Le.same (same_new hz))
        exact q _ _ _ le (rp.new (c := .lst (l ++ m)) hz ⟨_, upd_same, (ht.mono le).append (ht2.mono le)⟩) (RelD.loc' ext_same)
      · exact q.elim
    · exact q.elim
  · exact q.elim
theorem om_lt : OpM G X (compareOp .Lt) cLt := .of op_lt fun kk ρ H S x y d e Q W rp rd re q => by
  unfold cLt at q
  split at q
  · simp only [RelD] at rd re
    exact ⟨_, _, rd, re, q.ok rp rel_bl⟩
  · exact q.elim
theorem om_le : OpM G X (compareOp .LtE) cLe := .of op_le fun kk ρ H S x y d e Q W rp rd re q => by
  unfold cLe at q
  split at q
  · simp only [RelD] at rd re
    exact ⟨_, _, rd, re, q.ok rp rel_bl⟩
  · exact q.elim
theorem om_gt : OpM G X (compareOp .Gt) cGt := .of op_gt fun kk ρ H S x y d e Q W rp rd re q => by
  unfold cGt at q
  split at q
  · simp only [RelD] at rd re
    exact ⟨_, _, rd, re, q.ok rp rel_bl⟩
  · exact q.elim
theorem om_ge : OpM G X (compareOp .GtE) cGe := .of op_ge fun kk ρ H S x y d e Q W rp rd re q => by
  unfold cGe at q
  split at q
  · simp only [RelD] at rd re
    exact ⟨_, _, rd, re, q.ok rp rel_bl⟩
  · exact q.elim
theorem um_neg : UnM G X (unaryOp .USub) uNeg := fun W ok pins s σ H ρ S x v d Q I rx rp rd q => by
  unfold uNeg at q
  split at q
  · simp only [RelD] at rd
    exact un_neg pins s σ H x v Q I rx ⟨_, rd, q.ok rp rel_int⟩
  · exact q.elim
theorem isNon_ok {d : D} {x : V} (h : RelD G ρ H d x) (nc : ∀ n, d ≠ .cls n) : isNon d = decide (x = .non) := by
  cases d with
  | non => simp only [RelD] at h; subst h; rfl
  | bl b => simp only [RelD] at h; subst h; rfl
  | int b => simp only [RelD] at h; subst h; rfl
  | str b => simp only [RelD] at h; subst h; rfl
  | tup l => simp only [RelD] at h; obtain ⟨a, xs, rfl, _⟩ := h; rfl
  | loc n => simp only [RelD] at h; obtain ⟨a, _, rfl⟩ := h; rfl
  | cls n => exact absurd rfl (nc n)
  | scr l => simp only [RelD] at h; obtain ⟨a, rfl, _⟩ := h; rfl
/-! data -/
theorem allP_dp {f : D → Option PyData} {K : PySem.W.Frag} : ∀ {l : List D} {xs : List V} {ps : List PyData}, (∀ d p v, f d = some p → RelD G ρ H d v → Dp K H v p) → allP f l = some ps → RelDs G ρ H l xs → DpAll K H xs ps
  | [], xs, ps, hf, e, h => by
    simp only [allP, Option.some.injEq] at e
    subst e
    simp only [RelDs] at h
    subst h
    exact .nil
  | d :: r, xs, ps, hf, e, h => by
    simp only [allP] at e
    split at e
    · rename_i p ps' e1 e2
      cases e
      simp only [RelDs] at h
      obtain ⟨v, ys, rfl, h1, h2⟩ := h
      exact .cons (hf d p v e1 h1) (allP_dp hf e2 h2)
    · cases e
theorem toPy_dp {S : Sto} {K : PySem.W.Frag} (kk : G.K = K) (rp : Rep G ρ S H) : ∀ (n : Nat) {d : D} {p : PyData} {v : V}, toPy S n d = some p → RelD G ρ H d v → Dp K H v p
  | 0, d, p, v, e, h => by simp only [toPy] at e; cases e
  | n + 1, d, p, v, e, h => by
    cases d with
    | non => simp only [toPy, Option.some.injEq] at e; subst e; simp only [RelD] at h; subst h; exact .non
    | bl b => simp only [toPy, Option.some.injEq] at e; subst e; simp only [RelD] at h; subst h; exact .bl b
    | int b => simp only [toPy, Option.some.injEq] at e; subst e; simp only [RelD] at h; subst h; exact .int b
    | str b => simp only [toPy, Option.some.injEq] at e; subst e; simp only [RelD] at h; subst h; exact .str _
    | tup l =>
      simp only [toPy, Option.map_eq_some_iff] at e
      obtain ⟨ps, e1, rfl⟩ := e
      simp only [RelD] at h
      obtain ⟨a, xs, rfl, hq, ht⟩ := h
      exact .tup (.inl (.inl hq)) (allP_dp (fun d p v e h => toPy_dp kk rp n e h) e1 ht)
    | loc k =>
      simp only [toPy] at e
      split at e
      · rename_i l el
        simp only [Option.map_eq_some_iff] at e
        obtain ⟨ps, e1, rfl⟩ := e
        obtain ⟨a, xs, rfl, _, hH, ht⟩ := rp.list el h
        exact .lst (.inl (.inl hH)) (allP_dp (fun d p v e h => toPy_dp kk rp n e h) e1 ht)
      · cases e
    | cls c => simp only [toPy] at e; cases e
    | scr l => simp only [toPy] at e; cases e
theorem eqDat_ok {S : Sto} {d e : D} {x y : V} {b : Bool} {K : PySem.W.Frag} (kk : G.K = K) (rp : Rep G ρ S H) (h : eqDat S d e = some b) (hd : RelD G ρ H d x) (he : RelD G ρ H e y) : ∃ p q, Dp K H x p ∧ Dp K H y q ∧ SeqAt.shaped p = true ∧ SeqAt.shaped q = true ∧ PyData.eqv p q = b := by
  unfold eqDat at h
  split at h
  · rename_i p q e1 e2
    split at h
    · rename_i hs
      cases h
      simp only [Bool.and_eq_true] at hs
      exact ⟨p, q, toPy_dp kk rp 12 e1 hd, toPy_dp kk rp 12 e2 he, hs.1, hs.2, rfl⟩
    · cases h
  · cases h
theorem om_eq (hu : X.A.units + 64 < cLine) : OpM G X (compareOp .Eq) cEq := .of (op_eqD hu) fun kk ρ H S x y d e Q W rp rd re q => by
  unfold cEq at q
  split at q
  · rename_i b eb
    obtain ⟨p, r, h1, h2, h3, h4, h5⟩ := eqDat_ok kk rp eb rd re
    exact ⟨p, r, h1, h2, h3, h4, by rw [h5]; exact q.ok rp rel_bl⟩
  · exact q.elim
theorem om_ne (hu : X.A.units + 64 < cLine) : OpM G X (compareOp .NotEq) cNe := .of (op_neD hu) fun kk ρ H S x y d e Q W rp rd re q => by
  unfold cNe at q
  split at q
  · rename_i b eb
    obtain ⟨p, r, h1, h2, h3, h4, h5⟩ := eqDat_ok kk rp eb rd re
    exact ⟨p, r, h1, h2, h3, h4, by rw [h5]; exact q.ok rp rel_bl⟩
  · exact q.elim
end
end Y

/-! Y7: subscripts, methods of lists, built-in functions, defs. -/
namespace Y
open PySem PySem.Spec PyProof.Rows L2
/-! ### mirrors -/
def ixD : D → D → Sto → Res D
  | .loc n, .int i, S => (match S.get n with
    | some (.lst l) => (match atI l i with
      | some d => .ok d S
      | none => .stuck)
    | _ => .stuck)
  | .tup l, .int i, S => (match atI l i with
    | some d => .ok d S
    | none => .stuck)
  | .str l, .int i, S => if l.length ≤ 16777216 then (match atI l i with
    | some c => .ok (.str [c]) S
    | none => .stuck) else .stuck
  | .scr l, .int i, S => (match atI l i with
    | some c => .ok (.int c) S
    | none => .stuck)
  | _, _, _ => .stuck
def stL (o i v : D) (S : Sto) : Option Sto := match o, i with
  | .loc n, .int k => (match S.get n with
    | some (.lst l) => (match ixN l.length k with
      | some j => some (S.set n (.lst (l.set j v)))
      | none => none)
    | _ => none)
  | _, _ => none
def sStL (o i v : ME) : MS := fun sd S => bindS (v sd S) sd fun d S1 => bindS (o sd S1) sd fun od S2 => bindS (i sd S2) sd fun id S3 => match stL od id d S3 with
  | some S4 => .nx sd S4
  | none => .stuck
def fAppend (o : D) (as : List D) (S : Sto) : Res D := match o, as with
  | .loc n, [d] => (match S.get n with
    | some (.lst l) => if l.length < 16777216 then .ok .non (S.set n (.lst (l ++ [d]))) else .stuck
    | _ => .stuck)
  | _, _ => .stuck
/-- a method of a built-in type: tyc tells the type, f the method -/
def isLst (d : D) (S : Sto) : Bool := match d with
  | .loc n => (match S.get n with
    | some (.lst _) => true
    | _ => false)
  | _ => false
def mMeth (tc : D → Sto → Bool) (f : D → List D → Sto → Res D) (o : ME) (a : MA) : ME := fun sd S => (o sd S).bind fun od S1 => if tc od S1 then (a sd S1).bind fun as S2 => f od as S2 else .stuck
def fLen : MF
  | [.tup l], S => .ok (.int l.length) S
  | [.str l], S => if l.length ≤ 16777216 then .ok (.int l.length) S else .stuck
  | [.scr l], S => .ok (.int l.length) S
  | [.loc n], S => (match S.get n with
    | some (.lst l) => .ok (.int l.length) S
    | _ => .stuck)
  | _, _ => .stuck
def fAbs : MF
  | [.int i], S => .ok (.int (if i < 0 then -i else i)) S
  | _, _ => .stuck
def fMax2 : MF
  | [.int i, .int j], S => .ok (.int (if j > i then j else i)) S
  | _, _ => .stuck
def fMin2 : MF
  | [.int i, .int j], S => .ok (.int (if j < i then j else i)) S
  | _, _ => .stuck
def fInt : MF
  | [.int i], S => .ok (.int i) S
  | [.bl b], S => .ok (.int (if b then 1 else 0)) S
  | _, _ => .stuck
def fTuple : MF
  | [.tup l], S => .ok (.tup l) S
  | [.loc n], S => (match S.get n with
    | some (.lst l) => .ok (.tup l) S
    | _ => .stuck)
  | _, _ => .stuck
def fList : MF
  | [.tup l], S => .ok (.loc S.n) (S.new (.lst l))
  | [.loc n], S => (match S.get n with
    | some (.lst l) => .ok (.loc S.n) (S.new (.lst l))
    | _ => .stuck)
  | _, _ => .stuck
def bools : List D → Option (List Bool)
  | [] => some []
  | .bl b :: r => (bools r).map (b :: ·)
  | _ => none
def intsD : List D → Option (List Int)
  | [] => some []
  | .int b :: r => (intsD r).map (b :: ·)
  | _ => none
def fAll : MF
  | [.loc n], S => (match S.get n with
    | some (.lst l) => (match bools l with
      | some bs => .ok (.bl (bs.all id)) S
      | none => .stuck)
    | _ => .stuck)
  | _, _ => .stuck
def fAny : MF
  | [.loc n], S => (match S.get n with
    | some (.lst l) => (match bools l with
      | some bs => .ok (.bl (bs.any id)) S
      | none => .stuck)
    | _ => .stuck)
  | _, _ => .stuck
def fSum : MF
  | [.loc n], S => (match S.get n with
    | some (.lst l) => (match intsD l with
      | some ns => .ok (.int ns.sum) S
      | none => .stuck)
    | _ => .stuck)
  | _, _ => .stuck
/-- numbers of built-in classes -/
def tyD (d : D) (S : Sto) : Option Nat := match d with
  | .non => some 6
  | .bl _ => some 1
  | .int _ => some 0
  | .str _ => some 2
  | .tup _ => some 3
  | .scr _ => some 4
  | .loc n => (match S.get n with
    | some (.lst _) => some 4
    | some (.dct 0 _) => some 5
    | some (.dct (_ + 1) l) => if isK l then some 5 else none
    | some (.ins c _) => some c
    | some (.raw _) => some 5
    | _ => none)
  | .cls _ => none
def fIsI (kit : Nat → Nat → Option Bool) : MF
  | [d, .cls c], S => (match tyD d S with
    | some t => (match kit t c with
      | some b => .ok (.bl b) S
      | none => .stuck)
    | none => .stuck)
  | _, _ => .stuck
def btn : Nat → Option String
  | 0 => some "int"
  | 1 => some "bool"
  | 2 => some "str"
  | 3 => some "tuple"
  | 4 => some "list"
  | 5 => some "dict"
  | 6 => some "NoneType"
  | _ => none
section
variable {G : Glo} {X : Cx} {ρ : Rho} {H : Hp}
theorem atI_rel {l : List D} {xs : List V} {i : Int} {d : D} (h : RelDs G ρ H l xs) (e : atI l i = some d) : ∃ v, atI xs i = some v ∧ RelD G ρ H d v := by
  unfold atI at e ⊢
  rw [← h.length]
  cases hx : ixN l.length i with
  | none => rw [hx] at e; simp at e
  | some j =>
    rw [hx] at e
    simp only [Option.bind_some] at e ⊢
    exact h.get e
theorem pm_ix {a b : Expr} {ma mb : ME} {pos : Pos} (ha : PEm G X a ma) (hb : PEm G X b mb) (hs : PlainIx b := by exact fun _ _ => rfl) : PEm G X (.Subscript a b pos) (mBin ixD ma mb) := fun W ok => PE_imp (pe_ix ix_seq (ha W ok) (hb W ok) hs) fun σ H Q h => te_bin (R := fun x y H2 => rIx X.K x y H2 Q) h fun ρ H2 S d e x y rp rd re q => by
  unfold ixD at q
  split at q
  · rename_i n i
    simp only [RelD] at re
    split at q
    · rename_i l el
      split at q
      · rename_i d' ed
        obtain ⟨p, xs, rfl, e1, hH, ht⟩ := rp.list el rd
        obtain ⟨v, ev, rv⟩ := atI_rel ht ed
        exact .inl ⟨p, xs, i, v, rfl, re, .inl (.inl hH), ev, q.ok rp rv⟩
      · exact q.elim
    · exact q.elim
  · rename_i l i
    simp only [RelD] at re rd
    obtain ⟨p, xs, rfl, hq, ht⟩ := rd
    split at q
    · rename_i d' ed
      obtain ⟨v, ev, rv⟩ := atI_rel ht ed
      exact .inr (.inl ⟨p, xs, i, v, rfl, re, (.inl (.inl hq)), ev, q.ok rp rv⟩)
    · exact q.elim
  · rename_i l i
    simp only [RelD] at re rd
    split at q
    · rename_i hl
      split at q
      · rename_i c ec
        refine .inr (.inr ⟨_, i, c, rd, re, by rw [str_len, sizeLine_eq]; exact hl, ?_, ?_⟩)
        · show atI l.toArray.toList i = some c
          rw [List.toList_toArray]
          exact ec
        · exact q.ok rp rel_str
      · exact q.elim
    · exact q.elim
  · rename_i l i
    simp only [RelD] at re rd
    obtain ⟨p, rfl, hq⟩ := rd
    split at q
    · rename_i c ec
      have hq2 := hq.seq
      rw [ok.kk] at hq2
      refine .inl ⟨p, _, i, .int c, rfl, re, hq2, ?_, q.ok rp rel_int⟩
      unfold atI at ec ⊢
      rw [List.length_map]
      cases hx : ixN l.length i with
      | none => rw [hx] at ec; simp at ec
      | some j =>
        rw [hx] at ec
        simp only [Option.bind_some] at ec ⊢
        rw [List.getElem?_map, ec]
        rfl
    · exact q.elim
  · exact q.elim
/-- o[i] = e on a list -/
theorem ps_stL {o i e : Expr} {mo mi me : ME} {pos spos : Pos} (ho : PEm G X o mo) (hi : PEm G X i mi) (he : PEm G X e me)
    (hs : swapsWithSole [.Subscript o i spos] e pos.line X.env = pure false := by rfl) (hw : swappedStores [.Subscript o i spos] e X.env = pure none := by rfl)
    (h1 : (assignEach [.Subscript o i spos] X.env).map (·.2) = [assign (.Subscript o i spos) X.env] := by rfl)
    (ha : ∀ v, assign (.Subscript o i spos) X.env v = (do
      let ov ← holding [v] (eval o X.env)
      let iv ← holding [v, ov] (eval i X.env)
      standAt spos
      holding [v, ov, iv] (setItem ov iv v)
      release [v, ov, iv] []) := by intro _; rfl) : PSm G X (.Assign [.Subscript o i spos] e pos) (sStL mo mi me) := fun W ok =>
  PS_imp (ps_asg (he W ok) (pg_sub (ho W ok) (hi W ok) set_list ha) hs hw h1) fun E σ H ⟨sd, S, ρ, hs, hr, h⟩ =>
  ⟨sd, S, ρ, hs, hr, AftS.bind h hs fun ρ1 H1 v d S1 le1 r1 rd h1 => ⟨sd, S1, ρ1, hs.mono le1, r1, AftS.bind h1 (hs.mono le1) fun ρ2 H2 ov od S2 le2 r2 rod h2 =>
    ⟨sd, S2, ρ2, (hs.mono le1).mono le2, r2, AftS.bind h2 ((hs.mono le1).mono le2) fun ρ3 H3 iv id S3 le3 r3 rid h3 => by
      split at h3
      · rename_i S4 e4
        unfold stL at e4
        split at e4
        · rename_i n k
          split at e4
          · rename_i l el
            split at e4
            · rename_i j ej
              cases e4
              obtain ⟨p, xs, rfl, e5, hH, ht⟩ := r3.list el (rod.mono le3)
              simp only [RelD] at rid
              have w : Wr1 (H3 p) := by rw [hH]; exact trivial
              have lw := Le.upd (G := G) (ρ := ρ3) (o := .lst (xs.set j v)) w.wr
              refine ⟨p, xs, k, j, rfl, rid, hH, by rw [← ht.length]; exact ej, h3 ρ3 _ σ lw (r3.set (c' := .lst (l.set j d)) el e5 w ⟨_, upd_same, ?_⟩) ((((hs.mono le1).mono le2).mono le3).mono lw)⟩
              exact (ht.mono lw).set ((((rd.mono le2).mono le3).mono lw)) j
            · cases e4
          · cases e4
        · cases e4
      · exact h3.elim⟩⟩⟩
theorem pm_append {o e : Expr} {mo me : ME} {apos cpos : Pos} (ho : PEm G X o mo) (he : PEm G X e me)
    (hbase : attributeBase o "append" X.env (eval o X.env) = eval o X.env := by rfl)
    (hfew : ((backTo cpos (starEach [e] X.env)).all (fun x => !x.1) && (backToKw cpos (keywordEach [] X.env)).all (fun x => x.1.isSome)
      && decide (([e] : List Expr).length + ([] : List Keyword).length + (if ([] : List Keyword).isEmpty then 0 else 1) < 30)) = true := by rfl)
    (hline : (apos.endLine == cpos.line) = true := by rfl) (hs : starEach [e] X.env = (false, eval e X.env) :: starEach [] X.env := by rfl) (hplain : (backTo cpos (starEach [] X.env)).any (·.1) = false := by rfl) :
    PEm G X (.Call (.Attribute o "append" apos) [e] [] cpos) (mMeth isLst fAppend mo (mCons me mNil)) := fun W ok =>
  PE_imp (pe_bm PySem.F.plainAttrs_list PySem.F.slot_list_append PySem.F.type_list_append mt_append (ho W ok) (pa_consm he pa_nilm hs W ok) hbase hfew hline hs hplain) fun σ H Q ⟨sd, S, ρ, hs, hr, h⟩ =>
  ⟨sd, S, ρ, hs, hr, Aft.bind h fun ρ1 H1 v d S1 le1 r1 rd h1 => by
    split at h1
    · rename_i ht
      unfold isLst at ht
      split at ht
      · rename_i n
        split at ht
        · rename_i l el
          obtain ⟨p, xs, rfl, e5, hH, htl⟩ := r1.list el rd
          refine ⟨.inl ⟨rfl, xs, .inl (.inl hH)⟩, sd, S1, ρ1, hs.mono le1, r1, Aft.bind h1 fun ρ2 H2 vs ds S2 le2 r2 rds h2 => ?_⟩
          unfold fAppend at h2
          split at h2
          · rename_i n' d' en
            cases en
            simp only [RelDs] at rds
            obtain ⟨v1, _, rfl, r4, rfl⟩ := rds
            split at h2
            · rename_i l2 el2
              obtain ⟨p2, xs2, ep, e6, hH2, ht2⟩ := r2.list el2 (rd.mono le2)
              cases ep
              split at h2
              · rename_i hlen
                have w : Wr1 (H2 p) := by rw [hH2]; exact trivial
                have lw := Le.upd (G := G) (ρ := ρ2) (o := .lst (xs2 ++ [v1])) w.wr
                exact ⟨p, xs2, v1, rfl, rfl, hH2, by rw [← ht2.length, sizeLine_eq]; exact hlen, h2 ρ2 _ .non lw (r2.set (c' := .lst (l2 ++ [d'])) el2 e6 w ⟨_, upd_same, (ht2.mono lw).append (.one (r4.mono lw))⟩) rel_non⟩
              · exact h2.elim
            · exact h2.elim
          · exact h2.elim
        · cases ht
      · cases ht
    · exact h1.elim⟩
/-! ### built-in functions -/
theorem CallM.of {F : Value} {f : MF} {r : List V → Hp → VK → Prop} (h : CallR X F r) (k : G.K = X.K → ∀ (ρ : Rho) (H : Hp) (S : Sto) (xs : List V) (ds : List D) (Q : VK) (W : XK), Rep G ρ S H → RelDs G ρ H ds xs → Aft G (RelD G) ρ H (f ds S) Q W → r xs H Q) : CallM G X F f :=
  fun W ok pins s σ H ρ S xs us ds Q I r rp rd q => h pins s σ H xs us Q I r (k ok.kk ρ H S xs ds Q _ rp rd q)
theorem cm_len : CallM G X (.builtin "len") fLen := .of call_len fun kk ρ H S xs ds Q W rp rd q => by
  unfold fLen at q
  split at q
  · rename_i l
    simp only [RelDs, RelD] at rd
    obtain ⟨v, _, rfl, ⟨a, ys, rfl, hq, ht⟩, rfl⟩ := rd
    exact ⟨_, l.length, rfl, .inr ⟨ys, (.inl (.inl hq)), ht.length⟩, q.ok rp rel_int⟩
  · rename_i l
    simp only [RelDs, RelD] at rd
    obtain ⟨v, _, rfl, rfl, rfl⟩ := rd
    split at q
    · rename_i hl
      exact ⟨_, l.length, rfl, ⟨by rw [str_len, sizeLine_eq]; exact hl, (str_len l).symm⟩, q.ok rp rel_int⟩
    · exact q.elim
  · rename_i l
    simp only [RelDs, RelD] at rd
    obtain ⟨v, _, rfl, ⟨a, rfl, hq⟩, rfl⟩ := rd
    have hq2 := hq.seq
    rw [kk] at hq2
    exact ⟨_, l.length, rfl, .inl ⟨_, hq2, by simp⟩, q.ok rp rel_int⟩
  · rename_i n
    simp only [RelDs] at rd
    obtain ⟨v, _, rfl, rd, rfl⟩ := rd
    split at q
    · rename_i l el
      obtain ⟨p, ys, rfl, e5, hH, ht⟩ := rp.list el rd
      exact ⟨_, l.length, rfl, .inl ⟨ys, .inl (.inl hH), ht.length⟩, q.ok rp rel_int⟩
    · exact q.elim
  · exact q.elim
theorem cm_abs : CallM G X (.builtin "abs") fAbs := .of call_abs fun kk ρ H S xs ds Q W rp rd q => by
  unfold fAbs at q
  split at q
  · simp only [RelDs, RelD] at rd
    obtain ⟨_, _, rfl, rfl, rfl⟩ := rd
    exact ⟨_, rfl, q.ok rp rel_int⟩
  · exact q.elim
theorem cm_max2 (hc : X.calm = true) : CallM G X (.builtin "max") fMax2 := .of (call_max2 hc) fun kk ρ H S xs ds Q W rp rd q => by
  unfold fMax2 at q
  split at q
  · simp only [RelDs, RelD] at rd
    obtain ⟨_, _, rfl, rfl, _, _, rfl, rfl, rfl⟩ := rd
    exact ⟨_, _, rfl, q.ok rp rel_int⟩
  · exact q.elim
theorem cm_min2 (hc : X.calm = true) : CallM G X (.builtin "min") fMin2 := .of (call_min2 hc) fun kk ρ H S xs ds Q W rp rd q => by
  unfold fMin2 at q
  split at q
  · simp only [RelDs, RelD] at rd
    obtain ⟨_, _, rfl, rfl, _, _, rfl, rfl, rfl⟩ := rd
    exact ⟨_, _, rfl, q.ok rp rel_int⟩
  · exact q.elim
theorem cm_int : CallM G X (.type "int") fInt := .of call_int1 fun kk ρ H S xs ds Q W rp rd q => by
  unfold fInt at q
  split at q
  · simp only [RelDs, RelD] at rd
    obtain ⟨_, _, rfl, rfl, rfl⟩ := rd
    exact .inl ⟨_, rfl, q.ok rp rel_int⟩
  · simp only [RelDs, RelD] at rd
    obtain ⟨_, _, rfl, rfl, rfl⟩ := rd
    exact .inr ⟨_, rfl, q.ok rp rel_int⟩
  · exact q.elim
theorem cm_tuple : CallM G X (.type "tuple") fTuple := .of call_tuple_of fun kk ρ H S xs ds Q W rp rd q => by
  unfold fTuple at q
  split at q
  · rename_i l
    simp only [RelDs, RelD] at rd
    obtain ⟨_, _, rfl, ⟨a, ys, rfl, hq, ht⟩, rfl⟩ := rd
    exact ⟨a, ys, rfl, .inr ⟨(.inl (.inl hq)), q.ok rp (RelD.tup' hq ht)⟩⟩
  · rename_i n
    simp only [RelDs] at rd
    obtain ⟨v, _, rfl, rd, rfl⟩ := rd
    split at q
    · rename_i l el
      obtain ⟨p, ys, rfl, e5, hH, ht⟩ := rp.list el rd
      refine ⟨p, ys, rfl, .inl ⟨.inl (.inl hH), fun z hz => ?_⟩⟩
      have sm := same_new (o := .tup ys) hz
      exact q ρ _ _ (Le.same sm) (rp.same sm) (RelD.tup' upd_same (ht.mono (Le.same sm)))
    · exact q.elim
  · exact q.elim
theorem cm_list : CallM G X (.type "list") fList := .of call_list_of fun kk ρ H S xs ds Q W rp rd q => by
  have nw : ∀ {l : List D} {ys : List V} (z : Addr), H z = none → RelDs G ρ H l ys → Aft G (RelD G) ρ H (.ok (.loc S.n) (S.new (.lst l))) Q W → Q (.ref z) (upd H z (.lst ys)) := fun {l ys} z hz ht q => by
    have le : Le G ρ H (ext ρ S.n z) (upd H z (.lst ys)) := (Le.ext (rp.top _ (Nat.le_refl _))).trans (Le.same (same_new hz))
    exact q _ _ _ le (rp.new (c := .lst l) hz ⟨_, upd_same, ht.mono le⟩) (RelD.loc' ext_same)
  unfold fList at q
  split at q
  · rename_i l
    simp only [RelDs, RelD] at rd
    obtain ⟨_, _, rfl, ⟨a, ys, rfl, hq, ht⟩, rfl⟩ := rd
    exact ⟨a, ys, rfl, .inr ((.inl (.inl hq))), fun z hz => nw z hz ht q⟩
  · rename_i n
    simp only [RelDs] at rd
    obtain ⟨v, _, rfl, rd, rfl⟩ := rd
    split at q
    · rename_i l el
      obtain ⟨p, ys, rfl, e5, hH, ht⟩ := rp.list el rd
      exact ⟨p, ys, rfl, .inl (.inl (.inl hH)), fun z hz => nw z hz ht q⟩
    · exact q.elim
  · exact q.elim
theorem bools_rel : ∀ {l : List D} {bs : List Bool} {xs : List V}, bools l = some bs → RelDs G ρ H l xs → xs = bs.map V.bl
  | [], bs, xs, e, h => by
    simp only [bools, Option.some.injEq] at e
    subst e
    simp only [RelDs] at h
    exact h
  | d :: r, bs, xs, e, h => by
    cases d with
    | bl b =>
      simp only [bools, Option.map_eq_some_iff] at e
      obtain ⟨bs', e1, rfl⟩ := e
      simp only [RelDs, RelD] at h
      obtain ⟨v, ys, rfl, rfl, h2⟩ := h
      rw [bools_rel e1 h2]
      rfl
    | _ => simp only [bools] at e; cases e
theorem ints_rel : ∀ {l : List D} {bs : List Int} {xs : List V}, intsD l = some bs → RelDs G ρ H l xs → xs = bs.map V.int
  | [], bs, xs, e, h => by
    simp only [intsD, Option.some.injEq] at e
    subst e
    simp only [RelDs] at h
    exact h
  | d :: r, bs, xs, e, h => by
    cases d with
    | int b =>
      simp only [intsD, Option.map_eq_some_iff] at e
      obtain ⟨bs', e1, rfl⟩ := e
      simp only [RelDs, RelD] at h
      obtain ⟨v, ys, rfl, rfl, h2⟩ := h
      rw [ints_rel e1 h2]
      rfl
    | _ => simp only [intsD] at e; cases e
theorem cm_all (hc : X.calm = true) : CallM G X (.builtin "all") fAll := .of (cr_all hc) fun kk ρ H S xs ds Q W rp rd q => by
  unfold fAll at q
  split at q
  · rename_i n
    simp only [RelDs] at rd
    obtain ⟨v, _, rfl, rd, rfl⟩ := rd
    split at q
    · rename_i l el
      split at q
      · rename_i bs eb
        obtain ⟨p, ys, rfl, e5, hH, ht⟩ := rp.list el rd
        exact ⟨p, bs, rfl, .inl (.inl (by rw [hH, bools_rel eb ht])), q.ok rp rel_bl⟩
      · exact q.elim
    · exact q.elim
  · exact q.elim
theorem cm_any (hc : X.calm = true) : CallM G X (.builtin "any") fAny := .of (cr_any hc) fun kk ρ H S xs ds Q W rp rd q => by
  unfold fAny at q
  split at q
  · rename_i n
    simp only [RelDs] at rd
    obtain ⟨v, _, rfl, rd, rfl⟩ := rd
    split at q
    · rename_i l el
      split at q
      · rename_i bs eb
        obtain ⟨p, ys, rfl, e5, hH, ht⟩ := rp.list el rd
        exact ⟨p, bs, rfl, .inl (.inl (by rw [hH, bools_rel eb ht])), q.ok rp rel_bl⟩
      · exact q.elim
    · exact q.elim
  · exact q.elim
theorem cm_sum (hc : X.calm = true) : CallM G X (.builtin "sum") fSum := .of (cr_sum hc) fun kk ρ H S xs ds Q W rp rd q => by
  unfold fSum at q
  split at q
  · rename_i n
    simp only [RelDs] at rd
    obtain ⟨v, _, rfl, rd, rfl⟩ := rd
    split at q
    · rename_i l el
      split at q
      · rename_i bs eb
        obtain ⟨p, ys, rfl, e5, hH, ht⟩ := rp.list el rd
        exact ⟨p, bs, rfl, .inl (.inl (by rw [hH, ints_rel eb ht])), q.ok rp rel_int⟩
      · exact q.elim
    · exact q.elim
  · exact q.elim

/-! ### defs -/
def spM (G : Glo) (m : MF) : Sp := fun vs H Q E => ∃ ds S ρ, RelDs G ρ H ds vs ∧ Rep G ρ S H ∧ Aft G (RelD G) ρ H (m ds S) Q E
abbrev FnM (G : Glo) (P : Program) (w : World) (mg : Str → Option Value) (base : Heap) (k : Nat) (f : Addr) (m : MF) : Prop := FnR P w G.K mg base (L2.CX P w) k f (spM G m)
theorem cm_fn {g : Addr} {m : MF} {k : Nat} (F : FnM G X.prog X.w X.mg X.base k g m) (hr : Room k X.A) : CallM G X (.ref g) m := fun W ok pins s σ H ρ S xs us ds Q I r rp rd q => by
  have F' : FnR X.prog X.w X.K X.mg X.base (L2.CX X.prog X.w) k g (spM G m) := by rw [← ok.kk]; exact F
  refine wpAny_call (codeAny_mono (F' X.A X.stack s H us xs Q (fun c a H' => W c a σ H') hr I.env0 r ⟨ds, S, ρ, rd, rp, q⟩) fun r s' hq => ?_)
  cases r with
  | error e => exact ok.tk e s' (XE.of_call I (fun cls d H' h => h) hq)
  | ok fl =>
    cases fl with
    | ret u => exact I.after hq
    | next => exact False.elim hq
    | brk => exact False.elim hq
    | cont => exact False.elim hq
def stD (n : Nat) (ds : List D) : SD := ds.map some ++ List.replicate (n - ds.length) none
def SRes.res (r : SRes) : Res D := match r with
  | .rt d S1 => .ok d S1
  | .nx _ S1 => .ok .non S1
  | .ex x _ S1 => .exc x S1
  | .pick t f => .pick t fun r => (f r).res
  | _ => .stuck
def mkF (n np : Nat) (b : MS) : MF := fun ds S => if ds.length = np then (b (stD n ds) S).res else .stuck
theorem stD_rel {N : List Str} {ds : List D} {vs : List V} (h : RelDs G ρ H ds vs) : RelSt G ρ H (stD N.length ds) (L2.start N vs) := by
  refine ⟨by simp [stD, L2.start, h.length], fun i d e => ?_⟩
  unfold stD at e
  unfold L2.start
  by_cases hi : i < ds.length
  · rw [List.getElem?_append_left (by simpa using hi), List.getElem?_map] at e
    obtain ⟨d', e1, e2⟩ := Option.map_eq_some_iff.mp e
    cases e2
    obtain ⟨v, ev, rv⟩ := h.get e1
    refine ⟨v, ?_, rv⟩
    rw [List.getElem?_append_left (by simpa [← h.length] using hi), List.getElem?_map, ev]
    rfl
  · rw [List.getElem?_append_right (by simpa using Nat.le_of_not_lt hi), List.getElem?_replicate] at e
    split at e <;> cases e
/-- a def keeps to its mirror -/
theorem fn_ok {P : Program} {w : World} {mg : Str → Option Value} {base : Heap} {x qual : Str} {st : Stmt} {f : Addr} {fd : FuncData} {N ps : List Str} {k n np : Nat} {b : MS} (F : Fun G.K x qual st f fd) (Sc : FnScope N ps (defScope st)) (hn : N.length = n) (hp : ps.length = np) (hb : Binds G.K fd ps [])
    (body : ∀ (cdv : Value) (A : Around) (outer : List Env) (s : Shared) (H : Hp) (E : XK), Room k (A.deeper (envOfC qual (defScope st) s.heap.objs.size f cdv)) → PSsm G (cxOf (L2.CX P w) P w G.K mg base N qual (defScope st) f cdv A outer s H E) (defBody st) b) :
    FnM G P w mg base (k + 1) f (mkF n np b) := by
  have R := (F.okX (P := P) (w := w) (mg := mg) (base := base) (k := k) (sp := spM G (mkF n np b)) Sc (fun vs H Q E h => ?_) (fun cdv A outer s H vs Q E hr h => ?_)).raw hb Paired.nil
  · exact R.imp fun vs H Q E h => by rw [List.append_nil]; exact h
  · obtain ⟨ds, S, ρ, rd, rp, q⟩ := h
    unfold mkF at q
    split at q
    · rename_i hl
      rw [← rd.length, hl, hp]
    · exact q.elim
  · obtain ⟨ds, S, ρ, rd, rp, q⟩ := h
    refine ⟨_, body cdv A outer s H E hr (fun cls d _ H => E cls d H) ⟨takes_of rfl rfl rfl rfl, passes_of rfl, rfl⟩, stD n ds, S, ρ, by rw [← hn]; exact stD_rel rd, rp, ?_⟩
    unfold mkF at q
    split at q
    · generalize b (stD n ds) S = r at q
      induction r with
      | rt d S1 => exact q
      | nx sd1 S1 => exact fun ρ' H' σ' le r1 _ => q ρ' H' .non le r1 rel_non
      | ex x sd1 S1 => exact fun ρ' H' σ' c d le r1 _ rx => q ρ' H' c d le r1 rx
      | bk sd1 S1 => exact q.elim
      | ct sd1 S1 => exact q.elim
      | stuck => exact q.elim
      | pick t f ih => exact fun r hr => ih r (q r hr)
    · exact q.elim
end
end Y

/-! Y8: short rules for printed derivations; isinstance; is None; the dice. -/
namespace Y
open PySem PySem.Spec PyProof.Rows L2
section
variable {G : Glo} {X : Cx} {ρ : Rho} {H : Hp}
theorem pgn {i : Nat} {x : Str} {pos : Pos} (hN : X.N.Nodup) (hi : X.N[i]? = some x := by rfl) (hx : Loc X.env.scope x := by first | exact Or.inl rfl | exact Or.inr rfl)
    (hf : X.fn x = true ∨ X.env.scope.names.lookup x = some .local := by first | exact .inl rfl | exact .inr rfl) : PG X (.Name x pos) (gOf X.K (.nm i)) := pg_name hN hi hx hf
theorem pgt {es : List Expr} {k : Nat} {l : List Tg} {pos : Pos} (hc : X.calm = true) (h : PGs X es (gsOf X.K l)) (hn : (assignEach es X.env).length = l.length := by rfl) (hst : (assignEach es X.env).findIdx? (·.1) = none := by rfl) : PG X (.Tuple es k pos) (gOf X.K (.tp l)) := pg_tup hc h hn hst
theorem pgs0 : PGs X [] (gsOf X.K []) := pgs_nil
theorem pgs1 {e : Expr} {es : List Expr} {t : Tg} {l : List Tg} (h1 : PG X e (gOf X.K t)) (h2 : PGs X es (gsOf X.K l)) (he : (assignEach (e :: es) X.env).map (·.2) = assign e X.env :: (assignEach es X.env).map (·.2) := by rfl) : PGs X (e :: es) (gsOf X.K (t :: l)) := by
  first | exact pgs_cons h1 h2 he | exact pgs_cons h1 h2
/-- a constant of the module -/
theorem pm_globE {x : Str} {d : D} {pos : Pos} (hm : ∃ u v, X.mg x = some u ∧ RelV v u ∧ ∀ ρ H, RelD G ρ H d v) (hg : Gl X x := by rfl) (hd : (x == ("__debug__" : Str)) = false := by decide) : PEm G X (.Name x pos) (mC d) :=
  let ⟨_, _, h1, h2, h3⟩ := hm
  pm_glob hg h1 h2 h3 hd
/-- a built-in class as a value -/
theorem pm_bty {x : Str} {n : Nat} {T : String} {pos : Pos} (hb : G.ca n = .type T) (hm : X.mg x = none) (hv : bootBuiltins x = some (.type T)) (hg : Gl X x := by rfl) (hn : x ≠ "__name__" := by decide) (hd : (x == ("__debug__" : Str)) = false := by decide) : PEm G X (.Name x pos) (mC (.cls n)) :=
  pm_c (v := .ty T) (pe_bltn hg hm hv rfl hn hd) fun _ _ => by simp only [RelD, hb]; rfl
theorem isN_ok {d e : D} {x y : V} (h : (isNon e && !isCls d) = true) (hd : RelD G ρ H d x) (he : RelD G ρ H e y) : y = .non ∧ decide (x = .non) = isNon d := by
  simp only [Bool.and_eq_true, Bool.not_eq_true'] at h
  have nc : ∀ n, d ≠ .cls n := fun n z => by
    rw [z] at h
    exact Bool.noConfusion (show true = false from h.2)
  refine ⟨?_, (isNon_ok hd nc).symm⟩
  cases e with
  | non => simpa only [RelD] using he
  | _ => exact Bool.noConfusion (show false = true from h.1)
theorem om_is : OpM G X (compareOp .Is) cIs := .of op_isN fun kk ρ H S x y d e Q W rp rd re q => by
  unfold cIs at q
  split at q
  · rename_i h
    obtain ⟨h1, h2⟩ := isN_ok h rd re
    exact ⟨h1, by rw [h2]; exact q.ok rp rel_bl⟩
  · exact q.elim
theorem om_isnot : OpM G X (compareOp .IsNot) cIsNot := .of op_notN fun kk ρ H S x y d e Q W rp rd re q => by
  unfold cIsNot at q
  split at q
  · rename_i h
    obtain ⟨h1, h2⟩ := isN_ok h rd re
    exact ⟨h1, by rw [h2]; exact q.ok rp rel_bl⟩
  · exact q.elim
/-! ### isinstance -/
/-- .. or a dict whose object is known -/
def TyZ (K : PySem.W.Frag) (H : Hp) (x : V) (t : Value) : Prop := TyX K H x t ∨ ∃ a o u, x = .ref a ∧ H a = some (.frz o u) ∧ o.cls = .type "dict" ∧ t = .type "dict"
theorem kitZ_of {pins : List (Addr × Obj)} {s : Shared} {σ : L2.St} {x : V} {u t : Value} (I : Inv X pins σ H s) (rx : L2.RelV x u) (ty : TyZ X.K H x t) : ∃ P : Heap → Prop, PySem.W.KitX X.K u t P ∧ P s.heap ∧ u ≠ .builtin "__main__.__loader__#opaque" := by
  rcases ty with ty | ⟨a, o, w, rfl, hd, hc, rfl⟩
  · exact kit_of I rx ty
  · cases (show u = Value.ref a from rx)
    exact ⟨_, PySem.W.kitx_dict, ⟨o, (I.hok a _ hd).1, hc⟩, fun z => nomatch z⟩
theorem tyD_ok {S : Sto} {d : D} {x : V} {t : Nat} (kk : G.K = X.K) (bt : ∀ n T, btn n = some T → G.ca n = .type T) (rp : Rep G ρ S H) (rd : RelD G ρ H d x) (h : tyD d S = some t) :
    TyZ X.K H x (G.ca t) ∨ ∃ a C dx vs, x = .ref a ∧ G.ca t = .ref C ∧ SlX.Slt H a C dx vs := by
  unfold tyD at h
  split at h
  · cases h
    simp only [RelD] at rd
    subst rd
    rw [bt 6 _ rfl]
    exact .inl (.inl <| .base .non)
  · cases h
    simp only [RelD] at rd
    subst rd
    rw [bt 1 _ rfl]
    exact .inl (.inl <| .base (.bl _))
  · cases h
    simp only [RelD] at rd
    subst rd
    rw [bt 0 _ rfl]
    exact .inl (.inl <| .base (.int _))
  · cases h
    simp only [RelD] at rd
    subst rd
    rw [bt 2 _ rfl]
    exact .inl (.inl <| .base (.str _))
  · cases h
    simp only [RelD] at rd
    obtain ⟨a, xs, rfl, hq, _⟩ := rd
    rw [bt 3 _ rfl]
    exact .inl (.inl <| .base (.tup hq))
  · cases h
    simp only [RelD] at rd
    obtain ⟨a, rfl, hq⟩ := rd
    rw [bt 4 _ rfl]
    have hq := hq.seq
    rw [kk] at hq
    rcases hq with (hq | ⟨o, hq⟩) | ⟨o, its, n, e, c, _⟩
    · exact .inl (.inl <| .base (.lst hq))
    · exact .inl (.inl <| .base (.frz hq))
    · exact .inl (.inl <| .kList e c)
  · rename_i n
    split at h
    · rename_i l el
      cases h
      obtain ⟨a, xs, rfl, _, hH, _⟩ := rp.list el rd
      rw [bt 4 _ rfl]
      exact .inl (.inl <| .base (.lst hH))
    · rename_i l el
      cases h
      simp only [RelD] at rd
      obtain ⟨a, e1, rfl⟩ := rd
      obtain ⟨b, e2, c⟩ := rp.cell n _ el
      rw [e1] at e2
      cases e2
      rw [bt 5 _ rfl]
      rcases c with ⟨kvs, hd, _⟩ | ⟨_, kvs, hd, _⟩
      · exact .inl (.inl <| .base (.dK hd))
      · exact .inl (.inl <| .base (.dT hd))
    · rename_i lk l el
      split at h
      · rename_i hk
        cases h
        obtain ⟨a, o, kvs, rfl, _, hd⟩ := dct_k rp el hk rd
        rw [bt 5 _ rfl]
        exact .inl (.inl <| .fDict hd)
      · cases h
    · rename_i c l el
      cases h
      simp only [RelD] at rd
      obtain ⟨a, e1, rfl⟩ := rd
      obtain ⟨b, e2, C, dx, vs, hC, hs, _⟩ := rp.cell n _ el
      rw [e1] at e2
      cases e2
      exact .inr ⟨a, C, dx, vs, rfl, hC, hs⟩
    · rename_i l el
      cases h
      simp only [RelD] at rd
      obtain ⟨a, e1, rfl⟩ := rd
      obtain ⟨b, e2, o, es, ep, kvs, hd, c1, c2, _⟩ := rp.cell n _ el
      rw [e1] at e2
      cases e2
      rw [bt 5 _ rfl]
      exact .inl (.inr ⟨a, o, _, rfl, hd, c2.1, rfl⟩)
    · cases h
  · cases h
/-- what isinstance asks of the classes: their numbers, the table of answers, the facts of own ones -/
structure KitOk (G : Glo) (kit : Nat → Nat → Option Bool) : Prop where
  bt : ∀ n T, btn n = some T → G.ca n = .type T
  ans : ∀ t c b, kit t c = some b → PySem.W.kitOne G.K (G.ca t) (G.ca c) = some b
  cl : ∀ c b t, kit t c = some b → ∃ v, RelV v (G.ca c) ∧ ClsV v (G.ca c)
  own : ∀ t c b C, kit t c = some b → G.ca t = .ref C → SlX.SCls G.K C ∧ SlX.SIsi G.K C
theorem cls_of {v : V} {u : Value} (h : RelV v u) {v' : V} (h' : RelV v' u) (k : ClsV v' u) : ClsV v u := by rw [h.inj h']; exact k
theorem cm_isi {kit : Nat → Nat → Option Bool} (ko : KitOk G kit) : CallM G X (.builtin "isinstance") (fIsI kit) := fun W ok pins s σ H ρ S xs us ds Q I r rp rd q => by
  unfold fIsI at q
  split at q
  · rename_i d c
    simp only [RelDs] at rd
    obtain ⟨x, _, rfl, rd, y, _, rfl, re, rfl⟩ := rd
    split at q
    · rename_i t et
      split at q
      · rename_i b eb
        simp only [RelD] at re
        obtain ⟨v', rv', kv'⟩ := ko.cl c b t eb
        have k1 := ko.ans t c b eb
        rw [ok.kk] at k1
        rcases tyD_ok (X := X) ok.kk ko.bt rp rd et with ty | ⟨a, C, dx, vs, rfl, hC, hs⟩
        · obtain ⟨u1, u2, rfl, r1, r2⟩ := vals2 r
          have e2 := (cls_of re rv' kv').eq r2
          subst e2
          obtain ⟨P, Z, p, hx⟩ := kitZ_of I r1 ty
          exact PySem.W.kia_one Z I.kIn p k1 hx fun tk => ⟨.bl b, H, I.tok tk, rfl, q.ok rp rel_bl⟩
        · obtain ⟨o1, o2⟩ := ko.own t c b C eb hC
          rw [ok.kk] at o1 o2
          rw [hC] at k1
          exact SlX.call_isiSl _ pins s σ H _ us Q I r ⟨a, C, dx, vs, y, b, rfl, re, fun w hw => (cls_of re rv' kv').eq hw, hs, o1, o2, k1, q.ok rp rel_bl⟩
      · exact q.elim
    · exact q.elim
  · exact q.elim
/-! ### the dice -/
/-- what is known of a cell may be exchanged -/
theorem Rep.turn {S : Sto} {i : Nat} {c c' : Cell} {a : Addr} (r : Rep G ρ S H) (hi : S.get i = some c) (ha : ρ i = some a) (q : CellOk G ρ H a c') : Rep G ρ (S.set i c') H := by
  refine ⟨fun j c2 e => ?_, r.inj, fun j hj => r.top j (by rw [Sto.set_n] at hj; exact hj), r.dom, r.tab⟩
  by_cases h : j = i
  · rw [h, Sto.get_set_self hi] at e
    cases e
    exact ⟨a, by rw [h]; exact ha, q⟩
  · rw [Sto.get_set_ne h] at e
    exact r.cell j c2 e
theorem Sto.set_set {S : Sto} {i : Nat} {x y : Cell} : (S.set i x).set i y = S.set i y := by
  unfold Sto.set
  split
  · rename_i h
    simp only [h, if_true, List.set_set]
  · rfl
theorem Sto.set_get {S : Sto} {i : Nat} {x : Cell} (h : S.get i = some x) : S.set i x = S := by
  have hl := Sto.get_lt h
  unfold Sto.get at h
  rw [if_pos hl] at h
  unfold Sto.set
  rw [if_pos hl]
  obtain ⟨h1, h2⟩ := List.getElem?_eq_some_iff.mp h
  cases S with
  | mk n c =>
    simp only at h1 h2 ⊢
    congr 1
    rw [← h2]
    exact List.set_getElem_self h1
def dcell (x y z : Int) : Cell := .lst [.int x, .int y, .int z]
theorem Rep.undice {S : Sto} {i : Nat} (r : Rep G ρ S H) (hi : S.get i = some .dice) : ∃ x y z, Rep G ρ (S.set i (dcell x y z)) H := by
  obtain ⟨a, e, x, y, z, h⟩ := r.cell i _ hi
  exact ⟨x, y, z, r.turn hi e ⟨_, h, .cons rel_int (.cons rel_int (.one rel_int))⟩⟩
theorem Rep.dice {S : Sto} {i : Nat} {x y z : Int} (r : Rep G ρ S H) (hi : S.get i = some (dcell x y z)) : Rep G ρ (S.set i .dice) H := by
  obtain ⟨a, e, xs, h, t⟩ := r.cell i _ hi
  refine r.turn hi e ⟨x, y, z, ?_⟩
  simp only [RelDs, RelD] at t
  obtain ⟨_, _, rfl, rfl, _, _, rfl, rfl, _, _, rfl, rfl, rfl⟩ := t
  exact h
def mRoll : MF
  | [.loc d, .int t], S => (match S.get d with
    | some .dice => if 0 < t ∧ t.natAbs.log2 < 9000 then .pick t.toNat fun r => .ok (.int r) S else .stuck
    | _ => .stuck)
  | _, _ => .stuck
def mDice : MF
  | [.scr _, .int k], S => if 0 ≤ k ∧ k < 1000000 then .ok (.loc S.n) (S.new .dice) else .stuck
  | _, _ => .stuck
theorem fn_roll {P : Program} {w : World} {mg : Str → Option Value} {base : Heap} {k : Nat} {f : Addr} {m : MF} (F : FnM G P w mg base k f m)
    (run : ∀ (S : Sto) (d : Nat) (t x y z : Int), S.get d = some (dcell x y z) → 0 < t → t.natAbs.log2 < 9000 → ∃ r x' y' z', 0 ≤ r ∧ r < t ∧ m [.loc d, .int t] S = .ok (.int r) (S.set d (dcell x' y' z'))) : FnM G P w mg base k f mRoll := F.imp fun vs H Q E h => by
  obtain ⟨ds, S, ρ, rd, rp, q⟩ := h
  unfold mRoll at q
  split at q
  · rename_i d t
    split at q
    · rename_i ed
      split at q
      · rename_i ht
        obtain ⟨x, y, z, rp2⟩ := rp.undice ed
        have ed2 : (S.set d (dcell x y z)).get d = some (dcell x y z) := Sto.get_set_self ed
        obtain ⟨r, x', y', z', h0, h1, e⟩ := run (S.set d (dcell x y z)) d t x y z ed2 ht.1 ht.2
        refine ⟨_, _, ρ, rd, rp2, ?_⟩
        rw [e, Sto.set_set]
        intro ρ' H' v le r1 rv
        have r2 := r1.dice (Sto.get_set_self (y := dcell x' y' z') ed)
        rw [Sto.set_set, Sto.set_get ed] at r2
        refine q r.toNat (by omega) ρ' H' v le r2 ?_
        rw [Int.toNat_of_nonneg h0]
        exact rv
      · exact q.elim
    · exact q.elim
  · exact q.elim
theorem fn_dice {P : Program} {w : World} {mg : Str → Option Value} {base : Heap} {k : Nat} {f : Addr} {m : MF} (F : FnM G P w mg base k f m)
    (run : ∀ (S : Sto) (l : List Int) (i : Int), 0 ≤ i → i < 1000000 → ∃ x y z, m [.scr l, .int i] S = .ok (.loc S.n) (S.new (dcell x y z))) : FnM G P w mg base k f mDice := F.imp fun vs H Q E h => by
  obtain ⟨ds, S, ρ, rd, rp, q⟩ := h
  unfold mDice at q
  split at q
  · rename_i l i
    split at q
    · rename_i hi
      obtain ⟨x, y, z, e⟩ := run S l i hi.1 hi.2
      refine ⟨_, S, ρ, rd, rp, ?_⟩
      rw [e]
      intro ρ' H' v le r1 rv
      have r2 := r1.dice (i := S.n) (x := x) (y := y) (z := z) (by rw [Sto.get_new, if_pos rfl])
      have e2 : (S.new (dcell x y z)).set S.n .dice = S.new .dice := by
        unfold Sto.new Sto.set
        simp
      rw [e2] at r2
      exact q ρ' H' v le r2 rv
    · exact q.elim
  · exact q.elim
end
end Y

/-! Y9: defs that know that no repr runs around them; repr; the law's end. -/
namespace Y
open PySem PySem.Spec PyProof.Rows L2
/-- as FnM, where no repr runs around the call -/
def FnG (G : Glo) (P : Program) (w : World) (mg : Str → Option Value) (base : Heap) (k : Nat) (f : Addr) (m : MF) : Prop :=
  ∀ (A : Around) (outer : List Env) (s : Shared) (H : Hp) (us : List Value) (vs : List V) (Q : VK) (E : XK), Room k A → A.guards = some [] → Env0 P w G.K mg base A outer s H → Vals vs us → spM G m vs H Q E →
    codeAny (model P w) A (.call (.ref f) ⟨us, []⟩) (CR (L2.CX P w) outer P w H s Q E) s
section
variable {G : Glo} {X : Cx} {ρ : Rho} {H : Hp}
theorem FnM.g {P : Program} {w : World} {mg : Str → Option Value} {base : Heap} {k : Nat} {f : Addr} {m : MF} (F : FnM G P w mg base k f m) : FnG G P w mg base k f m := fun A outer s H us vs Q E hr _ => F A outer s H us vs Q E hr
theorem FnG.imp {P : Program} {w : World} {mg : Str → Option Value} {base : Heap} {k : Nat} {f : Addr} {m m' : MF} (F : FnG G P w mg base k f m) (h : ∀ vs H Q E, spM G m' vs H Q E → spM G m vs H Q E) : FnG G P w mg base k f m' := fun A outer s H us vs Q E hr hg e0 r hs => F A outer s H us vs Q E hr hg e0 r (h _ _ _ _ hs)
theorem cm_fnG {g : Addr} {m : MF} {k : Nat} (F : FnG G X.prog X.w X.mg X.base k g m) (hr : Room k X.A) (hg : X.A.guards = some []) : CallM G X (.ref g) m := fun W ok pins s σ H ρ S xs us ds Q I r rp rd q => by
  have e0 : Env0 X.prog X.w G.K X.mg X.base X.A X.stack s H := by rw [ok.kk]; exact I.env0
  refine wpAny_call (codeAny_mono (F X.A X.stack s H us xs Q (fun c a H' => W c a σ H') hr hg e0 r ⟨ds, S, ρ, rd, rp, q⟩) fun r s' hq => ?_)
  cases r with
  | error e => exact ok.tk e s' (XE.of_call I (fun cls d H' h => h) hq)
  | ok fl =>
    cases fl with
    | ret u => exact I.after hq
    | next => exact False.elim hq
    | brk => exact False.elim hq
    | cont => exact False.elim hq
theorem fn_okG {P : Program} {w : World} {mg : Str → Option Value} {base : Heap} {x qual : Str} {st : Stmt} {f : Addr} {fd : FuncData} {N ps : List Str} {k n np : Nat} {b : MS} (F : Fun G.K x qual st f fd) (Sc : FnScope N ps (defScope st)) (hn : N.length = n) (hp : ps.length = np) (hb : Binds G.K fd ps [])
    (body : ∀ (cdv : Value) (A : Around) (outer : List Env) (s : Shared) (H : Hp) (E : XK), Room k (A.deeper (envOfC qual (defScope st) s.heap.objs.size f cdv)) → (A.deeper (envOfC qual (defScope st) s.heap.objs.size f cdv)).guards = some [] →
      PSsm G (cxOf (L2.CX P w) P w G.K mg base N qual (defScope st) f cdv A outer s H E) (defBody st) b) :
    FnG G P w mg base (k + 1) f (mkF n np b) := by
  intro A outer s H us vs Q E hr hg e0 r h
  obtain ⟨oc, od, kV, doc, pm, an, cdv, ct, osl, rfl, lk, hcd⟩ := F.ex
  obtain ⟨ds, S, ρ, rd, rp, q⟩ := h
  unfold mkF at q
  split at q
  · rename_i hl
    have hlen : vs.length = ps.length := by rw [← rd.length, hl, hp]
    have hus : (us ++ []).length = ps.length := by rw [List.append_nil, ← r.length, hlen]
    have hbb := hb s us (e0.mod.kin.keeps fun b o e => (e0.bs b o e).1) hus
    rw [List.append_nil] at hbb
    refine LamX.run_ofS (N := N) lk hcd Sc hr e0 hbb r hlen fun hr2 => ?_
    refine ⟨_, body cdv A outer s H E hr2 hg (fun cls d _ H => E cls d H) ⟨takes_of rfl rfl rfl rfl, passes_of rfl, rfl⟩, stD n ds, S, ρ, by rw [← hn]; exact stD_rel rd, rp, ?_⟩
    generalize b (stD n ds) S = r at q
    induction r with
    | rt d S1 => exact q
    | nx sd1 S1 => exact fun ρ' H' σ' le r1 _ => q ρ' H' .non le r1 rel_non
    | ex x sd1 S1 => exact fun ρ' H' σ' c d le r1 _ rx => q ρ' H' c d le r1 rx
    | bk sd1 S1 => exact q.elim
    | ct sd1 S1 => exact q.elim
    | stuck => exact q.elim
    | pick t f ih => exact fun r hr => ih r (q r hr)
  · exact q.elim

/-! ### repr -/
def isDct0 (d : D) (S : Sto) : Bool := match d with
  | .loc k => (match S.get k with
    | some (.dct 0 []) => true
    | _ => false)
  | _ => false
def fRepr : MF
  | [d], S => if isDct0 d S then .ok (.str [123, 125]) S else (match toPy S 12 d with
    | some p => if p.showable && decide (p.shown.length ≤ 16777216) && decide (p.depth ≤ 60) && !p.hasDict then .ok (.str p.shown.cps.toList) S else .stuck
    | none => .stuck)
  | _, _ => .stuck
theorem str_eta (x : Str) : (⟨x.cps.toList.toArray⟩ : Str) = x := by
  cases x
  simp
theorem repr_any {pins : List (Addr × Obj)} {s : Shared} {σ : L2.St} {p : PyData} {u : Value} {as : List Addr} {Q : VK} (hg : X.A.guards = some []) (hu : X.A.units + 64 < cLine) (I : Inv X pins σ H s) (r : Reads s.heap u p as) (hs : p.showable = true) (hd : p.hasDict = true → sysModules ∉ as) (hz : p.shown.length ≤ sizeLine) (h6 : p.depth ≤ 60) (q : Q (.str p.shown) H) :
    wpAny (model X.prog X.w) X.A (call (.builtin "repr") [u]) (EP X pins σ Q) X.xe s := by
  cases r with
  | none => exact PySem.P.repr_of_none ⟨.str _, H, I.tok _, ⟨_, rfl⟩, q⟩
  | bool b => exact PySem.P.repr_of_bool ⟨.str _, H, I.tok _, ⟨_, rfl⟩, q⟩
  | int i t => exact PySem.P.repr_of_int (of_decide_eq_true hs) ⟨.str _, H, I.tok _, ⟨_, rfl⟩, q⟩
  | str x t => exact PySem.P.repr_of_str ⟨.str _, H, I.tok _, ⟨_, rfl⟩, q⟩ hz
  | list h1 h2 h3 h4 => exact repr_of_reads' (Reads.list h1 h2 h3 h4) hs hd hg (by omega) (fun _ _ e => e) (fun h' t tk k => ⟨.str _, H, I.kept (t' := tk) k, ⟨_, rfl⟩, q⟩) hz
  | tuple h1 h2 h3 h4 => exact repr_of_reads' (Reads.tuple h1 h2 h3 h4) hs hd hg (by omega) (fun _ _ e => e) (fun h' t tk k => ⟨.str _, H, I.kept (t' := tk) k, ⟨_, rfl⟩, q⟩) hz
  | dict h1 h2 h3 h4 h5 => exact repr_of_reads' (Reads.dict h1 h2 h3 h4 h5) hs hd hg (by omega) (fun _ _ e => e) (fun h' t tk k => ⟨.str _, H, I.kept (t' := tk) k, ⟨_, rfl⟩, q⟩) hz
theorem cm_repr (hg : X.A.guards = some []) (hu : X.A.units + 64 < cLine) : CallM G X (.builtin "repr") fRepr := fun W ok pins s σ H ρ S xs us ds Q I r rp rd q => by
  unfold fRepr at q
  split at q
  · rename_i d
    simp only [RelDs] at rd
    obtain ⟨v, _, rfl, rd, rfl⟩ := rd
    obtain ⟨u, rfl, rv⟩ := vals1 r
    split at q
    · rename_i h0
      unfold isDct0 at h0
      split at h0
      · rename_i k
        split at h0
        · rename_i el
          simp only [RelD] at rd
          obtain ⟨a, e1, rfl⟩ := rd
          cases rv
          obtain ⟨b, e2, c⟩ := rp.cell k _ el
          rw [e1] at e2
          cases e2
          rcases c with ⟨kvs, hd, pk⟩ | ⟨hne, _⟩
          · have hd : H a = some (.dK kvs) := hd
            have ek : kvs = [] := pk
            subst ek
            obtain ⟨_, hsys, vs, kv, o, es, ep, h1, hx, hdt, _, r2, _⟩ := I.hok a _ hd
            have ev : vs = [] := by cases kv; rfl
            subst ev
            have ees : es.toList = [] := by
              have := r2.length
              simp at this
              exact List.length_eq_zero_iff.mp (by simpa using this)
            have rr : Reads s.heap (.ref a) (.dict []) (a :: [] ++ []) := .dict (kvs := []) h1 hx.1 hdt (by rw [ees]; exact .nil) (by rw [ees]; exact .nil)
            refine repr_any hg hu I rr rfl (fun _ z => ?_) (by decide +kernel) (by decide +kernel) ?_
            · have e : sysModules = a := by simpa using z
              rw [← e] at hsys
              simp at hsys
            · have e : (PyData.shown (.dict []) : Str) = ⟨[123, 125].toArray⟩ := by decide +kernel
              rw [e]
              exact q.ok rp rel_str
          · exact absurd rfl hne
        · cases h0
      · cases h0
    · split at q
      · rename_i p ep
        split at q
        · rename_i hc
          simp only [Bool.and_eq_true, decide_eq_true_eq, Bool.not_eq_true'] at hc
          obtain ⟨as, ra⟩ := Dp.reads I p v u (toPy_dp ok.kk rp 12 ep rd) rv
          refine repr_any hg hu I ra hc.1.1.1 (fun z => by rw [hc.2] at z; cases z) (by rw [sizeLine_eq]; exact hc.1.1.2) hc.1.2 ?_
          have h := q.ok rp (rel_str (x := p.shown.cps.toList))
          rw [str_eta] at h
          exact h
        · exact q.elim
      · exact q.elim
  · exact q.elim
end
end Y

/-! Ya: the law's end. -/
namespace Y
open PySem PySem.Spec PyProof.Rows L2
/-- an abstract heap that holds the script alone, or nothing -/
structure Lone (K : PySem.W.Frag) (H : Hp) (a : Addr) (o : Obj) (ns : List Int) (ts : List Addr) : Prop where
  only : ∀ b u, H b = some u → (b = a ∧ u = .frz o (.lst (ns.map V.int))) ∨ (b ∈ ts ∧ u = .tbl #[])
  tabs : ∀ b ∈ ts, H b = some (.tbl #[])
  apart : ∀ u, H a = some u → K.lookup a = none
  scr : ScrAt K H a ns
theorem lone_ex {K : PySem.W.Frag} {h : Heap} {a : Addr} {o : Obj} {vs : List Value} {ns : List Int} {ts : List Addr} (KX : K.In h) (eo : o = { cls := .type "list", data := .seq vs.toArray }) (ha : h.get? a = some o) (rv : Vals (ns.map V.int) vs) (hl : ns.length ≤ sizeLine) (hat : a ∉ ts) : ∃ H, Lone K H a o ns ts := by
  cases hk : K.lookup a with
  | none =>
    refine ⟨fun b => if b = a then some (.frz o (.lst (ns.map V.int))) else if b ∈ ts then some (.tbl #[]) else none, fun b u e => ?_, fun b hb => ?_, fun _ _ => hk, .inl ⟨o, if_pos rfl⟩⟩
    · by_cases hb : b = a
      · have e2 := (if_pos hb).symm.trans e
        cases e2
        exact .inl ⟨hb, rfl⟩
      · have e2 := (if_neg hb).symm.trans e
        by_cases hb2 : b ∈ ts
        · have e3 := (if_pos hb2).symm.trans e2
          cases e3
          exact .inr ⟨hb2, rfl⟩
        · have e3 := (if_neg hb2).symm.trans e2
          cases e3
    · have hne : b ≠ a := fun z => hat (z ▸ hb)
      exact (if_neg hne).trans (if_pos hb)
  | some o2 =>
    have e := KX a o2 hk
    rw [ha] at e
    cases e
    refine ⟨fun b => if b ∈ ts then some (.tbl #[]) else none, fun b u e => ?_, fun b hb => if_pos hb, fun u e => ?_, .inr fun H' => .inr ⟨o, vs.toArray, 0, hk, ?_⟩⟩
    · by_cases hb2 : b ∈ ts
      · have e3 := (if_pos hb2).symm.trans e
        cases e3
        exact .inr ⟨hb2, rfl⟩
      · have e3 := (if_neg hb2).symm.trans e
        cases e3
    · have e3 := (if_neg hat).symm.trans e
      cases e3
    subst eo
    refine ⟨rfl, rfl, rfl, ?_, by simpa using rv⟩
    have e1 := rv.length
    rw [List.length_map] at e1
    rw [List.size_toArray, ← e1]
    exact hl
/-- the law: its call at a script of at most n numbers -/
def FnT (G : Glo) (P : Program) (w : World) (mg : Str → Option Value) (base : Heap) (k n : Nat) (f : Addr) : Prop :=
  ∀ (A : Around) (outer : List Env) (s : Shared) (H : Hp) (us : List Value) (vs : List V) (ns : List Int) (ρ : Rho), Room k A → A.guards = some [] → Env0 P w G.K mg base A outer s H → Vals vs us → ns.length ≤ n → RelDs G ρ H [.scr ns] vs → Rep G ρ ⟨0, []⟩ H →
    codeAny (model P w) A (.call (.ref f) ⟨us, []⟩) (CR (L2.CX P w) outer P w H s (fun v _ => v = .bl true) (fun _ _ _ => False)) s
/-- what the head's heap tells of the tables: cs, the code objects and their tables -/
structure TabH (K : PySem.W.Frag) (h : Heap) (cs : List (Addr × Addr)) : Prop where
  tab : ∀ p ∈ cs, h.get? p.2 = some { cls := .none, data := .fields #[] }
  out : ∀ p ∈ cs, K.lookup p.2 = none
  code : ∀ p ∈ cs, PySem.W.CodeHd h p.1 p.2
theorem law_end {P : Program} {w : World} {mg mb : Str → Option Value} {G : Glo} {k n : Nat} {fa a : Addr} {s1 : Shared} {vs : List Value} {ns : List Int} {cs : List (Addr × Addr)} (KX : G.K.In s1.heap) (hns : s1.heap.Ns mainGlobals mg) (hb : s1.heap.Ns builtinsNs mb) (hbb : ∀ x : Str, x ≠ "__name__" → mb x = bootBuiltins x)
    (hlim : s1.heap.NoLimit) (hg : s1.gens = #[]) (TH : TabH G.K s1.heap cs) (hbm : cs = [] ∨ ∃ (bm : Addr) (ob : Obj), mg "__builtins__" = some (.ref bm) ∧ bm ≠ builtinsNs ∧ s1.heap.get? bm = some ob ∧ ob.cls = .type "module" ∧ ob.dict = some builtinsNs ∧ ob.data = .plain) (hGt : ∀ p ∈ G.tb, p.1 ∈ cs.map (·.2)) (ha : s1.heap.get? a = some { cls := .type "list", data := .seq vs.toArray }) (hi : IntsAre vs ns) (hl : ns.length ≤ sizeLine) (hn : ns.length ≤ n) (hr : Room k callerA)
    (F : ∀ base : Heap, G.K.In base → base.Ns mainGlobals mg → (∀ p ∈ cs, LamX.TabB base mg p.1 p.2) → FnT G P w mg base k n fa) :
    codeAny (model P w) callerA (.call (.ref fa) ⟨[.ref a], []⟩) (fun r s' => r = .ok (.ret (.bool true)) ∧ OldK s1.heap s'.heap ∧ s'.os = s1.os ∧ AllBare s'.gens) s1 := by
  have rv := vals_ints hi
  have isT : ∀ b, b ∈ cs.map (·.2) → s1.heap.get? b = some { cls := .none, data := .fields #[] } := fun b hb => by
    obtain ⟨p, hp, rfl⟩ := List.mem_map.mp hb
    exact TH.tab p hp
  have hat : a ∉ cs.map (·.2) := fun z => by
    have q := isT a z
    rw [ha] at q
    have := congrArg Obj.data (Option.some.inj q)
    cases this
  obtain ⟨H, L⟩ := lone_ex (ts := cs.map (·.2)) KX rfl ha rv hl hat
  /- an object that is neither the script nor a table is not told of -/
  have free : ∀ {b : Addr} {ob : Obj}, s1.heap.get? b = some ob → (∀ xs m, ob.data ≠ .seq xs m) → ob.data ≠ .fields #[] → H b = none := fun {b ob} e h1 h2 => by
    cases q : H b with
    | none => rfl
    | some u =>
      rcases L.only b u q with ⟨rfl, _⟩ | ⟨hb2, _⟩
      · rw [ha] at e
        cases e
        exact absurd rfl (h1 _ _)
      · rw [isT b hb2] at e
        cases e
        exact absurd rfl h2
  have nodict : ∀ {b : Addr} {ob : Obj} {es : Array DictEntry} {ep : Nat}, s1.heap.get? b = some ob → ob.data = .dict es ep → H b = none := fun {b ob es ep} e d => free e (fun xs m z => by rw [d] at z; cases z) (fun z => by rw [d] at z; cases z)
  have ns' : ∀ {b : Addr} {mp : Str → Option Value}, s1.heap.Ns b mp → (hidT s1.heap H).Ns b mp := fun {b mp} ⟨ob, es, ep, e, d, t⟩ => ⟨ob, es, ep, hidT_get e (nodict e d), d, t⟩
  have kb : G.K.In (hidT s1.heap H) := fun b ob e => hidT_get (KX b ob e) (by
    cases q : H b with
    | none => rfl
    | some u =>
      rcases L.only b u q with ⟨rfl, _⟩ | ⟨hb2, _⟩
      · rw [L.apart u q] at e
        cases e
      · obtain ⟨p, hp, rfl⟩ := List.mem_map.mp hb2
        rw [TH.out p hp] at e
        cases e)
  have hok : HOk P w H s1.heap := fun b u e => by
    rcases L.only b u e with ⟨rfl, rfl⟩ | ⟨hb2, rfl⟩
    · exact ⟨ha, by rw [List.length_map]; exact hl, vs, 0, rv, ha⟩
    · exact isT b hb2
  have lim' : (hidT s1.heap H).NoLimit := by
    obtain ⟨mc, h1, h2⟩ := hlim
    exact ⟨mc, ns' h1, h2⟩
  have tB : ∀ p ∈ cs, LamX.TabB (hidT s1.heap H) mg p.1 p.2 := fun p hp => by
    refine ⟨?_, ?_, fun z => ?_⟩
    · obtain ⟨o, us, f1, f2, f3, f4, f5, f6, f7, c1, c2, c3, c4, c5, c6, c7, c8, c9, c10⟩ := TH.code p hp
      exact ⟨o, us, f1, f2, f3, f4, f5, f6, f7, hidT_get c1 (free c1 (fun xs m z => by rw [c3] at z; cases z) (fun z => by rw [c3] at z; cases z; simp at c4)), c2, c3, c4, c5, c6, c7, c8, c9, c10⟩
    · rcases hbm with rfl | ⟨bm, ob, b1, b2, b3, b4, b5, b6⟩
      · cases hp
      · refine ⟨bm, ob, b1, b2, fun q => ?_, fun q => ?_, hidT_get b3 (free b3 (fun xs m z => by rw [b6] at z; cases z) (fun z => by rw [b6] at z; cases z)), b4, b5, b6⟩
        · obtain ⟨o, es, ep, e, hd, _⟩ := hns
          rw [q, e] at b3
          cases b3
          rw [hd] at b6
          cases b6
        · rw [q, TH.tab p hp] at b3
          cases b3
          cases b6
    · obtain ⟨o, es, ep, e, hd, _⟩ := hns
      rw [z, TH.tab p hp] at e
      cases e
      cases hd
  have e0 : Env0 P w G.K mg (hidT s1.heap H) callerA [] s1 H :=
    ⟨rfl, ⟨kb, ns' hns, ⟨mb, ns' hb, hbb⟩, lim'⟩, fun b ob e => of_hidT e, Nat.le_of_eq (hidT_size _ _), trivial, fun b z => absurd z (by simp [frs]), hok, .of_eq hg⟩
  have rep0 : Rep G (fun _ => none) ⟨0, []⟩ H := ⟨fun i c e => (by simp [Sto.get] at e), fun i j x e => (by cases e), fun _ _ => rfl, fun i x e => (by cases e), fun p hp => ⟨#[], L.tabs _ (hGt p hp), True.intro, fun pos cv hc => by
    have z : codeAmong pos [] = some cv := hc
    simp [codeAmong] at z⟩⟩
  have args : RelDs G (fun _ => none) H [.scr ns] [.ref a] := .one (by simp only [RelD]; exact ⟨a, rfl, L.scr⟩)
  refine codeAny_mono (F _ kb (ns' hns) tB callerA [] s1 H [.ref a] [.ref a] ns _ hr rfl e0 (.cons rfl .nil) hn args rep0) fun r s' h => ?_
  match r, h with
  | .error e, h =>
    obtain ⟨_, _, _, _, _, _, _, _, _, _, _, _, z⟩ := h
    exact z.elim
  | .ok .next, h => exact False.elim h
  | .ok .brk, h => exact False.elim h
  | .ok .cont, h => exact False.elim h
  | .ok (.ret u), h =>
    obtain ⟨v, H', os, bare, un, hok', r', q⟩ := h
    have q' : v = .bl true := q
    subst q'
    obtain rfl : u = Value.bool true := r'
    have kept : ∀ b ob, b ∉ cs.map (·.2) → s1.heap.get? b = some ob → s'.heap.get? b = some ob := fun b ob nb e => by
      cases q : H b with
      | none => exact un.keep b ob e q (by simp [frs]) (by simp)
      | some x =>
        rcases L.only b x q with ⟨rfl, rfl⟩ | ⟨hb2, _⟩
        · obtain ⟨e2, _⟩ := hok' b _ (un.frzs b _ _ q)
          rw [ha] at e
          cases e
          exact e2
        · exact absurd hb2 nb
    have more : ∀ p ∈ cs, ∃ m : Array Value, s'.heap.get? p.2 = some { cls := .none, data := .fields m } := fun p hp => by
      obtain ⟨m, z⟩ := un.tbls p.2 #[] (L.tabs _ (List.mem_map.mpr ⟨p, hp, rfl⟩))
      exact ⟨_, hok' p.2 _ z⟩
    refine ⟨rfl, ⟨fun b ob e => ?_, fun b ob e => ?_⟩, os, bare⟩
    · by_cases nb : b ∈ cs.map (·.2)
      · obtain ⟨p, hp, rfl⟩ := List.mem_map.mp nb
        obtain ⟨m, hm⟩ := more p hp
        rw [TH.tab p hp] at e
        cases e
        exact .inr (.inl ⟨((TH.code p hp).tab (TH.tab p hp)).isCodeTable, rfl, #[], m, rfl, by rw [Array.empty_append]; exact hm⟩)
      · exact .inl (kept b ob nb e)
    · by_cases nb : b ∈ cs.map (·.2)
      · obtain ⟨p, hp, rfl⟩ := List.mem_map.mp nb
        obtain ⟨m, hm⟩ := more p hp
        exact ⟨_, hm⟩
      · exact ⟨ob, kept b ob nb e⟩
theorem walkG {l : PySem.W.OpenLaw} {n k : Nat} {q : Program} {loose : List Str} {XP : (Str → Option Value) → Heap → Prop} {YP : World → Heap → Prop} {d : DefRec} (hn : l.most = some n) (hn2 : n ≤ sizeLine) (hdf : d.params.defaults = []) (hr : Room k callerA)
    (F : ∀ (w : World) (mg : Str → Option Value) (fa : Addr) (h : Heap), YP w h → h.Ns mainGlobals mg → XP mg h → mg d.name = some (.ref fa) → ∃ (G : Glo) (cs : List (Addr × Addr)), G.K.In h ∧ TabH G.K h cs ∧ (∀ p ∈ G.tb, p.1 ∈ cs.map (·.2)) ∧ ∀ base : Heap, G.K.In base → base.Ns mainGlobals mg → (∀ p ∈ cs, LamX.TabB base mg p.1 p.2) → FnT G l.prog w mg base k n fa) :
    PySem.W.WalkO q loose XP YP l.row.toRowW d [] (fun f vs => PySem.call f vs) :=
  Att.attach_call hn hdf fun w s0 s1 mg mb fa o pm cd doc a vs ns Gr Y ho hd hcd hmg hobj hints hlen hg => by
    obtain ⟨G, cs, KX2, TH, hGt, hF⟩ := F w mg fa _ Y Gr.T.g Gr.X hmg
    exact law_end KX2 Gr.T.g Gr.T.b Gr.T.builtins Gr.T.nolimit hg TH (.inr Gr.T.bmain) hGt hobj hints (Nat.le_trans hlen hn2) hlen hr hF
end Y

/-! Yb: exceptions that keep a field: class C(B): def __init__(self, v): super().__init__('m'); self.f = v. -/
namespace Y
open PySem PySem.Spec PyProof.Rows L2
open PySem.W (Frag ksFn excInitIn excOver findIn isFn subIn clsIn mroIn nsIn codeIn keepIn typeIn takerIn hasDictIn ks_superIn alongIn excObj excTup kxs_mw Looks KxsFacts)

/-- what is known of the built-in base -/
structure KxT (B newId i : String) (bmB : List Value) : Prop where
  fb : ExcBaseFacts B newId i bmB
  kf : KxsFacts B i
  sf : StoreFacts B bmB "object.__setattr__" "object"
theorem kxt_Value : KxT "ValueError" "ValueError.__new__" "ValueError.__init__" [.type "ValueError", .type "Exception", .type "BaseException", .type "object"] := ⟨F.excBase_ValueError, PySem.W.kxs_ValueError, F.store_ValueError⟩
theorem kxt_Index : KxT "IndexError" "IndexError.__new__" "IndexError.__init__" [.type "IndexError", .type "LookupError", .type "Exception", .type "BaseException", .type "object"] := ⟨F.excBase_IndexError, PySem.W.kxs_IndexError, F.store_IndexError⟩
theorem kxt_Runtime : KxT "RuntimeError" "RuntimeError.__new__" "RuntimeError.__init__" [.type "RuntimeError", .type "Exception", .type "BaseException", .type "object"] := ⟨F.excBase_RuntimeError, PySem.W.kxs_RuntimeError, F.store_RuntimeError⟩
theorem kxt_Overflow : KxT "OverflowError" "OverflowError.__new__" "OverflowError.__init__" [.type "OverflowError", .type "ArithmeticError", .type "Exception", .type "BaseException", .type "object"] := ⟨F.excBase_OverflowError, PySem.W.kxs_OverflowError, F.store_OverflowError⟩
theorem kxt_Arithmetic : KxT "ArithmeticError" "ArithmeticError.__new__" "ArithmeticError.__init__" [.type "ArithmeticError", .type "Exception", .type "BaseException", .type "object"] := ⟨F.excBase_ArithmeticError, PySem.W.kxs_ArithmeticError, F.store_ArithmeticError⟩

/-- what the text says of the __init__ -/
structure KxS (st : Stmt) (sn vn f : Str) : Prop where
  sh : ∃ (m : Str) (j : Nat) (p0 p1 p2 p3 p4 p5 p6 p7 p8 p9 : Pos), defBody st = [.Expr (.Call (.Attribute (.Call (.Name "super" p0) [] [] p1) "__init__" p2) [.Constant (.str m) j p3] [] p4) p5, .Assign [.Attribute (.Name sn p6) f p7] (.Name vn p8) p9] ∧
    ∀ (qual : Str) (L fI : Addr) (cdv : Value) (cc : Addr), ∃ pl : Sem Bool, eval (.Call (.Attribute (.Call (.Name "super" p0) [] [] p1) "__init__" p2) [.Constant (.str m) j p3] [] p4) (PySem.W.ksEnv qual (defScope st) L fI cdv cc) = (do
      let ov ← attributeBase (.Call (.Name "super" p0) [] [] p1) "__init__" (PySem.W.ksEnv qual (defScope st) L fI cdv cc) (eval (.Call (.Name "super" p0) [] [] p1) (PySem.W.ksEnv qual (defScope st) L fI cdv cc))
      standAt p2.atName
      let (f, first) ← holding [ov] (getMethod ov "__init__" pl)
      callWith p4 f first (backTo p4 (starEach [.Constant (.str m) j p3] (PySem.W.ksEnv qual (defScope st) L fI cdv cc))) [])
  bd : ∀ (qual : Str) (kV doc pm : Value) (an : Option Addr) (cdv ct : Value) (cc : Addr) (u v : Value), bindArgs (ksFn "__init__" qual (defArgs st) (defBody st) (defScope st) .none kV doc pm an cdv ct cc) ⟨[u, v], []⟩ = pure [(sn, u), (vn, v)]
  hd : ∃ ar : Arg, ((defArgs st).posonlyargs ++ (defArgs st).args).head? = some ar ∧ ar.arg = sn
  ks : (defScope st).names.lookup ("super" : Str) = some .globalImplicit
  kc : (defScope st).names.lookup ("__class__" : Str) = some .free
  ksn : (defScope st).names.lookup sn = some .local
  kvn : (defScope st).names.lookup vn = some .local
  cell : ∀ x ∈ (defScope st).names, x.2 ≠ .cell
  kind : (defScope st).kind = .function
  co : (defScope st).isCoroutine = false
  gen : (defScope st).isGenerator = false
  ne : (sn == vn) = false
  sw : ∀ (env : Env) (p6 p7 p8 : Pos) (l : Nat), swapsWith (.Name vn p8) (some (.Attribute (.Name sn p6) f p7)) l env = pure false
  it : ∀ (qual : Str) (L fI : Addr) (cdv : Value) (cc : Addr), interactive (PySem.W.ksEnv qual (defScope st) L fI cdv cc) = false
  db1 : (sn == ("__debug__" : Str)) = false
  db2 : (vn == ("__debug__" : Str)) = false
/-- .. and what the written part says of the class -/
structure KxC (P : Program) (K : Frag) (C : Addr) (st : Stmt) (sn vn f : Str) : Prop where
  s : KxS st sn vn f
  ex : ∃ (B newId i : String) (bmB : List Value) (fI D cc cda : Addr) (qual : Str) (kV doc pm ct oc : Value) (an od : Option Addr) (osl : Array (Option Value)),
    KxT B newId i bmB ∧ excInitIn K C bmB newId = true ∧ excOver K C bmB = true ∧ subIn K (.ref C) (.type B) = some true ∧ findIn K (.ref C) "__init__" = some (some (.ref fI)) ∧ isFn K (.ref fI) = true ∧
    K.lookup fI = some ⟨oc, od, .func (ksFn "__init__" qual (defArgs st) (defBody st) (defScope st) .none kV doc pm an (.ref cda) ct cc), osl⟩ ∧ codeIn K (.ref cda) qual = true ∧
    (∃ (ccl : Value) (cdd : Option Addr) (vs : Array Value) (ccs : Array (Option Value)) (file : Str) (tf : Tok), K.lookup cda = some ⟨ccl, cdd, .fields vs, ccs⟩ ∧ vs[2]? = some (.str file tf) ∧ ((P.main.file : Str) == file) = true) ∧
    (∃ (cl : Value) (cld : Option Addr) (csl : Array (Option Value)), K.lookup cc = some ⟨cl, cld, .cell (some (.ref D)), csl⟩) ∧ (clsIn K D).isSome = true ∧ mroIn K C (.ref D) = some true ∧ ks_superIn K C D "__init__" = some (some (.builtin i))
  top : (P.main.scope.names.lookup ("super" : Str)).isSome = false
  third : nsIn K cStatics "thirdparty.any" = some none
  sa : findIn K (.ref C) "__setattr__" = some (some (.builtin "object.__setattr__"))
  tk : takerIn K C f = some none
  hd : hasDictIn K C = true
  xf : XfC K C
  nof : findIn K (.ref C) f = some none
  tyC : typeIn K (.ref C) = some (.type "type")
  kC : keepIn K (.ref C) = true

section
variable {P : Program} {w : World} {K : Frag} {A : Around} {h : Heap} {g : Array GenState} {d : Drawn} {t : Nat} {os : OsState} {C : Addr} {st : Stmt} {sn vn f : Str} {mg mb : Str → Option Value}
theorem ldn {M : Model} {A : Around} {E : Value → Shared → Prop} {s : Shared} {env : Env} {m : Str → Option Value} {x : Str} {pos : Pos} {v : Value} {Q : Value → Shared → Prop} (hn : s.heap.Ns env.locals m) (hv : m x = some v) (h : Q v s)
    (hk : env.scope.kind = .function) (hl : env.kindOf x = some .local) (hd : (x == ("__debug__" : Str)) = false) : wpAny M A (eval (.Name x pos) env) Q E s := wpAny_Name (wpAny_loadName_local hk hl hn hv h) hd
/-- self.f = v, the first one, on an exception without a dict -/
theorem set_first {B : String} {bmB : List Value} {E : Value → Shared → Prop} {Q : Unit → Shared → Prop} {e t0 : Addr} {u : Value} (SF : StoreFacts B bmB "object.__setattr__" "object") (X : K.In h) (he : h.get? e = some (excObj C t0 none .none)) (over : excOver K C bmB = true)
    (sa : findIn K (.ref C) "__setattr__" = some (some (.builtin "object.__setattr__"))) (tk : takerIn K C f = some none) (hd : hasDictIn K C = true)
    (hq : ∀ h' tk' dx, (∀ b o, b ≠ e → h.get? b = some o → h'.get? b = some o) → h.objs.size ≤ dx → dx ≠ e → h'.get? e = some (excObj C t0 (some dx) .none) → h'.Ns1 dx (fun y => if y = f then some u else none) → Q () ⟨h', g, d, tk', os⟩) :
    wpAny (model P w) A (setAttr (.ref e) f u) Q E ⟨h, g, d, t, os⟩ := by
  have I : PySem.W.InstAt h e (excObj C t0 none .none) C none := ⟨he, rfl, rfl, trivial⟩
  have hxs : e ≠ h.objs.size := Nat.ne_of_lt (Heap.lt_size he)
  refine PySem.W.set_plain X I sa (PySem.W.osa_openX SF X I over tk fun b => ?_)
  obtain ⟨cd, hc, hh⟩ := PySem.W.any_some hd
  have hcls : Looks (model P w) h (classData C) cd := PySem.W.looks_clsIn X hc
  show wpAny _ _ (Builtin.ObjectAttr.storeInOwnDict (.ref e) (.ref C) (.str f t) f u b) _ _ _
  obtain ⟨nm, bs, mro, ns, qn, hdd, snn, sb, ab, col, del⟩ := cd
  dsimp only at hh
  subst hh
  unfold Builtin.ObjectAttr.storeInOwnDict Builtin.ObjectAttr.ownDictForStores
  repeat (first | with_reducible refine HandSPX.store_in_new ?_ ?_ | with_reducible refine wpAny_loadPart_at he ?_ | with_reducible refine hcls.at ?_ | wp_step)
  · exact ⟨_, #[], _, (Heap.get?_update_ne _ _ _ _ hxs.symm).trans (Heap.get?_push_at rfl rfl), rfl, fun e he => absurd he (by simp), fun _ => rfl⟩
  · intro h' tk' hn' hs
    have hx₁ : (h.push { cls := .type "dict", data := .dict #[] }).get? e = some (excObj C t0 none .none) := Heap.get?_push_of_some _ he
    refine hq h' tk' h.objs.size (fun b o hb ho => ?_) (Nat.le_refl _) hxs.symm ?_ hn'
    · exact (hs.2 b (Nat.ne_of_lt (Heap.lt_size ho))).trans ((Heap.get?_update_ne _ _ _ _ hb).trans (Heap.get?_push_of_some _ ho))
    · exact (hs.2 e hxs).trans (Heap.get?_update_self _ hx₁ rfl)

/-- the __init__ walked -/
theorem init_run {R : Result → Shared → Prop} {B newId i : String} {bmB : List Value} {fI D cc cda e t0 : Addr} {qual : Str} {kV doc pm ct oc u : Value} {an od : Option Addr} {osl : Array (Option Value)} (T : KxC P K C st sn vn f)
    (kt : KxT B newId i bmB) (q : excInitIn K C bmB newId = true) (over : excOver K C bmB = true) (sub : subIn K (.ref C) (.type B) = some true)
    (lk : K.lookup fI = some ⟨oc, od, .func (ksFn "__init__" qual (defArgs st) (defBody st) (defScope st) .none kV doc pm an (.ref cda) ct cc), osl⟩) (hcd : codeIn K (.ref cda) qual = true)
    (hcode : ∃ (ccl : Value) (cdd : Option Addr) (vs : Array Value) (ccs : Array (Option Value)) (file : Str) (tf : Tok), K.lookup cda = some ⟨ccl, cdd, .fields vs, ccs⟩ ∧ vs[2]? = some (.str file tf) ∧ ((P.main.file : Str) == file) = true)
    (hcell : ∃ (cl : Value) (cld : Option Addr) (csl : Array (Option Value)), K.lookup cc = some ⟨cl, cld, .cell (some (.ref D)), csl⟩) (hD : (clsIn K D).isSome = true) (hm : mroIn K C (.ref D) = some true) (hsup : ks_superIn K C D "__init__" = some (some (.builtin i)))
    (X : K.In h) (hg : h.Ns mainGlobals mg) (hgs : mg "super" = none) (hb : h.Ns builtinsNs mb) (hbb : ∀ x : Str, x ≠ "__name__" → mb x = bootBuiltins x) (hlim : h.NoLimit) (hroom : A.depth < recursionLimit)
    (he : h.get? e = some (excObj C t0 none .none)) (hKe : K.lookup e = none)
    (hq : ∀ h' t' t1 dx, (∀ b o, b ≠ e → h.get? b = some o → h'.get? b = some o) → h.objs.size ≤ dx → h'.get? e = some (excObj C t1 (some dx) .none) → h'.Ns1 dx (fun y => if y = f then some u else none) → R (.ok (.ret .none)) ⟨h', g, d, t', os⟩) :
    codeAny (model P w) A (.call (.ref fI) ⟨[.ref e, u], []⟩) R ⟨h, g, d, t, os⟩ := by
  obtain ⟨m, j, p0, p1, p2, p3, p4, p5, p6, p7, p8, p9, hbody, hev⟩ := T.s.sh
  obtain ⟨ar, har, harn⟩ := T.s.hd
  obtain ⟨ccl, cdd, vs, ccs, file, tf, hcode, hvs, hfile⟩ := hcode
  obtain ⟨cl, cld, csl, hcell⟩ := hcell
  obtain ⟨cdD, hD⟩ := Option.isSome_iff_exists.mp hD
  have nn := T.s.ne
  refine ks_codeAny_call_defAt (fd := ksFn "__init__" qual (defArgs st) (defBody st) (defScope st) .none kV doc pm an (.ref cda) ct cc) (body := defBody st) (binds := [(sn, .ref e), (vn, u)]) hroom (X _ _ lk) rfl hlim (PySem.W.codeRec_of X hcd) rfl
    (BindsTo.of_eq (T.s.bd ..)) T.s.cell (fun x hx => ?_) (fun h1 hns k1 => ?_) T.s.co T.s.gen T.s.kind
  · rcases List.mem_cons.mp hx with rfl | hx
    · exact T.s.ksn
    rcases List.mem_cons.mp hx with rfl | hx
    · exact T.s.kvn
    · cases hx
  have ls : (List.reverse [(sn, Value.ref e), (vn, u)]).lookup sn = some (.ref e) := by
    show List.lookup sn [(vn, u), (sn, Value.ref e)] = _
    simp [List.lookup, nn]
  have lv : (List.reverse [(sn, Value.ref e), (vn, u)]).lookup vn = some u := by
    show List.lookup vn [(vn, u), (sn, Value.ref e)] = _
    simp [List.lookup]
  generalize hL : (⟨h, g, d, t, os⟩ : Shared).heap.objs.size = L at hns ⊢
  have hL' : h.objs.size = L := hL
  have X1 : K.In h1 := X.keeps k1
  have he1 := k1 _ _ he
  obtain ⟨oD, hD1, hD2⟩ : ∃ oD, h1.get? D = some oD ∧ oD.data = .cls cdD := by
    unfold clsIn at hD
    split at hD
    · rename_i c d cd' sl ho
      cases hD
      exact ⟨_, X1 _ _ ho, rfl⟩
    · cases hD
  rw [hbody]
  show PySem.wpAt _ _ _ (execs _ (PySem.W.ksEnv qual (defScope st) L fI (.ref cda) cc)) _ _ ⟨h1, g, d, t + 2, os⟩
  obtain ⟨pl, hev⟩ := hev qual L fI (.ref cda) cc
  refine ks_wpAt_execs_cons (ks_wpAt_Expr_any (ks_wpAt_MethodCall (pl := pl) ?_ hev) (T.s.it ..))
  refine ks_wpAt_super_base (s := ⟨h1, g, d, t + 2, os⟩) T.s.ks T.s.kc (by decide) rfl (X1 _ _ lk) rfl har rfl (X1 _ _ hcode) rfl hvs hfile T.top ?_
  refine PySem.W.ks_loadName_global T.s.kind T.s.ks (Calls.loadGlobal_builtin (env := PySem.W.ksEnv qual (defScope st) L fI (.ref cda) cc) (hg.keeps k1) hgs (hb.keeps k1) ((hbb _ (by decide +kernel)).trans PyProof.Rows.Boot.«super») ⟨rfl, ?_⟩)
  refine wpAny_loadName_free T.s.kind T.s.kc rfl ⟨_, X1 _ _ hcell, rfl⟩ ?_
  refine wpAny_loadName_local T.s.kind (by rw [harn]; exact T.s.ksn) hns (by rw [harn]; exact ls) ?_
  refine ks_wpAny_isType_cls hD1 hD2 ⟨rfl, ?_⟩
  refine ks_wpAny_call_super hD1 hD2 he1 rfl (fun c z => by cases z) (PySem.W.looks_mroIn X1 hm) (fun h2 hso k2 => ?_)
  have X2 : K.In h2 := X1.keeps k2
  have he2 := k2 _ _ he1
  have I2 : PySem.W.InstAt h2 e (excObj C t0 none .none) C none := ⟨he2, rfl, rfl, trivial⟩
  have hI : Looks (model P w) h2 (isInstance (.ref e) (.type B)) true := I2.type.andThen (PySem.W.looks_subIn X2 sub)
  cases hc : clsIn K C with
  | none => unfold ks_superIn at hsup; rw [hc] at hsup; cases hsup
  | some cd =>
  unfold ks_superIn at hsup
  rw [hc] at hsup
  refine PySem.W.kxs_getMethod kt.kf hso (PySem.W.looks_opaque X2 T.third) (l₀ := cd.mro) (fun A Q E s k q => wpAny_bind ((PySem.W.looks_clsIn X2 hc) A _ E s k (wpAny_pure q))) rfl X2 hsup hI (PySem.W.ks_ne X2 I2 hc) (by decide) ?_
  have he3 : (h2.push (kxs_mw i e)).get? e = some (excObj C t0 none .none) := Heap.get?_push_of_some _ he2
  have hu3 : (h2.push (kxs_mw i e)).get? h2.objs.size = some (kxs_mw i e) := Heap.get?_push_at rfl rfl
  refine PySem.W.kxs_callWith (i := i) (x := e) (by rfl) ?_
  show wpAny _ _ (evalArgs _ true ((false, eval (.Constant (.str m) j p3) _) :: backTo p4 (starEach [] _)) []) _ _ _
  refine Calls.evalArgs_plain (Calls.spliced_cons (Calls.Constant_str (Calls.spliced_nil ⟨hu3, ?_⟩)))
  obtain ⟨nm, N', qn, bs, bm, hdct, snn, subs, ab, col, dd, k0, k1', k2', k3', k5, hC, hT⟩ := PySem.W.excInit_of (X2.keeps fun b o z => Heap.get?_push_of_some (kxs_mw i e) z) q
  refine wpAny_call (codeAny_of_tree ?_)
  show wpAny _ _ (callAny (.ref h2.objs.size) ⟨_, []⟩) _ _ _
  simp only [callAny]
  refine wpAny_bind (wpAny_load hu3 ?_)
  simp only [kxs_mw, show (Value.type "method-wrapper" == Value.type "method" || Value.type "method-wrapper" == Value.type "builtin_function_or_method" || Value.type "method-wrapper" == Value.type "method-wrapper") = true by decide, if_true]
  refine PySem.W.KFB.if_so (by decide) ?_
  refine wpAny_bind (PySem.W.check_bound_init kt.fb.toExcCallFacts hC he3 rfl ?_)
  refine wpAny_bind (wpAny_pure (wpAny_pure ?_))
  refine ⟨plainId_quiet kt.fb.init.plain _, codeAny_builtin kt.fb.initEntry ?_⟩
  refine PySem.W.exc_init_tree (cls := .ref C) (t0 := t0) (dv := none) (c2 := .none) (c3 := .none) (b4 := .bool false) he3 (by simp [sizeLine_eq]) fun h4 k4 he4 _ => ?_
  show PySem.wpAt _ _ _ (execs _ _) _ _ _
  have X4 : K.In h4 := fun b o z => k4 b o (fun y => by rw [y, hKe] at z; cases z) (Heap.get?_push_of_some _ (X2 b o z))
  have eL : e < L := by rw [← hL']; exact Heap.lt_size he
  have ns4 : h4.Ns L fun x => List.lookup x [(sn, Value.ref e), (vn, u)].reverse := ((hns.keeps k2).keeps fun b o z => Heap.get?_push_of_some (kxs_mw i e) z).at fun o z => k4 L o (Nat.ne_of_gt eL) z
  refine ks_wpAt_execs_cons (ks_wpAt_Assign_Attr (PySem.wpAt_of_wpAny (ldn ns4 lv (ldn ns4 ls (set_first kt.sf X4 he4 over T.sa T.tk T.hd fun h5 t5 dx k5 s5 ne5 he5 n5 => ?_) T.s.kind T.s.ksn T.s.db1) T.s.kind T.s.kvn T.s.db2)) (T.s.sw ..))
  show PySem.wpAt _ _ _ (execs [] _) _ _ _
  refine PySem.wpAt_of_wpAny (wpAny_execs_nil ?_)
  have up : ∀ b o, b ≠ e → h.get? b = some o → h4.get? b = some o := fun b o hb z => k4 b o hb (Heap.get?_push_of_some _ (k2 b o (k1 b o z)))
  refine hq h5 _ _ dx (fun b o hb z => k5 b o hb (up b o hb z)) (Nat.le_trans ?_ s5) he5 n5
  obtain ⟨oL, _, _, zL, _⟩ := ns4
  rw [hL']
  exact Nat.le_of_lt (Heap.lt_size zL)

/-- C(v): a new exception that keeps v -/
theorem call_kept {E : Value → Shared → Prop} {Q : Value → Shared → Prop} {u : Value} {k : Nat} (T : KxC P K C st sn vn f) (X : K.In h) (hg : h.Ns mainGlobals mg) (hgs : mg "super" = none) (hb : h.Ns builtinsNs mb) (hbb : ∀ x : Str, x ≠ "__name__" → mb x = bootBuiltins x) (hlim : h.NoLimit)
    (hr : Room (k + 1) A)
    (hq : ∀ h' t' a t1 dx, (∀ b o, h.get? b = some o → h'.get? b = some o) → h.get? a = none → h.get? dx = none → h'.get? a = some (excObj C t1 (some dx) .none) → h'.Ns1 dx (fun y => if y = f then some u else none) → Q (.ref a) ⟨h', g, d, t', os⟩) :
    wpAny (model P w) A (call (.ref C) [u]) Q E ⟨h, g, d, t, os⟩ := by
  obtain ⟨B, newId, i, bmB, fI, D, cc, cda, qual, kV, doc, pm, ct, oc, an, od, osl, kt, q, over, sub, iC, tI, lk, hcd, hcode, hcell, hD, hm, hsup⟩ := T.ex
  obtain ⟨nm, N', qn, bs, bm, hdct, snn, subs, ab, col, dd, k0, k1', k2', k3', k5, hC, hT⟩ := PySem.W.excInit_of X q
  obtain ⟨oI, hoI, hcI⟩ : ∃ oI, h.get? fI = some oI ∧ oI.cls = .type "function" := by
    obtain ⟨o, ho, hc⟩ := Option.map_eq_some_iff.mp (show (K.lookup fI).map (·.cls) = some (.type "function") from beq_iff_eq.mp tI)
    exact ⟨o, X _ _ ho, hc⟩
  have kk : ∀ b o, h.get? b = some o → ((h.push (PySem.W.kdv_tup [u])).push (PySem.PX.excO C h.objs.size)).get? b = some o := fun b o e => Heap.get?_push_of_some _ (Heap.get?_push_of_some _ e)
  have hget : ((h.push (PySem.W.kdv_tup [u])).push (PySem.PX.excO C h.objs.size)).get? (h.objs.size + 1) = some (PySem.PX.excO C h.objs.size) := by heap_get
  have hnew : h.get? (h.objs.size + 1) = none := Heap.get?_none_of_le (Nat.le_succ _)
  have hKe : K.lookup (h.objs.size + 1) = none := by
    cases z : K.lookup (h.objs.size + 1) with
    | none => rfl
    | some o =>
      rw [X _ _ z] at hnew
      cases hnew
  refine wpAny_call (PySem.PX.call_own kt.fb hT hC (PySem.W.looks_findIn X iC) (fun self => PySem.W.exc_bind hoI hcI self) (by simp [sizeLine_eq]) ?_)
  refine init_run T kt q over sub lk hcd hcode hcell hD hm hsup (X.keeps kk) (hg.keeps kk) hgs (hb.keeps kk) hbb (hlim.keeps kk) ?_ hget hKe fun h' t' t1 dx k2 hs he n => ?_
  · have := (hr.make C [u] []).dp
    omega
  · refine ⟨rfl, ?_⟩
    refine hq h' t' _ t1 dx (fun b o z => k2 b o (Nat.ne_of_lt (Nat.lt_succ_of_lt (Heap.lt_size z))) (kk b o z)) hnew (Heap.get?_none_of_le ?_) he n
    rw [Heap.size_push, Heap.size_push] at hs
    omega
end
end Y

/-! Yc: exceptions as values, raise. -/
namespace Y
open PySem PySem.Spec PyProof.Rows L2
open PySem.W (Frag findIn subIn clsIn mroIn specialIn takesIn keepIn typeIn)
section
variable {G : Glo} {X : Cx} {ρ : Rho} {H : Hp}
/-- an own exception class without own __init__ -/
structure KpC (K : Frag) (C : Addr) : Prop where
  ex : ∃ (B newId initId : String) (bmB : List Value), ExcBaseFacts B newId initId bmB ∧ PySem.W.excIn K C bmB newId = true
  exC : subIn K (.ref C) (.type "BaseException") = some true
  tyC : typeIn K (.ref C) = some (.type "type")
  kC : keepIn K (.ref C) = true
/-- what isinstance wants of an exception class -/
structure KiC (K : Frag) (C : Addr) : Prop where
  cl : (clsIn K C).isSome = true
  ga : findIn K (.ref C) "__getattribute__" = some (some (.builtin "BaseException.__getattribute__"))
  gt : ∃ gt, findIn K (.ref C) "__getattr__" = some gt
  sub : subIn K (.ref C) (.type "BaseException") = some true
  ca : findIn K (.ref C) "__class__" = some (some (.builtin "object.__class__"))
  sp : specialIn K (.builtin "object.__class__") "__get__" = some (some (.builtin "getset_descriptor.__get__"))
  tk : takesIn K (.builtin "object.__class__") = some true
  mo : mroIn K C (.type "object") = some true
def fExc (c : Nat) : MF
  | [_], S => .ok (.loc S.n) (S.new (.exv c []))
  | _, _ => .stuck
def fExcK (c : Nat) (f : Str) : MF
  | [d], S => .ok (.loc S.n) (S.new (.exv c [(f, d)]))
  | _, _ => .stuck
theorem cm_exc {c : Nat} {C : Addr} (hC : G.ca c = .ref C) (T : KpC G.K C) : CallM G X (.ref C) (fExc c) := fun W ok pins s σ H ρ S xs us ds Q I r rp rd q => by
  unfold fExc at q
  split at q
  · rename_i d
    simp only [RelDs] at rd
    obtain ⟨v, _, rfl, rd, rfl⟩ := rd
    obtain ⟨u, rfl, rv⟩ := vals1 r
    obtain ⟨B, newId, initId, bmB, F, qq⟩ := T.ex
    rw [ok.kk] at qq
    obtain ⟨bm, N, nm, qn, bs, hdct, sn, sub, ab, col, dd, k0, k1, k2, k3, k5, mN, hc, hN, hni, T2⟩ := exc_obj I.kIn qq
    refine wpAny_call_exc_subT F T2 hc hN hni (fun h' a hm => ?_) (by show 1 ≤ sizeLine; rw [sizeLine_eq]; omega)
    have hn : H a = none := I.hok.gone hm.new
    obtain ⟨t, ht, _, _⟩ := hm.there
    refine ⟨.ref a, upd H a (exo a C none), I.laidN hm.keeps hm.new hn (exo_ok ht), rfl, ?_⟩
    exact q (ext ρ S.n a) _ _ ((Le.ext (rp.top _ (Nat.le_refl _))).trans (Le.same (same_new hn))) (rp.new hn ⟨C, none, hC, upd_same, .inl ⟨rfl, rfl⟩⟩) (RelD.loc' ext_same)
  · exact q.elim
/-- a new exception that keeps v: as an object of ours -/
theorem run_kept {st : Stmt} {sn vn f : Str} {C : Addr} {k : Nat} {pins : List (Addr × Obj)} {s : Shared} {σ : L2.St} {v : V} {u : Value} {Q : Value → Shared → Prop} {E : Value → Shared → Prop} (T : KxC X.prog X.K C st sn vn f) (hgs : X.mg "super" = none) (hr : Room (k + 1) X.A) (I : Inv X pins σ H s) (rv : RelV v u)
    (h : ∀ a dx s' G', H a = none → H dx = none → dx ≠ a → (∃ t1, s'.heap.get? a = some (PySem.W.excObj C t1 (some dx) .none)) → G'.heap.get? a = none → (∀ b o, G'.heap.get? b = some o → s'.heap.get? b = some o) → s'.os = G'.os → s'.gens = G'.gens → AllBare s'.gens →
      Inv X pins σ (upd H dx (.xd [(f, v)])) G' → Inv X pins σ (upd (upd H dx (.xd [(f, v)])) a (exo a C (some dx))) s' → Q (.ref a) s') :
    wpAny (model X.prog X.w) X.A (call (.ref C) [u]) Q E s := by
  obtain ⟨mb, b1, b2⟩ := I.mod.blt
  obtain ⟨hp, g, d, t, os⟩ := s
  refine call_kept T I.kIn (I.mod.glob.keeps I.bk) hgs (b1.keeps I.bk) b2 (I.mod.nolimit.keeps I.bk) hr fun h' t' a t1 dx kp na nd ha hn => ?_
  have Ha : H a = none := I.hok.gone na
  have Hd : H dx = none := I.hok.gone nd
  obtain ⟨od, eD, epD, hod, hdd, hr2⟩ := id hn
  have hda : dx ≠ a := fun z => by
    rw [z, ha] at hod
    have z2 := Option.some.inj hod
    subst z2
    cases hdd
  obtain ⟨G1, g1, g2⟩ := restrict h' fun b => decide (b ≠ a)
  have gk : ∀ b, b ≠ a → G1.get? b = h'.get? b := fun b hb => g1 b (decide_eq_true hb)
  have ge : G1.get? a = none := g2 a (by simp)
  have kG : ∀ b o, hp.get? b = some o → G1.get? b = some o := fun b o z => by
    rw [gk b (fun y => by rw [y, na] at z; cases z)]
    exact kp b o z
  have gs : ∀ b o, G1.get? b = some o → h'.get? b = some o := fun b o z => by
    by_cases hb : b = a
    · rw [hb, ge] at z
      cases z
    · rw [← gk b hb]
      exact z
  have J1 : Inv X pins σ (upd H dx (.xd [(f, v)])) ⟨G1, g, d, t', os⟩ := I.laidN (t' := t') kG nd Hd ⟨_, hn.at fun o y => (gk dx hda).trans y, fun g => by
    rw [lookup_put]
    by_cases e : g = f
    · rw [if_pos e, if_pos e]
      exact rv
    · rw [if_neg e, if_neg e]
      trivial⟩
  have Ha1 : upd H dx (.xd [(f, v)]) a = none := by rw [upd_ne (Ne.symm hda)]; exact Ha
  have J2 : Inv X pins σ (upd (upd H dx (.xd [(f, v)])) a (exo a C (some dx))) ⟨h', g, d, t', os⟩ := J1.laidN (t' := t') gs ge Ha1 (exo_ok ha)
  exact h a dx ⟨h', g, d, t', os⟩ ⟨G1, g, d, t', os⟩ Ha Hd hda ⟨t1, ha⟩ ge gs rfl rfl I.bare J1 J2
theorem cm_excK {c k : Nat} {C : Addr} {st : Stmt} {sn vn f : Str} (hC : G.ca c = .ref C) (T : KxC X.prog G.K C st sn vn f) (hgs : X.mg "super" = none) (hr : Room (k + 1) X.A) : CallM G X (.ref C) (fExcK c f) := fun W ok pins s σ H ρ S xs us ds Q I r rp rd q => by
  unfold fExcK at q
  split at q
  · rename_i d
    simp only [RelDs] at rd
    obtain ⟨v, _, rfl, rd, rfl⟩ := rd
    obtain ⟨u, rfl, rv⟩ := vals1 r
    rw [ok.kk] at T
    refine run_kept T hgs hr I rv fun a dx s' G' Ha Hd hda hget _ _ _ _ _ J1 J2 => ?_
    have Ha1 : upd H dx (.xd [(f, v)]) a = none := by rw [upd_ne (Ne.symm hda)]; exact Ha
    have rp1 : Rep G ρ S (upd H dx (.xd [(f, v)])) := rp.free Hd
    refine ⟨.ref a, _, J2, rfl, ?_⟩
    have le1 : Le G ρ H ρ (upd H dx (.xd [(f, v)])) := Le.same (same_new Hd)
    have le2 : Le G ρ (upd H dx (.xd [(f, v)])) (ext ρ S.n a) (upd (upd H dx (.xd [(f, v)])) a (exo a C (some dx))) := (Le.ext (rp.top _ (Nat.le_refl _))).trans (Le.same (same_new Ha1))
    refine q (ext ρ S.n a) _ _ (le1.trans le2) (rp1.new Ha1 ⟨C, some dx, hC, upd_same, .inr ⟨dx, _, rfl, by rw [upd_ne hda, upd_same], fun g e z => ?_⟩⟩) (RelD.loc' ext_same)
    by_cases hg : g = f
    · subst hg
      have z' : d = e := by simpa [List.lookup] using z
      subst z'
      exact ⟨v, by simp [List.lookup], rd.mono (le1.trans le2)⟩
    · have : (g == f) = false := by simpa using hg
      simp [List.lookup, this] at z
  · exact q.elim
/-! ### isinstance, fields -/
def fIsE (kit kix : Nat → Nat → Option Bool) : MF
  | [.loc n, .cls c], S => (match S.get n with
    | some (.exv t _) => (match kix t c with
      | some b => .ok (.bl b) S
      | none => .stuck)
    | _ => fIsI kit [.loc n, .cls c] S)
  | ds, S => fIsI kit ds S
structure KixOk (G : Glo) (kix : Nat → Nat → Option Bool) : Prop where
  ans : ∀ t c b, kix t c = some b → PySem.W.kitOne G.K (G.ca t) (G.ca c) = some b
  cl : ∀ c b t, kix t c = some b → ∃ v, RelV v (G.ca c) ∧ ClsV v (G.ca c)
  own : ∀ t c b C, kix t c = some b → G.ca t = .ref C → KiC G.K C
theorem exv_inst {pins : List (Addr × Obj)} {s : Shared} {σ : L2.St} {S : Sto} {n c : Nat} {fs : List (Str × D)} {x : V} (I : Inv X pins σ H s) (rp : Rep G ρ S H) (rd : RelD G ρ H (.loc n) x) (e : S.get n = some (.exv c fs)) :
    ∃ a C ox od, x = .ref a ∧ G.ca c = .ref C ∧ PySem.W.InstAt s.heap a ox C od ∧ ∀ f d, fs.lookup f = some d → ∃ v u, RelD G ρ H d v ∧ RelV v u ∧ od.isSome = true ∧ ∀ o, od = some o → PySem.W.lookIn f o = some (some u) := by
  simp only [RelD] at rd
  obtain ⟨a, e1, rfl⟩ := rd
  obtain ⟨b, e2, C, d, hC, ha, hf⟩ := rp.cell n _ e
  rw [e1] at e2
  cases e2
  obtain ⟨t1, ho⟩ := exo_at I.hok ha
  rcases hf with ⟨rfl, rfl⟩ | ⟨dx, gs, rfl, hd, hl⟩
  · exact ⟨a, C, _, none, rfl, hC, ⟨ho, rfl, rfl, trivial⟩, fun f d z => by cases z⟩
  · have hx : ObjOk X.prog X.w H s.heap dx (.xd gs) := I.hok dx _ hd
    obtain ⟨mA, hns, hr⟩ := hx
    obtain ⟨od, hod, hlk⟩ := lookIn_ns hns
    refine ⟨a, C, _, some od, rfl, hC, ⟨ho, rfl, rfl, hod⟩, fun f d z => ?_⟩
    obtain ⟨v, q1, q2⟩ := hl f d z
    obtain ⟨u, hu, ru⟩ := RelO.some_of (v := v) (o := mA f) (by rw [← q1]; exact hr f)
    exact ⟨v, u, q2, ru, rfl, fun o eo => by cases eo; rw [hlk, hu]⟩
theorem cm_ise {kit kix : Nat → Nat → Option Bool} (ko : KitOk G kit) (kx : KixOk G kix) : CallM G X (.builtin "isinstance") (fIsE kit kix) := fun W ok pins s σ H ρ S xs us ds Q I r rp rd q => by
  unfold fIsE at q
  split at q
  · rename_i n c
    split at q
    · rename_i t fs et
      split at q
      · rename_i b eb
        simp only [RelDs] at rd
        obtain ⟨x, _, rfl, rd, y, _, rfl, re, rfl⟩ := rd
        obtain ⟨u1, u2, rfl, r1, r2⟩ := vals2 r
        simp only [RelD] at re
        obtain ⟨v', rv', kv'⟩ := kx.cl c b t eb
        cases (cls_of re rv' kv').eq r2
        have k1 := kx.ans t c b eb
        obtain ⟨a, C, ox, od, rfl, hC, J, _⟩ := exv_inst I rp rd et
        have o1 := kx.own t c b C eb hC
        rw [hC] at k1
        rw [ok.kk] at o1 k1
        obtain ⟨gt, hgt⟩ := o1.gt
        cases (show u1 = Value.ref a from r1)
        exact PySem.W.kia_one (PySem.W.kitx_exc o1.cl o1.ga hgt o1.sub o1.ca o1.sp o1.tk o1.mo) I.kIn J k1 (fun z => nomatch z) fun tk => ⟨.bl b, H, I.tok _, rfl, q.ok rp rel_bl⟩
      · exact q.elim
    · exact cm_isi ko W ok pins s σ H ρ S xs us _ Q I r rp rd q
  · exact cm_isi ko W ok pins s σ H ρ S xs us _ Q I r rp rd q
/-- e.f, a field of an exception -/
def fldE (c : Nat) (f : Str) : D → Sto → Res D
  | .loc n, S1 => (match S1.get n with
    | some (.exv c' fs) => (match c' == c, fs.lookup f with
      | true, some e => .ok e S1
      | _, _ => .stuck)
    | _ => .stuck)
  | _, _ => .stuck
theorem te_un {m : ME} {f : D → Sto → Res D} {W : WX} {σ : L2.St} {H : Hp} {Q : VK} (h : te G (mUn f m) W σ H Q) : te G m W σ H fun v H1 => ∃ ρ1 d S1, Rep G ρ1 S1 H1 ∧ RelD G ρ1 H1 d v ∧ Aft G (RelD G) ρ1 H1 (f d S1) Q (fun c a H' => W c a σ H') := by
  obtain ⟨sd, S, ρ, hs, hr, h⟩ := h
  exact ⟨sd, S, ρ, hs, hr, Aft.bind h fun ρ1 H1 v d S1 le r1 rd h1 => ⟨ρ1, d, S1, r1, rd, h1⟩⟩
theorem pm_fldE {e : Expr} {f : Str} {m : ME} {pos : Pos} {c : Nat} {C : Addr} (hC : G.ca c = .ref C) (T : XfC G.K C) (hno : PySem.W.findIn G.K (.ref C) f = some none) (he : PEm G X e m) (hb : attributeBase e f X.env (eval e X.env) = eval e X.env := by rfl) :
    PEm G X (.Attribute e f pos) (mUn (fldE c f) m) := fun W ok => by
  refine ⟨fun pins s σ H Q I h => ?_⟩
  refine attr_of hb (thn ((he W ok).run pins s σ H _ I (te_un h)) fun u s1 hh => ?_)
  obtain ⟨v, H1, I1, rv, ρ1, d, S1, r1, rd, h1⟩ := hh
  unfold fldE at h1
  split at h1
  · rename_i n
    split at h1
    · rename_i c' fs en
      split at h1
      · rename_i d2 ec el
        obtain ⟨a, C', ox, od, rfl, hC', J, hl⟩ := exv_inst I1 r1 rd en
        have ec' : c' = c := by simpa using ec
        rw [ec', hC] at hC'
        cases hC'
        obtain ⟨v2, u2, rd2, ru2, hsome, hlk⟩ := hl f d2 el
        cases (show u = Value.ref a from rv)
        cases od with
        | none => cases hsome
        | some o =>
          rw [ok.kk] at T hno
          exact HandSPX.exc_get I1.kIn J T.ga T.gg T.exC (PySem.W.findObj_own T.hdC hno rfl (hlk o rfl)) (handed_of ru2) ⟨v2, H1, I1.tok _, ru2, h1.ok r1 rd2⟩
      · exact h1.elim
    · exact h1.elim
  · exact h1.elim
/-! ### raise -/
def sRaiseP (c : Nat) : MS := fun sd S => .ex ⟨c, []⟩ sd S
def sRaiseK (c : Nat) (f : Str) (m : ME) : MS := fun sd S => bindS (m sd S) sd fun d S1 => .ex ⟨c, [(f, d)]⟩ sd S1
/-- raise X('m') -/
theorem ps_raiseP {x m : Str} {j c : Nat} {C : Addr} {p p2 pos pos' : Pos} (hc : X.calm = true) (hC : G.ca c = .ref C) (T : KpC G.K C) (hg : Gl X x) (gC : X.mg x = some (.ref C)) (hdb : (x == ("__debug__" : Str)) = false := by decide) :
    PSm G X (.Raise (some (.Call (.Name x p) [.Constant (.str m) j p2] [] pos)) none pos') (sRaiseP c) := fun W ok => by
  obtain ⟨B, newId, initId, bmB, F, qq⟩ := T.ex
  have e1 := T.exC
  have e2 := T.tyC
  have e3 := T.kC
  rw [ok.kk] at qq e1 e2 e3
  refine PS_imp (ps_raise hc ok.tk (pmk_own F qq gC e3 (raises_own e1 e2) hg hdb)) fun E σ H ⟨sd, S, ρ, hs, hr, h⟩ => ?_
  exact h ρ H σ _ _ Le.refl hr hs ⟨hC.symm, trivial⟩
/-- raise X(e), kept -/
theorem ps_raiseK {x : Str} {c k : Nat} {C : Addr} {st : Stmt} {sn vn f : Str} {e : Expr} {m : ME} {p pos pos' : Pos} (hc : X.calm = true) (hC : G.ca c = .ref C) (T : KxC X.prog G.K C st sn vn f) (hgs : X.mg "super" = none) (hr : Room (k + 1) X.A) (hg : Gl X x) (gC : X.mg x = some (.ref C)) (he : PEm G X e m)
    (hdb : (x == ("__debug__" : Str)) = false := by decide) (hst : starEach [e] X.env = (false, eval e X.env) :: starEach [] X.env := by rfl) :
    PSm G X (.Raise (some (.Call (.Name x p) [e] [] pos)) none pos') (sRaiseK c f m) := fun W ok => by
  rw [ok.kk] at T
  have mk : PMk X (.Call (.Name x p) [e] [] pos) (fun σ H Q => te G m W σ H fun v H1 => ∀ dx, H1 dx = none → Q (.ref C) (some dx) (upd H1 dx (.xd [(f, v)]))) := by
    intro pins s σ H Q I h
    refine wpAny_Call_Name_kw (ld_glob I hg gC ?_ hdb)
    refine PySem.W.callWith_K (h₀ := X.base) I.ok.mod.kin T.kC ?_ hst (by rfl)
    rw [hst]
    show wpAny _ _ (spliced ((false, eval e X.env) :: backTo pos (starEach [] X.env))) _ _ s
    refine Calls.spliced_cons (thn ((he W ok).run pins s σ H _ I h) fun u s1 ⟨v, H1, I1, r1, q1⟩ => ?_)
    refine Calls.spliced_nil ⟨I1.kIn, ?_⟩
    show wpAny _ _ (call (.ref C) [u]) _ _ _
    refine run_kept T hgs hr I1 r1 fun a dx s' G' Ha Hd hda hget ga gs ho hg2 hb J1 J2 => ?_
    obtain ⟨t1, hget⟩ := hget
    exact ⟨a, _, _, G', _, .ref C, some dx, rfl, J1, gs, ga, hget, ⟨rfl, rfl⟩, rfl, rfl, by rw [upd_ne (Ne.symm hda)]; exact Ha, ho, hb, raises_own T.xf.exC T.tyC, q1 dx Hd⟩
  refine PS_imp (ps_raise hc ok.tk mk) fun E σ H ⟨sd, S, ρ, hs, hr, h⟩ => ?_
  refine ⟨sd, S, ρ, hs, hr, AftS.bind h hs fun ρ1 H1 v d S1 le r1 rd h1 dx hd => ?_⟩
  have le1 : Le G ρ1 H1 ρ1 (upd H1 dx (.xd [(f, v)])) := Le.same (same_new hd)
  refine h1 ρ1 _ σ _ _ le1 (r1.free hd) (hs.mono (le.trans le1)) ⟨hC.symm, ?_⟩
  refine ⟨_, upd_same, fun g e z => ?_⟩
  by_cases hg : g = f
  · subst hg
    have z' : d = e := by simpa [List.lookup] using z
    subst z'
    exact ⟨v, by simp [List.lookup], rd.mono le1⟩
  · have : (g == f) = false := by simpa using hg
    simp [List.lookup, this] at z
end
end Y

/-! Yd: {}, classes as values, what is never reached, repr of a list of empty dicts. -/
namespace Y
open PySem PySem.Spec PyProof.Rows L2
section
variable {G : Glo} {X : Cx} {ρ : Rho} {H : Hp}
def mDct0 : ME := fun _ S => .ok (.loc S.n) (S.new (.dct 0 []))
theorem pm_dct0 {pos : Pos} : PEm G X (.Dict [] [] pos) mDct0 := fun W ok => PE_imp pe_dnewK fun σ H Q ⟨sd, S, ρ, hs, hr, h⟩ p hp => by
  exact h (ext ρ S.n p) _ _ ((Le.ext (hr.top _ (Nat.le_refl _))).trans (Le.same (same_new hp))) (hr.new hp (.inl ⟨[], upd_same, rfl⟩)) (RelD.loc' ext_same)
theorem pm_cls {x : Str} {n : Nat} {v : V} {pos : Pos} (hg : Gl X x) (hm : X.mg x = some (G.ca n)) (r : RelV v (G.ca n)) (hd : (x == ("__debug__" : Str)) = false := by decide) : PEm G X (.Name x pos) (mC (.cls n)) :=
  pm_glob hg hm r (fun _ _ => by simp only [RelD]; exact r) hd
theorem pm_bcl {x : Str} {n : Nat} {T : String} {pos : Pos} (hg : Gl X x) (hm : X.mg x = none) (hb : bootBuiltins x = some (.type T)) (hc : G.ca n = .type T) (hn : x ≠ "__name__" := by decide) (hd : (x == ("__debug__" : Str)) = false := by decide) : PEm G X (.Name x pos) (mC (.cls n)) :=
  pm_c (pe_bltn hg hm hb (v := .ty T) rfl hn hd) fun _ _ => by simp only [RelD, hc]; rfl
/-- never reached -/
def mNo : ME := fun _ _ => .stuck
def sNo : MS := fun _ _ => .stuck
theorem pm_no {e : Expr} : PEm G X e mNo := fun W ok => ⟨fun pins s σ H Q I ⟨sd, S, ρ, hs, hr, h⟩ => h.elim⟩
theorem ps_no {st : Stmt} : PSm G X st sNo := fun W ok => ⟨fun pins s σ H D I ⟨sd, S, ρ, hs, hr, h⟩ => h.elim⟩
theorem pss_no {st : List Stmt} : PSsm G X st sNo := fun W ok => ⟨fun pins s σ H D I ⟨sd, S, ρ, hs, hr, h⟩ => h.elim⟩

/-! ### repr of a list of empty dicts -/
def allD0 (S : Sto) : List D → Bool
  | [] => true
  | d :: r => isDct0 d S && allD0 S r
def isDs0 (d : D) (S : Sto) : Option Nat := match d with
  | .loc k => (match S.get k with
    | some (.lst (x :: l)) => if allD0 S (x :: l) then some (l.length + 1) else none
    | _ => none)
  | _ => none
def fReprD : MF
  | [d], S => (match isDs0 d S with
    | some n => if (PyData.shown (.list (List.replicate n (.dict [])))).length ≤ 16777216 then .ok (.str (PyData.shown (.list (List.replicate n (.dict [])))).cps.toList) S else .stuck
    | none => fRepr [d] S)
  | _, _ => .stuck
theorem dct0_reads {pins : List (Addr × Obj)} {s : Shared} {σ : L2.St} {S : Sto} {d : D} {v : V} {u : Value} (I : Inv X pins σ H s) (rp : Rep G ρ S H) (rd : RelD G ρ H d v) (rv : RelV v u) (h0 : isDct0 d S = true) : ∃ a, (a == sysModules) = false ∧ Reads s.heap u (.dict []) [a] := by
  unfold isDct0 at h0
  split at h0
  · rename_i k
    split at h0
    · rename_i el
      simp only [RelD] at rd
      obtain ⟨a, e1, rfl⟩ := rd
      cases rv
      obtain ⟨b, e2, c⟩ := rp.cell k _ el
      rw [e1] at e2
      cases e2
      rcases c with ⟨kvs, hd, pk⟩ | ⟨hne, _⟩
      · have hd : H a = some (.dK kvs) := hd
        have ek : kvs = [] := pk
        subst ek
        obtain ⟨_, hsys, vs, kv, o, es, ep, h1, hx, hdt, _, r2, _⟩ := I.hok a _ hd
        have ev : vs = [] := by cases kv; rfl
        subst ev
        have ees : es.toList = [] := by
          have := r2.length
          simp at this
          exact List.length_eq_zero_iff.mp (by simpa using this)
        exact ⟨a, hsys, .dict (kvs := []) (as := []) (bs := []) h1 hx.1 hdt (by rw [ees]; exact .nil) (by rw [ees]; exact .nil)⟩
      · exact absurd rfl hne
    · cases h0
  · cases h0
theorem dcts_reads {pins : List (Addr × Obj)} {s : Shared} {σ : L2.St} {S : Sto} (I : Inv X pins σ H s) (rp : Rep G ρ S H) : ∀ {l : List D} {xs : List V} {us : List Value}, RelDs G ρ H l xs → Vals xs us → allD0 S l = true → ∃ bs, sysModules ∉ bs ∧ ReadsAll s.heap us (List.replicate l.length (.dict [])) bs
  | [], xs, us, h, r, _ => by
    simp only [RelDs] at h
    subst h
    cases r
    exact ⟨[], by simp, .nil⟩
  | d :: l, xs, us, h, r, q => by
    simp only [RelDs] at h
    obtain ⟨v, ys, rfl, h1, h2⟩ := h
    unfold allD0 at q
    rw [Bool.and_eq_true] at q
    cases r with
    | cons rv rr =>
      obtain ⟨a, ha, ra⟩ := dct0_reads I rp h1 rv q.1
      obtain ⟨bs, hb, rb⟩ := dcts_reads I rp h2 rr q.2
      refine ⟨[a] ++ bs, fun z => ?_, .cons ra rb⟩
      rcases List.mem_append.mp z with z | z
      · have e : sysModules = a := by simpa using z
        rw [← e] at ha
        simp at ha
      · exact hb z
theorem showable_rep (n : Nat) : PyData.showableAll (List.replicate n (.dict [])) = true := by
  induction n with
  | zero => rfl
  | succ n ih => rw [List.replicate_succ]; simp [PyData.showableAll, PyData.showable, PyData.showableKv, ih]
theorem depth_rep (n : Nat) : PyData.depthAll (List.replicate n (.dict [])) ≤ 5 := by
  induction n with
  | zero => decide
  | succ n ih => rw [List.replicate_succ]; simp [PyData.depthAll, PyData.depth, PyData.depthKv]; omega
theorem cm_reprD (hg : X.A.guards = some []) (hu : X.A.units + 64 < cLine) : CallM G X (.builtin "repr") fReprD := fun W ok pins s σ H ρ S xs us ds Q I r rp rd q => by
  unfold fReprD at q
  split at q
  · rename_i d
    split at q
    · rename_i n en
      split at q
      · rename_i hz
        unfold isDs0 at en
        split at en
        · rename_i k
          split at en
          · rename_i x l el
            split at en
            · rename_i hall
              cases en
              simp only [RelDs] at rd
              obtain ⟨v, _, rfl, rd, rfl⟩ := rd
              obtain ⟨u, rfl, rv⟩ := vals1 r
              obtain ⟨a, ys, rfl, e5, hH, ht⟩ := rp.list el rd
              cases rv
              obtain ⟨h1, vs, n, hv, h2⟩ := I.hok a _ hH
              obtain ⟨bs, hbs, rb⟩ := dcts_reads I rp ht hv hall
              have rr : Reads s.heap (.ref a) (.list (List.replicate (l.length + 1) (.dict []))) (a :: bs) := .list h2 rfl rfl (by simpa using rb)
              have hz' : (listText (PyData.shownAll (List.replicate (l.length + 1) (.dict [])))).length ≤ sizeLine := by
                rw [sizeLine_eq]
                simpa only [PyData.shown] using hz
              obtain ⟨bs2, hb, hk⟩ := ReprAllK.of_readsAll (prog := X.prog) (w := X.w) (by simpa using rb) (showable_rep (l.length + 1)) (fun _ => hbs) (fun t ht => Nat.le_trans (listText_mem_le ht) hz')
              have hna : a ∉ bs2 := not_mem_of_deeper rr (by simp only [PyData.depth]; omega) hb
              have hdp := depth_rep (l.length + 1)
              cases hv with
              | nil =>
                simp only [RelDs] at ht
                obtain ⟨_, _, z, _⟩ := ht
                cases z
              | @cons _ x0 _ vs0 rv0 hv0 =>
                refine call_repr_slot (T := "list") (by omega) ⟨_, h2, rfl⟩ F.slot_list_repr.toG ?_
                refine call_list_reprK (d := PyData.depthAll (List.replicate (l.length + 1) (.dict []))) (ts := PyData.shownAll (List.replicate (l.length + 1) (.dict []))) h2 rfl rfl hna (by simpa using hk.length_eq) (fun i y e => hk.item i y (by simpa using e)) hg (fun b _ => Clear.nil b) (by show X.A.units + 1 + _ < cLine; omega) (fun _ _ e => e) (fun h' u tk k => ⟨_, _, rfl, ?_⟩) hz'
                refine ⟨.str _, H, I.kept (t' := tk) k, ⟨_, rfl⟩, ?_⟩
                have h := q.ok rp (rel_str (x := (PyData.shown (.list (List.replicate (l.length + 1) (.dict [])))).cps.toList))
                rw [str_eta] at h
                simpa only [PyData.shown] using h
            · cases en
          · cases en
        · cases en
      · exact q.elim
    · exact cm_repr hg hu W ok pins s σ H ρ S xs us _ Q I r rp rd q
  · exact q.elim
end
end Y

/-! Ye: what the written part says, asked by one look each. -/
namespace Y
open PySem PySem.Spec PyProof.Rows L2
open PySem.W (Frag findIn subIn clsIn mroIn specialIn takesIn keepIn typeIn kitOne excIn)
def caOf (l : List (Nat × Value)) (n : Nat) : Value := (l.lookup n).getD .none
abbrev ca0 : List (Nat × Value) := [(0, .type "int"), (1, .type "bool"), (2, .type "str"), (3, .type "tuple"), (4, .type "list"), (5, .type "dict"), (6, .type "NoneType"), (100, .type "ValueError"), (101, .type "IndexError"), (102, .type "KeyError"), (103, .type "RuntimeError"), (104, .type "OverflowError"), (105, .type "ArithmeticError")]
def caL (l : List (Nat × Value)) : Nat → Value := caOf (List.append ca0 l)
theorem bt_caL {l : List (Nat × Value)} : ∀ n T, btn n = some T → caL l n = .type T := fun n T h => by
  unfold btn at h
  split at h <;> first | (cases h; rfl) | cases h
theorem bt_ca0 {l : List (Nat × Value)} : ∀ n T, btn n = some T → caOf (ca0 ++ l) n = .type T := fun n T h => by
  unfold btn at h
  split at h <;> first | (cases h; rfl) | cases h
def kitOf (ts cs : List Nat) (f : Nat → Nat → Bool) : Nat → Nat → Option Bool := fun t c => if ts.contains t && cs.contains c then some (f t c) else none
def kitB (K : Frag) (ca : Nat → Value) (ts cs : List Nat) (f : Nat → Nat → Bool) : Bool := ts.all fun t => cs.all fun c => kitOne K (ca t) (ca c) == some (f t c)
def clB (ca : Nat → Value) (cs : List Nat) : Bool := cs.all fun c => match ca c with
  | .type _ => true
  | .ref _ => true
  | _ => false
theorem kit_has {ts cs : List Nat} {f : Nat → Nat → Bool} {t c : Nat} {b : Bool} (h : kitOf ts cs f t c = some b) : t ∈ ts ∧ c ∈ cs ∧ f t c = b := by
  unfold kitOf at h
  split at h
  · rename_i z
    rw [Bool.and_eq_true, List.contains_iff_mem, List.contains_iff_mem] at z
    cases h
    exact ⟨z.1, z.2, rfl⟩
  · cases h
theorem kitB_at {K : Frag} {ca : Nat → Value} {ts cs : List Nat} {f : Nat → Nat → Bool} (h : kitB K ca ts cs f = true) {t c : Nat} {b : Bool} (e : kitOf ts cs f t c = some b) : kitOne K (ca t) (ca c) = some b := by
  obtain ⟨h1, h2, h3⟩ := kit_has e
  have := List.all_eq_true.mp (List.all_eq_true.mp h t h1) c h2
  rw [← h3]
  exact beq_iff_eq.mp this
theorem clB_at {ca : Nat → Value} {cs : List Nat} (h : clB ca cs = true) {c : Nat} (hc : c ∈ cs) : ∃ v, RelV v (ca c) ∧ ClsV v (ca c) := by
  have := List.all_eq_true.mp h c hc
  split at this
  · rename_i n e
    rw [e]
    exact ⟨.ty n, rfl, .ty n⟩
  · rename_i C e
    rw [e]
    exact ⟨.ref C, rfl, .own C⟩
  · cases this
def slB (ca : Nat → Value) (K : Frag) (p : Addr → Bool) (ts : List Nat) : Bool := ts.all fun t => match ca t with
  | .ref C => p C
  | _ => true
theorem slB_at {ca : Nat → Value} {K : Frag} {p : Addr → Bool} {ts : List Nat} (h : slB ca K p ts = true) {t : Nat} (ht : t ∈ ts) {C : Addr} (e : ca t = .ref C) : p C = true := by
  have := List.all_eq_true.mp h t ht
  rw [e] at this
  exact this
theorem kitOk_of {G : Glo} {ts cs : List Nat} {f : Nat → Nat → Bool} {p : Addr → Bool} (bt : ∀ n T, btn n = some T → G.ca n = .type T) (h : kitB G.K G.ca ts cs f = true) (hc : clB G.ca cs = true) (hs : slB G.ca G.K p ts = true) (hp : ∀ C, p C = true → SlX.SCls G.K C ∧ SlX.SIsi G.K C) : KitOk G (kitOf ts cs f) :=
  ⟨bt, fun t c b e => kitB_at h e, fun c b t e => clB_at hc (kit_has e).2.1, fun t c b C e eC => hp C (slB_at hs (kit_has e).1 eC)⟩
/-- what isinstance wants of an exception class -/
def kiB (K : Frag) (C : Addr) : Bool :=
  (clsIn K C).isSome && findIn K (.ref C) "__getattribute__" == some (some (.builtin "BaseException.__getattribute__")) && (findIn K (.ref C) "__getattr__").isSome && subIn K (.ref C) (.type "BaseException") == some true &&
    findIn K (.ref C) "__class__" == some (some (.builtin "object.__class__")) && specialIn K (.builtin "object.__class__") "__get__" == some (some (.builtin "getset_descriptor.__get__")) && takesIn K (.builtin "object.__class__") == some true && mroIn K C (.type "object") == some true
theorem kiB_ok {K : Frag} {C : Addr} (h : kiB K C = true) : KiC K C := by
  unfold kiB at h
  simp only [Bool.and_eq_true, beq_iff_eq] at h
  obtain ⟨⟨⟨⟨⟨⟨⟨h1, h2⟩, h3⟩, h4⟩, h5⟩, h6⟩, h7⟩, h8⟩ := h
  exact ⟨h1, h2, Option.isSome_iff_exists.mp h3, h4, h5, h6, h7, h8⟩
theorem kixOk_of {G : Glo} {ts cs : List Nat} {f : Nat → Nat → Bool} (h : kitB G.K G.ca ts cs f = true) (hc : clB G.ca cs = true) (hs : slB G.ca G.K (kiB G.K) ts = true) : KixOk G (kitOf ts cs f) :=
  ⟨fun t c b e => kitB_at h e, fun c b t e => clB_at hc (kit_has e).2.1, fun t c b C e eC => kiB_ok (slB_at hs (kit_has e).1 eC)⟩
/-- an own exception class over ValueError without own __init__ -/
def kpB (K : Frag) (C : Addr) : Bool :=
  excIn K C [.type "ValueError", .type "Exception", .type "BaseException", .type "object"] "ValueError.__new__" && subIn K (.ref C) (.type "BaseException") == some true && typeIn K (.ref C) == some (.type "type") && keepIn K (.ref C)
theorem kpB_ok {K : Frag} {C : Addr} (h : kpB K C = true) : KpC K C := by
  unfold kpB at h
  simp only [Bool.and_eq_true, beq_iff_eq] at h
  obtain ⟨⟨⟨h1, h2⟩, h3⟩, h4⟩ := h
  exact ⟨⟨_, _, _, _, F.excBase_ValueError, h1⟩, h2, h3, h4⟩
/-- an own exception class that keeps a field -/
def kxB (K : Frag) (C D fI : Addr) (f : Str) (B newId i : String) (bmB : List Value) : Bool :=
  PySem.W.excInitIn K C bmB newId && PySem.W.excOver K C bmB && subIn K (.ref C) (.type B) == some true && findIn K (.ref C) "__init__" == some (some (.ref fI)) && PySem.W.isFn K (.ref fI) && (clsIn K D).isSome && mroIn K C (.ref D) == some true &&
    PySem.W.ks_superIn K C D "__init__" == some (some (.builtin i)) && PySem.W.nsIn K cStatics "thirdparty.any" == some none && findIn K (.ref C) "__setattr__" == some (some (.builtin "object.__setattr__")) && PySem.W.takerIn K C f == some none &&
    PySem.W.hasDictIn K C && xfB K C && findIn K (.ref C) f == some none && typeIn K (.ref C) == some (.type "type") && keepIn K (.ref C)
theorem kxC_of {P : Program} {K : Frag} {C D fI cc cda : Addr} {st : Stmt} {sn vn f : Str} {B newId i : String} {bmB : List Value} {qual : Str} {kV doc pm ct oc ccl cl : Value} {an od cdd cld : Option Addr} {osl ccs csl : Array (Option Value)} {vs : Array Value} {file : Str} {tf : Tok} (s : KxS st sn vn f) (kt : KxT B newId i bmB)
    (l : K.lookup fI = some ⟨oc, od, .func (PySem.W.ksFn "__init__" qual (defArgs st) (defBody st) (defScope st) .none kV doc pm an (.ref cda) ct cc), osl⟩) (c : PySem.W.codeIn K (.ref cda) qual = true) (l2 : K.lookup cda = some ⟨ccl, cdd, .fields vs, ccs⟩) (hv : vs[2]? = some (.str file tf)) (hf : ((P.main.file : Str) == file) = true)
    (l3 : K.lookup cc = some ⟨cl, cld, .cell (some (.ref D)), csl⟩) (top : (P.main.scope.names.lookup ("super" : Str)).isSome = false) (h : kxB K C D fI f B newId i bmB = true) : KxC P K C st sn vn f := by
  unfold kxB at h
  simp only [Bool.and_eq_true, beq_iff_eq] at h
  obtain ⟨⟨⟨⟨⟨⟨⟨⟨⟨⟨⟨⟨⟨⟨⟨h1, h2⟩, h3⟩, h4⟩, h5⟩, h6⟩, h7⟩, h8⟩, h9⟩, h10⟩, h11⟩, h12⟩, h13⟩, h14⟩, h15⟩, h16⟩ := h
  exact ⟨s, ⟨B, newId, i, bmB, fI, D, cc, cda, qual, kV, doc, pm, ct, oc, an, od, osl, kt, h1, h2, h3, h4, h5, l, c, ⟨ccl, cdd, vs, ccs, file, tf, l2, hv, hf⟩, ⟨cl, cld, csl, l3⟩, h6, h7, h8⟩, top, h9, h10, h11, h12, xfB_ok h13, h14, h15, h16⟩
def inCls (s : Stmt) (k : Nat) : Stmt := match s with
  | .ClassDef _ _ _ b _ _ _ _ _ _ _ => b.getD k (.Pass ⟨0, 0, 0, 0⟩)
  | _ => .Pass ⟨0, 0, 0, 0⟩
section
variable {G : Glo} {X : Cx}
theorem pm_clsO {x : Str} {n : Nat} {C : Addr} {pos : Pos} (hg : Gl X x) (hm : X.mg x = some (.ref C)) (hC : G.ca n = .ref C) (hd : (x == ("__debug__" : Str)) = false := by decide) : PEm G X (.Name x pos) (mC (.cls n)) :=
  pm_cls (v := .ref C) hg (by rw [hC]; exact hm) (by rw [hC]; rfl) hd
end
/-- a name that the top leaves as it is told -/
theorem loose_int {lv : List (Str × PySem.W.WData)} {mg : Str → Option Value} {h : Heap} {G : Glo} {x : Str} {i : Int} (L : PySem.W.LooseAre lv mg h) (hm : (x, PySem.W.WData.int i) ∈ lv) : ∃ u v, mg x = some u ∧ RelV v u ∧ ∀ ρ H, RelD G ρ H (.int i) v := by
  obtain ⟨v, a, b⟩ := L.val _ hm
  cases b
  exact ⟨_, .int i, a, ⟨_, rfl⟩, fun _ _ => rel_int⟩
theorem glob_int {K : Frag} {h : Heap} {mg : Str → Option Value} {G : Glo} {x : Str} {i : Int} {t : Tok} (X : K.In h) (Gn : h.Ns mainGlobals mg) (e : PySem.W.nsIn K mainGlobals x = some (some (.int i t))) : ∃ u v, mg x = some u ∧ RelV v u ∧ ∀ ρ H, RelD G ρ H (.int i) v :=
  ⟨_, .int i, PySem.W.mg_of X Gn e, ⟨t, rfl⟩, fun _ _ => rel_int⟩
end Y

/-! Yf: the dice, by their mirrors (the same in every law). -/
namespace Y
open PySem PySem.Spec PyProof.Rows L2
def b_Lroll : MS := (sSeq (sIf (mTst cGt (mBin ixD (mVar 0) (mC (.int 0))) (mC (.int 0))) (sSeq (sSet 2 (mBin bMod (mCall fInt (mCons (mBin ixD (mVar 0) (mC (.int 0))) mNil)) (mVar 1)))
  (sSeq (sStL (mVar 0) (mC (.int 0)) (mBin bDiv (mBin ixD (mVar 0) (mC (.int 0))) (mVar 1)))
  (sRet (mVar 2)))) sSkip)
  (sSeq (sStL (mVar 0) (mC (.int 2)) (mBin bAdd (mBin ixD (mVar 0) (mC (.int 2))) (mC (.int 1))))
  (sSeq (sSet 3 (mBin bMod (mCall fInt (mCons (mBin bAdd (mBin ixD (mVar 0) (mC (.int 1))) (mBin bMul (mC (.int 49979719)) (mBin ixD (mVar 0) (mC (.int 2))))) mNil)) (mC (.int 2305843009213693613))))
  (sSeq (sSet 4 (mBin bAdd (mBin bMul (mBin bMod (mCall fInt (mCons (mBin bAdd (mBin bMul (mVar 3) (mVar 3)) (mBin bMul (mC (.int 97)) (mBin ixD (mVar 0) (mC (.int 2))))) mNil)) (mC (.int 2305843009213693907))) (mC (.int 7368797))) (mVar 3)))
  (sRet (mBin bMod (mCall fInt (mCons (mBin bDiv (mVar 4) (mC (.int 65536))) mNil)) (mVar 1)))))))
def m_Lroll : MF := mkF 5 2 b_Lroll
def b_Ldice : MS := (sSeq (sSet 2 (mIf (mTst cLt (mVar 1) (mCall fLen (mCons (mVar 0) mNil))) (mCall fInt (mCons (mBin ixD (mVar 0) (mVar 1)) mNil)) (mBin bAdd (mBin bMul (mC (.int 67)) (mVar 1)) (mC (.int 19)))))
  (sSeq (sSet 3 (mBin bMod (mCall fMax2 (mCons (mC (.int 0)) (mCons (mBin bSub (mCall fAbs (mCons (mVar 2) mNil)) (mBin bPow (mC (.int 10)) (mC (.int 16)))) mNil))) (mBin bMul (mBin bPow (mC (.int 10)) (mC (.int 60))) (mBin bPow (mC (.int 10)) (mC (.int 60))))))
  (sRet (mLst (mCons (mVar 3) (mCons (mBin bAdd (mBin bAdd (mBin bAdd (mBin bMul (mBin bMod (mCall fAbs (mCons (mVar 2) mNil)) (mC (.int 1152921504606846817))) (mC (.int 47))) (mBin bMul (mC (.int 821)) (mVar 1))) (mBin bMul (mC (.int 31)) (mCall fInt (mCons (mBin cLt (mVar 2) (mC (.int 0))) mNil)))) (mC (.int 3))) (mCons (mC (.int 0)) mNil)))))))
def m_Ldice : MF := mkF 4 2 b_Ldice
theorem mulOk_small {i j : Int} (h : i.natAbs < 18446744073709551616) : mulOk i j = true := by
  unfold mulOk
  rw [decide_eq_true h]
  rfl
theorem run_roll : ∀ (S : Sto) (d : Nat) (t x y z : Int), S.get d = some (dcell x y z) → 0 < t → t.natAbs.log2 < 9000 → ∃ r x' y' z', 0 ≤ r ∧ r < t ∧ m_Lroll [.loc d, .int t] S = .ok (.int r) (S.set d (dcell x' y' z')) := by
  intro S d t x y z h ht hl
  unfold dcell at h
  have hi : ∀ (c : Cell), (S.set d c).get d = some c := fun c => Sto.get_set_self h
  by_cases hx : 0 < x
  · refine ⟨x % t, x / t, y, z, Int.emod_nonneg _ (by omega), Int.emod_lt_of_pos _ ht, ?_⟩
    simp [m_Lroll, mkF, stD, b_Lroll, sSeq, SRes.andThen, sIf, bindS, mTst, mBin, mVar, mC, Res.bind, ixD, cGt, atI, ixN, h, hx, sSet, mCall, mCons, mNil, fInt, bMod, ht, sStL, stL, bDiv, hl, sRet, SRes.res, dcell]
  · obtain ⟨one, e1⟩ : ∃ one : Int, one = (y + 49979719 * (z + 1)) % 2305843009213693613 := ⟨_, rfl⟩
    obtain ⟨tw, e2⟩ : ∃ tw : Int, tw = (one * one + 97 * (z + 1)) % 2305843009213693907 := ⟨_, rfl⟩
    have b1 : mulOk one one = true := mulOk_small (by omega)
    have b2 : mulOk tw 7368797 = true := mulOk_small (by omega)
    have b3 : ∀ j, mulOk 49979719 j = true := fun j => mulOk_small (by decide)
    have b4 : ∀ j, mulOk 97 j = true := fun j => mulOk_small (by decide)
    have b5 : Nat.log2 65536 < 9000 := by decide +kernel
    refine ⟨(tw * 7368797 + one) / 65536 % t, x, y, z + 1, Int.emod_nonneg _ (by omega), Int.emod_lt_of_pos _ ht, ?_⟩
    simp [m_Lroll, mkF, stD, b_Lroll, sSeq, SRes.andThen, sIf, bindS, mTst, mBin, mVar, mC, Res.bind, ixD, cGt, atI, ixN, h, hi, hx, sSet, sSkip, mCall, mCons, mNil, fInt, bMod, bAdd, bMul, ht, sStL, stL, bDiv, hl, sRet, SRes.res, dcell, b1, b2, b3, b4, b5, ← e1, ← e2]
theorem run_dice : ∀ (S : Sto) (l : List Int) (i : Int), 0 ≤ i → i < 1000000 → ∃ x y z, m_Ldice [.scr l, .int i] S = .ok (.loc S.n) (S.new (dcell x y z)) := by
  intro S l i h0 h1
  have b1 : ∀ j, mulOk 67 j = true := fun j => mulOk_small (by decide)
  have b2 : ∀ j, mulOk 821 j = true := fun j => mulOk_small (by decide)
  have b3 : ∀ j, mulOk 31 j = true := fun j => mulOk_small (by decide)
  have b4 : mulOk (10 ^ 60) (10 ^ 60) = true := by decide +kernel
  have b5 : ∀ j : Int, mulOk (j % 1152921504606846817) 47 = true := fun j => mulOk_small (by omega)
  have b6 : (0 : Int) < 10 ^ 60 * 10 ^ 60 := by decide
  obtain ⟨c, hc⟩ : ∃ c : Int, (mIf (mTst cLt (mVar 1) (mCall fLen (mCons (mVar 0) mNil))) (mCall fInt (mCons (mBin ixD (mVar 0) (mVar 1)) mNil)) (mBin bAdd (mBin bMul (mC (.int 67)) (mVar 1)) (mC (.int 19)))) [some (.scr l), some (.int i), none, none] S = .ok (.int c) S := by
    by_cases hl : i < (l.length : Int)
    · have hj : i.toNat < l.length := by omega
      have ha : atI l i = some l[i.toNat] := by
        unfold atI ixN
        rw [if_pos h0, if_pos hl, Option.bind_some, List.getElem?_eq_getElem hj]
      exact ⟨l[i.toNat], by simp [mIf, mTst, mBin, mVar, mC, mCall, mCons, mNil, Res.bind, cLt, fLen, hl, ixD, ha, fInt]⟩
    · exact ⟨67 * i + 19, by simp [mIf, mTst, mBin, mVar, mC, mCall, mCons, mNil, Res.bind, cLt, fLen, hl, bMul, b1, bAdd]⟩
  have e1 : m_Ldice [.scr l, .int i] S = mkF 4 2 b_Ldice [.scr l, .int i] S := rfl
  have c1 : (0 : Int) ≤ 16 ∧ (16 : Int) ≤ 1000000 ∧ (10 : Int).natAbs < 18446744073709551616 := by decide
  have c2 : (0 : Int) ≤ 60 ∧ (60 : Int) ≤ 1000000 ∧ (10 : Int).natAbs < 18446744073709551616 := by decide
  have c3 : (0 : Int) < 1152921504606846817 := by decide
  have t16 : (16 : Int).toNat = 16 := rfl
  have t60 : (60 : Int).toNat = 60 := rfl
  generalize hab : (if c < 0 then -c else c) = ab
  refine ⟨(if ab - 10 ^ 16 > 0 then ab - 10 ^ 16 else 0) % (10 ^ 60 * 10 ^ 60), ab % 1152921504606846817 * 47 + 821 * i + 31 * (if decide (c < 0) = true then 1 else 0) + 3, 0, ?_⟩
  rw [e1]
  have st : stD 4 [.scr l, .int i] = [some (.scr l), some (.int i), none, none] := rfl
  simp only [mkF, st, b_Ldice, sSeq, sSet, hc, bindS, SRes.andThen, mBin, mVar, mC, mCall, mCons, mNil, Res.bind, fMax2, fAbs, bSub, bPow, bMod, bMul, b2, b3, b4, b5, b6, c1, c2, c3, t16, t60, bAdd, cLt, fInt, mLst, sRet, SRes.res, dcell, hab, List.set_cons_zero, List.set_cons_succ, List.getElem?_cons_zero, List.getElem?_cons_succ, List.length_cons, List.length_nil, if_true, and_self]
  rfl
end Y

/-! Yg: the law's own def: states that may be forgotten in part, loops over ranges. -/
namespace Y
open PySem PySem.Spec PyProof.Rows L2
mutual
def D.ren (r : Nat → Nat) : D → D
  | .tup l => .tup (rens r l)
  | .loc n => .loc (r n)
  | .non => .non
  | .bl b => .bl b
  | .int i => .int i
  | .str x => .str x
  | .cls n => .cls n
  | .scr l => .scr l
def rens (r : Nat → Nat) : List D → List D
  | [] => []
  | d :: l => d.ren r :: rens r l
end
mutual
def D.bd (n : Nat) : D → Bool
  | .tup l => bds n l
  | .loc k => decide (k < n)
  | _ => true
def bds (n : Nat) : List D → Bool
  | [] => true
  | d :: l => d.bd n && bds n l
end
def Cell.ren (r : Nat → Nat) : Cell → Cell
  | .lst l => .lst (rens r l)
  | .dct lk l => .dct lk (l.map fun p => (p.1.ren r, p.2.ren r))
  | .ins c l => .ins c (l.map fun o => o.map (D.ren r))
  | .dice => .dice
  | .exv c fs => .exv c (fs.map fun p => (p.1, p.2.ren r))
  | .raw l => .raw (l.map fun p => (p.1.ren r, p.2.ren r))
def Cell.bd (n : Nat) : Cell → Bool
  | .lst l => bds n l
  | .dct _ l => l.all fun p => p.1.bd n && p.2.bd n
  | .ins _ l => l.all fun o => match o with
    | some d => d.bd n
    | none => true
  | .dice => true
  | .exv _ fs => fs.all fun p => p.2.bd n
  | .raw l => l.all fun p => p.1.bd n && p.2.bd n
section
variable {G : Glo} {ρ ρ' : Rho} {H : Hp} {r : Nat → Nat} {n : Nat}
mutual
theorem RelD.unren (hr : ∀ j, j < n → ρ' j = ρ (r j)) : ∀ {d : D} {v : V}, d.bd n = true → RelD G ρ H (d.ren r) v → RelD G ρ' H d v
  | .non, v, _, h => by simpa only [D.ren, RelD] using h
  | .bl _, v, _, h => by simpa only [D.ren, RelD] using h
  | .int _, v, _, h => by simpa only [D.ren, RelD] using h
  | .str _, v, _, h => by simpa only [D.ren, RelD] using h
  | .cls _, v, _, h => by simpa only [D.ren, RelD] using h
  | .scr _, v, _, h => by simpa only [D.ren, RelD] using h
  | .loc k, v, b, h => by
    simp only [D.ren, RelD] at h ⊢
    simp only [D.bd, decide_eq_true_eq] at b
    rw [hr k b]
    exact h
  | .tup l, v, b, h => by
    simp only [D.ren, RelD] at h ⊢
    simp only [D.bd] at b
    obtain ⟨a, xs, e, hs, ht⟩ := h
    exact ⟨a, xs, e, hs, RelDs.unren hr b ht⟩
theorem RelDs.unren (hr : ∀ j, j < n → ρ' j = ρ (r j)) : ∀ {l : List D} {xs : List V}, bds n l = true → RelDs G ρ H (rens r l) xs → RelDs G ρ' H l xs
  | [], xs, _, h => by simpa only [rens, RelDs] using h
  | d :: l, xs, b, h => by
    simp only [rens, RelDs] at h ⊢
    simp only [bds, Bool.and_eq_true] at b
    obtain ⟨v, ys, e, h1, h2⟩ := h
    exact ⟨v, ys, e, RelD.unren hr b.1 h1, RelDs.unren hr b.2 h2⟩
end
theorem keyD_ren (d : D) : keyD (d.ren r) = keyD d := by cases d <;> simp only [D.ren, keyD]
theorem keysD_ren : ∀ l : List D, keysD (rens r l) = keysD l
  | [] => by simp only [rens]
  | d :: l => by simp only [rens, keysD, keyD_ren, keysD_ren l]
theorem keyT_ren (d : D) : keyT (d.ren r) = keyT d := by cases d <;> simp only [D.ren, keyT, keysD_ren]
theorem PairK.unren {κ : Type} {kf : D → Option κ} (hk : ∀ d : D, kf (d.ren r) = kf d) (hr : ∀ j, j < n → ρ' j = ρ (r j)) : ∀ {l : List (D × D)} {ys : List (κ × V)}, (l.all fun p => p.1.bd n && p.2.bd n) = true → PairK kf G ρ H (l.map fun p => (p.1.ren r, p.2.ren r)) ys → PairK kf G ρ' H l ys
  | [], ys, _, h => h
  | p :: l, ys, b, h => by
    rw [List.all_cons, Bool.and_eq_true, Bool.and_eq_true] at b
    obtain ⟨k, v, zs, e, h1, h2, h3⟩ := h
    exact ⟨k, v, zs, e, by rw [← hk]; exact h1, RelD.unren hr b.1.2 h2, PairK.unren hk hr b.2 h3⟩
theorem PairR.unren (hr : ∀ j, j < n → ρ' j = ρ (r j)) : ∀ {l : List (D × D)} {ys : List (V × V)}, (l.all fun p => p.1.bd n && p.2.bd n) = true → PairR G ρ H (l.map fun p => (p.1.ren r, p.2.ren r)) ys → PairR G ρ' H l ys
  | [], ys, _, h => h
  | p :: l, ys, b, h => by
    rw [List.all_cons, Bool.and_eq_true, Bool.and_eq_true] at b
    obtain ⟨k, v, zs, e, h1, h2, h3⟩ := h
    exact ⟨k, v, zs, e, RelD.unren hr b.1.1 h1, RelD.unren hr b.1.2 h2, PairR.unren hr b.2 h3⟩
theorem RelSl.unren (hr : ∀ j, j < n → ρ' j = ρ (r j)) {l : List (Option D)} {vs : List (Option V)} (b : ∀ (i : Nat) (d : D), l[i]? = some (some d) → d.bd n = true) (h : RelSl G ρ H (l.map fun o => o.map (D.ren r)) vs) : RelSl G ρ' H l vs := fun i d e => by
  obtain ⟨v, e1, q⟩ := h i (d.ren r) (by rw [List.getElem?_map, e]; rfl)
  exact ⟨v, e1, RelD.unren hr (b i d e) q⟩
theorem lookup_ren : ∀ {fs : List (Str × D)} {f : Str} {e : D}, fs.lookup f = some e → (fs.map fun p => (p.1, p.2.ren r)).lookup f = some (e.ren r) ∧ ∃ k, (k, e) ∈ fs
  | [], f, e, h => by cases h
  | p :: fs, f, e, h => by
    obtain ⟨a, b⟩ := p
    by_cases hf : f = a
    · subst hf
      have e2 : b = e := by simpa [List.lookup] using h
      subst e2
      exact ⟨by simp [List.lookup], f, List.mem_cons_self ..⟩
    · have hf' : (f == a) = false := by simpa using hf
      have h' : fs.lookup f = some e := by simpa [List.lookup, hf'] using h
      obtain ⟨q1, k, q2⟩ := lookup_ren h'
      exact ⟨by simpa [List.lookup, hf'] using q1, k, List.mem_cons_of_mem _ q2⟩
theorem CellOk.unren (hr : ∀ j, j < n → ρ' j = ρ (r j)) {a : Addr} {c : Cell} (b : c.bd n = true) (h : CellOk G ρ H a (c.ren r)) : CellOk G ρ' H a c := by
  cases c with
  | lst l =>
    obtain ⟨xs, h1, h2⟩ := h
    exact ⟨xs, h1, RelDs.unren hr b h2⟩
  | raw l =>
    obtain ⟨o, es, ep, kvs, h, h1, h2, h3, h4, h5⟩ := h
    exact ⟨o, es, ep, kvs, h, h1, h2, h3, h4, PairR.unren hr b h5⟩
  | dct lk l =>
    rcases h with ⟨kvs, h1, h2⟩ | ⟨hne, kvs, h1, h2⟩
    · exact .inl ⟨kvs, h1, PairK.unren keyD_ren hr b h2⟩
    · exact .inr ⟨fun z => hne (by rw [z]; rfl), kvs, h1, PairK.unren keyT_ren hr b h2⟩
  | ins k l =>
    obtain ⟨C, dx, vs, e, h1, h2⟩ := h
    refine ⟨C, dx, vs, e, h1, RelSl.unren hr (fun i d e => ?_) h2⟩
    exact List.all_eq_true.mp b (some d) (List.mem_of_getElem? e)
  | dice => exact h
  | exv k fs =>
    obtain ⟨C, d, e, h1, h2⟩ := h
    refine ⟨C, d, e, h1, ?_⟩
    rcases h2 with ⟨z1, z2⟩ | ⟨dx, gs, e1, h3, h4⟩
    · refine .inl ⟨z1, ?_⟩
      cases fs with
      | nil => rfl
      | cons p q => cases z2
    · refine .inr ⟨dx, gs, e1, h3, fun f x q => ?_⟩
      obtain ⟨q1, k, q2⟩ := lookup_ren (r := r) q
      obtain ⟨v, q3, q4⟩ := h4 f _ q1
      exact ⟨v, q3, RelD.unren hr (List.all_eq_true.mp b _ q2) q4⟩
end
/-- from (sd, S) less is known: (sd', S') -/
def Weak (sd : SD) (S : Sto) (sd' : SD) (S' : Sto) : Prop := ∀ (G : Glo) (ρ : Rho) (H : Hp) (σ : L2.St), RelSt G ρ H sd σ → Rep G ρ S H → ∃ ρ', RelSt G ρ' H sd' σ ∧ Rep G ρ' S' H
theorem Weak.refl {sd : SD} {S : Sto} : Weak sd S sd S := fun G ρ H σ a b => ⟨ρ, a, b⟩
theorem Weak.trans {sd sd1 sd2 : SD} {S S1 S2 : Sto} (a : Weak sd S sd1 S1) (b : Weak sd1 S1 sd2 S2) : Weak sd S sd2 S2 := fun G ρ H σ h1 h2 =>
  let ⟨ρ1, h3, h4⟩ := a G ρ H σ h1 h2
  b G ρ1 H σ h3 h4
theorem Weak.of {sd sd' : SD} {S S' : Sto} (r : Nat → Nat) (hl : sd'.length = sd.length) (hs : ∀ (i : Nat) (d : D), sd'[i]? = some (some d) → d.bd S'.n = true ∧ sd[i]? = some (some (d.ren r))) (hc : ∀ j c, S'.get j = some c → c.bd S'.n = true ∧ S.get (r j) = some (c.ren r))
    (hi : ∀ i j, i < S'.n → j < S'.n → r i = r j → i = j) : Weak sd S sd' S' := fun G ρ H σ hσ hr => by
  have e : ∀ j, j < S'.n → (fun j => if j < S'.n then ρ (r j) else none : Rho) j = ρ (r j) := fun j hj => if_pos hj
  refine ⟨fun j => if j < S'.n then ρ (r j) else none, ⟨by rw [hl]; exact hσ.1, fun i d q => ?_⟩, ⟨fun j c q => ?_, fun i j a q1 q2 => ?_, fun i h => if_neg (Nat.not_lt.mpr h), fun i a q => ?_, fun p hp => (hr.tab p hp).mono (fun _ z => z) fun c e1 e2 => ⟨e1, fun i z => ?_⟩⟩⟩
  · obtain ⟨b, q1⟩ := hs i d q
    obtain ⟨v, q2, q3⟩ := hσ.2 i _ q1
    exact ⟨v, q2, RelD.unren e b q3⟩
  · have hj := Sto.get_lt q
    obtain ⟨q2, q3⟩ := hc j c q
    obtain ⟨a, q4, q5⟩ := hr.cell _ _ q3
    exact ⟨a, (e j hj).trans q4, CellOk.unren e q2 q5⟩
  · have h1 : i < S'.n := by
      by_cases z : i < S'.n
      · exact z
      · simp only [if_neg z] at q1
        cases q1
    have h2 : j < S'.n := by
      by_cases z : j < S'.n
      · exact z
      · simp only [if_neg z] at q2
        cases q2
    simp only [if_pos h1] at q1
    simp only [if_pos h2] at q2
    exact hi i j h1 h2 (hr.inj _ _ a q1 q2)
  · have h1 : i < S'.n := by
      by_cases z : i < S'.n
      · exact z
      · simp only [if_neg z] at q
        cases q
    simp only [if_pos h1] at q
    exact hr.dom _ _ q
  · by_cases h1 : i < S'.n
    · simp only [if_pos h1] at z
      exact e2 _ z
    · simp only [if_neg h1] at z
      cases z
mutual
theorem D.ren_id : ∀ d : D, d.ren id = d
  | .non => rfl
  | .bl _ => rfl
  | .int _ => rfl
  | .str _ => rfl
  | .cls _ => rfl
  | .scr _ => rfl
  | .loc _ => rfl
  | .tup l => by simp only [D.ren, rens_id l]
theorem rens_id : ∀ l : List D, rens id l = l
  | [] => rfl
  | d :: l => by simp only [rens, D.ren_id d, rens_id l]
end
theorem Cell.ren_id (c : Cell) : c.ren id = c := by
  cases c with
  | lst l => simp only [Cell.ren, rens_id]
  | dct lk l => simp [Cell.ren, D.ren_id]
  | raw l => simp [Cell.ren, D.ren_id]
  | ins c l =>
    simp only [Cell.ren]
    congr 1
    refine (List.map_congr_left (g := id) fun o _ => ?_).trans (List.map_id l)
    cases o <;> simp [D.ren_id]
  | dice => rfl
  | exv c fs => simp [Cell.ren, D.ren_id]
/-- names and younger cells forgotten -/
theorem Weak.cut {sd sd' : SD} {S S' : Sto} (hl : sd'.length = sd.length) (hs : ∀ (i : Nat) (d : D), sd'[i]? = some (some d) → d.bd S'.n = true ∧ sd[i]? = some (some d)) (hc : ∀ j c, S'.get j = some c → c.bd S'.n = true ∧ S.get j = some c) : Weak sd S sd' S' :=
  .of id hl (fun i d q => ⟨(hs i d q).1, by rw [D.ren_id]; exact (hs i d q).2⟩) (fun j c q => ⟨(hc j c q).1, by rw [Cell.ren_id]; exact (hc j c q).2⟩) (fun i j _ _ e => e)
/-- the same, seen by one look at the names -/
def sdIn : SD → SD → Nat → Prop
  | [], [], _ => True
  | some d :: r, o :: r', n => d.bd n = true ∧ o = some d ∧ sdIn r r' n
  | none :: r, _ :: r', n => sdIn r r' n
  | _, _, _ => False
theorem sdIn_ok : ∀ {sd' sd : SD} {n : Nat}, sdIn sd' sd n → sd'.length = sd.length ∧ ∀ (i : Nat) (d : D), sd'[i]? = some (some d) → d.bd n = true ∧ sd[i]? = some (some d)
  | [], [], n, _ => ⟨rfl, fun i d e => by simp at e⟩
  | some d :: r, o :: r', n, h => by
    obtain ⟨h1, h2, h3⟩ := h
    obtain ⟨k1, k2⟩ := sdIn_ok h3
    refine ⟨by simp [k1], fun i e q => ?_⟩
    cases i with
    | zero =>
      simp only [List.getElem?_cons_zero, Option.some.injEq] at q ⊢
      subst q
      exact ⟨h1, h2⟩
    | succ i =>
      simp only [List.getElem?_cons_succ] at q ⊢
      exact k2 i e q
  | none :: r, o :: r', n, h => by
    obtain ⟨k1, k2⟩ := sdIn_ok (sd' := r) (sd := r') h
    refine ⟨by simp [k1], fun i e q => ?_⟩
    cases i with
    | zero =>
      simp only [List.getElem?_cons_zero, Option.some.injEq] at q
      cases q
    | succ i =>
      simp only [List.getElem?_cons_succ] at q ⊢
      exact k2 i e q
  | [], _ :: _, n, h => h.elim
  | some _ :: _, [], n, h => h.elim
  | none :: _, [], n, h => h.elim
theorem Weak.look {sd sd' : SD} {S S' : Sto} (h : sdIn sd' sd S'.n) (hc : ∀ j c, S'.get j = some c → c.bd S'.n = true ∧ S.get j = some c) : Weak sd S sd' S' := .cut (sdIn_ok h).1 (sdIn_ok h).2 hc
theorem Weak.look0 {sd sd' : SD} {S : Sto} (h : sdIn sd' sd 0) : Weak sd S sd' ⟨0, []⟩ := .look h fun j c q => by simp [Sto.get] at q
/-- one cell, the dice, is kept -/
theorem Weak.dice {sd sd' : SD} {S : Sto} (h : sdIn sd' sd 1) (hd : S.get 0 = some .dice) : Weak sd S sd' ⟨1, [.dice]⟩ := .look h fun j c q => by
  have hj := Sto.get_lt q
  have hj : j < 1 := hj
  have e : j = 0 := by omega
  subst e
  have e2 : c = .dice := by simpa [Sto.get] using q.symm
  subst e2
  exact ⟨rfl, hd⟩

/-! ### all ends -/
inductive AllR {α : Type} : Res α → (α → Sto → Prop) → Prop
  | ok {a : α} {S : Sto} {P : α → Sto → Prop} (h : P a S) : AllR (.ok a S) P
  | pick {t : Nat} {f : Nat → Res α} {P : α → Sto → Prop} (h : ∀ k, k < t → AllR (f k) P) : AllR (.pick t f) P
theorem AllR.mono {α : Type} {r : Res α} {P Q : α → Sto → Prop} (h : AllR r P) (f : ∀ a S, P a S → Q a S) : AllR r Q := by
  induction h with
  | ok h => exact .ok (f _ _ h)
  | pick h ih => exact .pick fun k hk => ih k hk f
theorem AllR.bind {α β : Type} {r : Res α} {k : α → Sto → Res β} {P : β → Sto → Prop} (h : AllR r fun a S => AllR (k a S) P) : AllR (r.bind k) P := by
  generalize hq : (fun a S => AllR (k a S) P) = q at h
  induction h with
  | ok h => subst hq; exact h
  | pick h ih => exact .pick fun j hj => ih j hj hq
theorem AllR.aft {G : Glo} {α β : Type} {RL : Rho → Hp → α → β → Prop} {ρ : Rho} {H : Hp} {r : Res α} {Q : β → Hp → Prop} {W : XK} {P : α → Sto → Prop} (h : AllR r P) (f : ∀ a S, P a S → ∀ ρ' H' v, Le G ρ H ρ' H' → Rep G ρ' S H' → RL ρ' H' a v → Q v H') : Aft G RL ρ H r Q W := by
  induction h with
  | ok h => exact f _ _ h
  | pick h ih => exact fun k hk => ih k hk f
/-- by one look at all ends -/
def endsR {α : Type} (p : α → Sto → Bool) : Res α → Bool
  | .ok a S => p a S
  | .pick t f => (List.range t).all fun k => endsR p (f k)
  | _ => false
theorem AllR.look {α : Type} {p : α → Sto → Bool} : ∀ {r : Res α}, endsR p r = true → AllR r fun a S => p a S = true
  | .ok a S, h => .ok h
  | .pick t f, h => .pick fun k hk => AllR.look (List.all_eq_true.mp h k (List.mem_range.mpr hk))
  | .exc _ _, h => by simp only [endsR] at h; cases h
  | .stuck, h => by simp only [endsR] at h; cases h
inductive AllS : SRes → (SD → Sto → Prop) → (D → Sto → Prop) → Prop
  | nx {sd : SD} {S : Sto} {N : SD → Sto → Prop} {T : D → Sto → Prop} (h : N sd S) : AllS (.nx sd S) N T
  | rt {d : D} {S : Sto} {N : SD → Sto → Prop} {T : D → Sto → Prop} (h : T d S) : AllS (.rt d S) N T
  | pick {t : Nat} {f : Nat → SRes} {N : SD → Sto → Prop} {T : D → Sto → Prop} (h : ∀ k, k < t → AllS (f k) N T) : AllS (.pick t f) N T
theorem AllS.aft {G : Glo} {ρ : Rho} {H : Hp} {r : SRes} {E : Ends} {W : WX} {N : SD → Sto → Prop} {T : D → Sto → Prop} (h : AllS r N T) (f : ∀ sd S, N sd S → ∀ ρ' H' σ', Rep G ρ' S H' → RelSt G ρ' H' sd σ' → E.nx σ' H') (g : ∀ d S, T d S → ∀ ρ' H' v, Rep G ρ' S H' → RelD G ρ' H' d v → E.rt v H') : AftS G ρ H r E W := by
  induction h with
  | nx h => exact fun ρ' H' σ' _ a b => f _ _ h ρ' H' σ' a b
  | rt h => exact fun ρ' H' v _ a b => g _ _ h ρ' H' v a b
  | pick h ih => exact fun k hk => ih k hk f g
theorem AllS.mono {r : SRes} {N N' : SD → Sto → Prop} {T T' : D → Sto → Prop} (h : AllS r N T) (f : ∀ sd S, N sd S → N' sd S) (g : ∀ d S, T d S → T' d S) : AllS r N' T' := by
  induction h with
  | nx h => exact .nx (f _ _ h)
  | rt h => exact .rt (g _ _ h)
  | pick h ih => exact .pick fun k hk => ih k hk f g
theorem AllS.bind {α : Type} {r : Res α} {sd : SD} {k : α → Sto → SRes} {N : SD → Sto → Prop} {T : D → Sto → Prop} (h : AllR r fun a S => AllS (k a S) N T) : AllS (bindS r sd k) N T := by
  generalize hq : (fun a S => AllS (k a S) N T) = q at h
  induction h with
  | ok h => subst hq; exact h
  | pick h ih => exact .pick fun j hj => ih j hj hq
theorem AllS.andThen {r : SRes} {f : MS} {N : SD → Sto → Prop} {T : D → Sto → Prop} (h : AllS r (fun sd S => AllS (f sd S) N T) T) : AllS (r.andThen f) N T := by
  generalize hq : (fun sd S => AllS (f sd S) N T) = q at h
  induction h with
  | nx h => subst hq; exact h
  | rt h => exact .rt h
  | pick h ih => exact .pick fun j hj => ih j hj hq
theorem AllS.turn {r : SRes} {f : MS} {N : SD → Sto → Prop} {T : D → Sto → Prop} (h : AllS r (fun sd S => AllS (f sd S) N T) T) : AllS (r.turn f) N T := by
  generalize hq : (fun sd S => AllS (f sd S) N T) = q at h
  induction h with
  | nx h => subst hq; exact h
  | rt h => exact .rt h
  | pick h ih => exact .pick fun j hj => ih j hj hq
theorem AllS.res {r : SRes} {P : D → Sto → Prop} (h : AllS r (fun _ S => P .non S) P) : AllR r.res P := by
  generalize hq : (fun (_ : SD) S => P .non S) = q at h
  induction h with
  | nx h => subst hq; exact .ok h
  | rt h => exact .ok h
  | pick h ih => exact .pick fun j hj => ih j hj hq
theorem AllR.mk {n np : Nat} {b : MS} {ds : List D} {S : Sto} {P : D → Sto → Prop} (hl : ds.length = np) (h : AllS (b (stD n ds) S) (fun _ S => P .non S) P) : AllR (mkF n np b ds S) P := by
  unfold mkF
  rw [if_pos hl]
  exact h.res

/-! ### the top's judgements -/
def tl (G : Glo) (sd : SD) (S : Sto) : L2.St → Hp → Prop := fun σ H => ∃ ρ, RelSt G ρ H sd σ ∧ Rep G ρ S H
theorem tl.weak {G : Glo} {sd sd' : SD} {S S' : Sto} {σ : L2.St} {H : Hp} (h : tl G sd S σ H) (w : Weak sd S sd' S') : tl G sd' S' σ H :=
  let ⟨ρ, a, b⟩ := h
  w G ρ H σ a b
theorem tl.set {G : Glo} {sd : SD} {S : Sto} {σ : L2.St} {H : Hp} {i : Nat} {k : Int} (h : tl G sd S σ H) : tl G (sd.set i (some (.int k))) S (σ.set i (some (.int k))) H :=
  let ⟨ρ, a, b⟩ := h
  ⟨ρ, a.set rel_int i, b⟩
section
variable {G : Glo} {X : Cx}
/-- a plain statement -/
theorem topS {st : Stmt} {m : MS} {W : WX} (h : PSm G X st m) (ok : XOk G X W) {sd sd' : SD} {S S' : Sto} (a : AllS (m sd S) (fun sd1 S1 => Weak sd1 S1 sd' S') fun _ _ => False) : PS X st (fun E σ H => tl G sd S σ H ∧ ∀ σ' H', tl G sd' S' σ' H' → E.nx σ' H') :=
  PS_imp (h W ok) fun E σ H ⟨⟨ρ, hs, hr⟩, k⟩ => ⟨sd, S, ρ, hs, hr, a.aft (fun sd1 S1 w ρ' H' σ' r1 r2 => k σ' H' (tl.weak ⟨ρ', r2, r1⟩ w)) fun d S1 z => z.elim⟩
theorem topSx {st : Stmt} {m : MS} {W : WX} (h : PSm G X st m) (ok : XOk G X W) {sd : Nat → SD} {sd' : SD} {S S' : Sto} {n : Nat} (a : ∀ i, i < n → AllS (m (sd i) S) (fun sd1 S1 => Weak sd1 S1 sd' S') fun _ _ => False) : PS X st (fun E σ H => (∃ i, i < n ∧ tl G (sd i) S σ H) ∧ ∀ σ' H', tl G sd' S' σ' H' → E.nx σ' H') :=
  PS_imp (h W ok) fun E σ H ⟨⟨i, hi, ρ, hs, hr⟩, k⟩ => ⟨sd i, S, ρ, hs, hr, (a i hi).aft (fun sd1 S1 w ρ' H' σ' r1 r2 => k σ' H' (tl.weak ⟨ρ', r2, r1⟩ w)) fun d S1 z => z.elim⟩
/-- the answer -/
theorem topR {e : Expr} {m : ME} {W : WX} {pos : Pos} (h : PEm G X e m) (ok : XOk G X W) {sd : SD} {S : Sto} (a : AllR (m sd S) fun d _ => d = .bl true) : PS X (.Return (some e) pos) (fun E σ H => tl G sd S σ H ∧ ∀ H', E.rt (.bl true) H') :=
  PS_imp (ps_ret (h W ok)) fun E σ H ⟨⟨ρ, hs, hr⟩, k⟩ => ⟨sd, S, ρ, hs, hr, a.aft fun d S1 e ρ' H' v _ _ rd => by
    subst e
    simp only [RelD] at rd
    subst rd
    exact k H'⟩
/-- a test that is never so -/
def Never (G : Glo) (X : Cx) (e : Expr) (sd : SD) (S : Sto) : Prop := ∃ T, PT X e T ∧ ∀ σ H Q, tl G sd S σ H → (∀ H1, tl G sd S σ H1 → Q false H1) → T σ H Q
def NeverW (G : Glo) (X : Cx) (e : Expr) (sd : SD) (S : Sto) : Prop := ∃ T, PW X e T ∧ ∀ σ H Q, tl G sd S σ H → (∀ H1, tl G sd S σ H1 → Q false H1) → T σ H Q
theorem never1 {e : Expr} {m : MT} {W : WX} (h : PTm G X e m) (ok : XOk G X W) {sd : SD} {S : Sto} (a : AllR (m sd S) fun b S1 => b = false ∧ Weak sd S1 sd S) : Never G X e sd S :=
  ⟨_, h W ok, fun σ H Q ⟨ρ, hs, hr⟩ k => ⟨sd, S, ρ, hs, hr, a.aft fun b S1 ⟨e, w⟩ ρ' H' v le r1 rb => by
    have e2 : b = v := rb
    subst e2
    subst e
    exact k H' (tl.weak ⟨ρ', hs.mono le, r1⟩ w)⟩⟩
theorem neverW1 {e : Expr} {pos : Pos} {sd : SD} {S : Sto} (h : Never G X e sd S) : NeverW G X (.BoolOp .Or [e] pos) sd S :=
  let ⟨T, h1, h2⟩ := h
  ⟨T, pw_or1 h1, h2⟩
theorem neverWc {e f : Expr} {es : List Expr} {pos : Pos} {sd : SD} {S : Sto} (h : Never G X e sd S) (h' : NeverW G X (.BoolOp .Or (f :: es) pos) sd S) : NeverW G X (.BoolOp .Or (e :: f :: es) pos) sd S :=
  let ⟨T, h1, h2⟩ := h
  let ⟨T', h3, h4⟩ := h'
  ⟨_, pw_or h1 h3, fun σ H Q ht k => h2 σ H _ ht fun H1 ht1 => h4 σ H1 Q ht1 k⟩
theorem neverW {e : Expr} {sd : SD} {S : Sto} (h : NeverW G X e sd S) : Never G X e sd S :=
  let ⟨T, h1, h2⟩ := h
  ⟨T, h1.pt, h2⟩
/-- if never: .. -/
theorem topI {c : Expr} {a : List Stmt} {pos : Pos} {sd : SD} {S : Sto} (h : Never G X c sd S) : PS X (.If c a [] pos) (fun E σ H => tl G sd S σ H ∧ ∀ σ' H', tl G sd S σ' H' → E.nx σ' H') := by
  obtain ⟨T, h1, h2⟩ := h
  have no : PSs X a (fun _ _ _ => False) := ⟨fun pins s σ H D I h => h.elim⟩
  exact PS_imp (ps_if h1 no pss_nil) fun E σ H ⟨ht, k⟩ => h2 σ H _ ht fun H1 ht1 => k σ H1 ht1
/-- a row of statements, the state between them told -/
theorem topC {st : Stmt} {rest : List Stmt} {sd sd' : SD} {S S' : Sto} {t : TS} (h : PS X st (fun E σ H => tl G sd S σ H ∧ ∀ σ' H', tl G sd' S' σ' H' → E.nx σ' H')) (h' : PSs X rest t) (k : ∀ E σ H, tl G sd' S' σ H → t E σ H → True) :
    PSs X (st :: rest) (fun E σ H => tl G sd S σ H ∧ ∀ σ' H', tl G sd' S' σ' H' → t E σ' H') := PSs_imp (pss_cons h h') fun E σ H ⟨a, b⟩ => ⟨a, b⟩
/-- for x in range(a): body -/
theorem topF {x : Str} {i : Nat} {a : Expr} {body : List Stmt} {ma : MA} {W : WX} {p p1 p2 pos : Pos} {tb : TS} {sd sd' : SD} {S S' : Sto} {j : Int} (ok : XOk G X W) (hc : X.calm = true) (hg : Gl X "range") (hm : X.mg "range" = none) (ha : PAm G X [a] ma) (hgt : PG X (.Name x p1) (gOf X.K (.nm i))) (hb : PSs X body tb)
    (e : ma sd S = .ok [.int j] S) (hj : -4611686018427387904 ≤ j ∧ j < 4611686018427387904) (w : Weak sd S sd' S') (hs : starEach [a] X.env = [(false, eval a X.env)] := by rfl) (hf : ∀ x, foldedSetIterable (.Call (.Name "range" p) [a] [] p2) X.env x = pure x := by intro _; rfl) :
    PS X (.For (.Name x p1) (.Call (.Name "range" p) [a] [] p2) body [] pos) (fun E σ H => tl G sd S σ H ∧ (∀ k : Nat, k < j.toNat → ∀ σ' H', tl G (sd'.set i (some (.int k))) S' σ' H' → tb { E with nx := tl G sd' S', ct := tl G sd' S', bk := E.nx } σ' H') ∧ ∀ σ' H', tl G sd' S' σ' H' → E.nx σ' H') := by
  refine PS_imp (ps_for ok.own hc (pi_range1 hg hm (ha W ok) hs) hgt hb hf) fun E σ H ⟨⟨ρ, hs, hr⟩, hbody, hend⟩ => ?_
  refine ⟨sd, S, ρ, hs, hr, ?_⟩
  rw [e]
  intro ρ1 H1 xs le r1 rd
  simp only [RelDs, RelD] at rd
  obtain ⟨_, _, rfl, rfl, rfl⟩ := rd
  refine ⟨j, rfl, hj.1, hj.2, ?_⟩
  have t1 : tl G sd' S' σ H1 := tl.weak ⟨ρ1, hs.mono le, r1⟩ w
  refine ⟨fun k m σ H => k + m = j.toNat ∧ tl G sd' S' σ H, ⟨j.toNat, by omega, t1⟩, fun k m σ H ⟨hk, ht⟩ => ?_⟩
  obtain ⟨ρ2, hs2, hr2⟩ := id ht
  have it := it_rng (G := G) (ρ := ρ2) (H := H) (lo := 0) (n := j.toNat) k ρ2 H S' Le.refl hr2
  simp only [itNext] at it
  by_cases hlt : k < j.toNat
  · rw [if_pos hlt] at it
    obtain ⟨go, yl⟩ := it
    refine .inr ⟨go, tl G sd' S', fun σ' H' q => ⟨m - 1, by omega, by omega, q⟩, fun v H2 hy => ?_⟩
    obtain ⟨l2, r2, rd⟩ := yl v H2 hy
    refine gOf_ok (ρ := ρ2) (sd := sd') (sd' := sd'.set i (some (.int (0 + k * 1)))) ok.kk rd (hs2.mono l2) rfl fun σ' s' _ => ?_
    refine hbody k hlt σ' H2 ⟨ρ2, ?_, r2⟩
    have e2 : (0 + (k : Int) * 1) = k := by omega
    rw [e2] at s'
    exact s'
  · rw [if_neg hlt] at it
    exact .inl ⟨it, hend σ H ht⟩
end
theorem fn_top {G : Glo} {P : Program} {w : World} {mg : Str → Option Value} {base : Heap} {x qual : Str} {st : Stmt} {f : Addr} {fd : FuncData} {N ps : List Str} {k nn : Nat} (F : Fun G.K x qual st f fd) (Sc : FnScope N ps (defScope st)) (hp : ps.length = 1) (hb : Binds G.K fd ps [])
    (body : ∀ (cdv : Value) (A : Around) (outer : List Env) (s : Shared) (H : Hp) (W : WX) (ns : List Int), ns.length ≤ nn → Room k (A.deeper (envOfC qual (defScope st) s.heap.objs.size f cdv)) → (A.deeper (envOfC qual (defScope st) s.heap.objs.size f cdv)).guards = some [] →
      XOk G (cxOf (L2.CX P w) P w G.K mg base N qual (defScope st) f cdv A outer s H (fun _ _ _ => False)) W →
      ∃ t : TS, PSs (cxOf (L2.CX P w) P w G.K mg base N qual (defScope st) f cdv A outer s H (fun _ _ _ => False)) (defBody st) t ∧ ∀ (E : Ends) σ H, tl G (some (.scr ns) :: List.replicate (N.length - 1) none) ⟨0, []⟩ σ H → (∀ H', E.rt (.bl true) H') → t E σ H) : FnT G P w mg base (k + 1) nn f := by
  intro A outer s H us vs ns ρ hr hg e0 r hn rd rp
  obtain ⟨oc, od, kV, doc, pm, an, cdv, ct, osl, rfl, lk, hcd⟩ := F.ex
  have hlen : vs.length = ps.length := by rw [← rd.length, hp]; rfl
  have hus : (us ++ []).length = ps.length := by rw [List.append_nil, ← r.length, hlen]
  have hbb := hb s us (e0.mod.kin.keeps fun b o e => (e0.bs b o e).1) hus
  rw [List.append_nil] at hbb
  refine LamX.run_ofS (N := N) lk hcd Sc hr e0 hbb r hlen fun hr2 => ?_
  obtain ⟨t, h1, h2⟩ := body cdv A outer s H (fun cls d _ H => False) ns hn hr2 hg ⟨takes_of rfl rfl rfl rfl, passes_of rfl, rfl⟩
  exact ⟨t, h1, h2 _ _ _ ⟨ρ, stD_rel (N := N) rd, rp⟩ fun _ => rfl⟩
end Y

/-! Yh: stores that grow, comprehensions whose parts change nothing. -/
namespace Y
open PySem PySem.Spec PyProof.Rows L2
def Ext (S S' : Sto) : Prop := ∀ j c, S.get j = some c → S'.get j = some c
theorem Ext.refl {S : Sto} : Ext S S := fun _ _ h => h
theorem Ext.trans {S S1 S2 : Sto} (a : Ext S S1) (b : Ext S1 S2) : Ext S S2 := fun j c h => b j c (a j c h)
theorem Ext.new {S : Sto} {c : Cell} : Ext S (S.new c) := fun j c' h => by
  rw [Sto.get_new]
  have := Sto.get_lt h
  rw [if_neg (by omega)]
  exact h
theorem Sto.get_new_self {S : Sto} {c : Cell} : (S.new c).get S.n = some c := by
  rw [Sto.get_new, if_pos rfl]
theorem Ext.newset {S : Sto} {c c' : Cell} : Ext S ((S.new c).set S.n c') := fun j x h => by
  have := Sto.get_lt h
  rw [Sto.get_set_ne (by omega)]
  exact Ext.new j x h
theorem lc_gen {l : List D} {q : MT} {e : ME} {sd : SD} {dl : Nat} {p : D → Bool} {f : D → D} (hq : ∀ d ∈ l, ∀ S, q (sd.set 1 (some d)) S = .ok (p d) S) (he : ∀ d ∈ l, ∀ S, e (sd.set 1 (some d)) S = .ok (f d) S) : ∀ (n i : Nat) (acc : List D) (S : Sto), S.get dl = some (.lst acc) → acc.length + l.length ≤ 16777216 + i → i ≤ l.length → l.length < n + i →
    lcLoop (.tup l) (.nm 1) q e sd dl n i S = .ok (.loc dl) (S.set dl (.lst (acc ++ ((l.drop i).filter p).map f)))
  | 0, i, acc, S, hd, hl, hi, hn => by omega
  | n + 1, i, acc, S, hd, hl, hi, hn => by
    unfold lcLoop
    by_cases h : i < l.length
    · have e1 : l[i]? = some l[i] := List.getElem?_eq_getElem h
      have hm : l[i] ∈ l := List.getElem_mem h
      have dr : l.drop i = l[i] :: l.drop (i + 1) := List.drop_eq_getElem_cons h
      simp only [itNext, e1, asg, hq _ hm S, Res.bindX]
      cases hp : p l[i] with
      | true =>
        have e2 := he _ hm S
        have g2 : (S.set dl (.lst (acc ++ [f l[i]]))).get dl = some (.lst (acc ++ [f l[i]])) := Sto.get_set_self hd
        have ih := lc_gen hq he n (i + 1) (acc ++ [f l[i]]) (S.set dl (.lst (acc ++ [f l[i]]))) g2 (by simp; omega) h (by omega)
        simp only [e2, Res.bindX, hd, if_true]
        rw [if_pos (by omega), ih, Sto.set_set, dr, List.filter_cons, hp]
        simp
      | false =>
        have ih := lc_gen hq he n (i + 1) acc S hd (by omega) h (by omega)
        simp only [Bool.false_eq_true, if_false]
        rw [ih, dr, List.filter_cons, hp]
        simp
    · have e1 : l[i]? = none := List.getElem?_eq_none (by omega)
      have dr : l.drop i = [] := List.drop_eq_nil_of_le (by omega)
      simp only [itNext, e1]
      rw [dr]
      simp only [List.filter_nil, List.map_nil, List.append_nil]
      rw [Sto.set_get hd]
theorem fRepr_ok {S : Sto} {d : D} {p : PyData} (h1 : isDs0 d S = none) (h2 : isDct0 d S = false) (h3 : toPy S 12 d = some p) (h4 : p.showable = true) (h5 : p.shown.length ≤ 16777216) (h6 : p.depth ≤ 60) (h7 : p.hasDict = false) : fReprD [d] S = .ok (.str p.shown.cps.toList) S := by
  simp only [fReprD, h1, fRepr, h2, h3, h4, h6, h7, Bool.true_and, Bool.false_eq_true, if_false, decide_true, Bool.and_true, Bool.not_false, decide_eq_true_eq, if_pos h5]
theorem eq_str {S : Sto} {x : List Nat} (h : PyData.strOk ⟨x.toArray⟩ = true) : eqDat S (.str x) (.str x) = some true := by
  have e : toPy S 12 (.str x) = some (.str ⟨x.toArray⟩) := rfl
  have sh : SeqAt.shaped (.str ⟨x.toArray⟩) = true := by
    unfold SeqAt.shaped
    rw [Bool.and_eq_true]
    exact ⟨h, by rw [decide_eq_true_eq]; simp [PyData.depth]⟩
  have ev : PyData.eqv (.str ⟨x.toArray⟩) (.str ⟨x.toArray⟩) = true := by
    show ((⟨x.toArray⟩ : Str) == ⟨x.toArray⟩) = true
    exact beq_self_eq_true _
  unfold eqDat
  rw [e]
  simp only [sh, ev, Bool.and_self, if_true]
theorem cNe_str {S : Sto} {x : List Nat} (h : PyData.strOk ⟨x.toArray⟩ = true) : cNe (.str x) (.str x) S = .ok (.bl false) S := by
  unfold cNe
  rw [eq_str h]
  rfl
theorem cEq_str {S : Sto} {x : List Nat} (h : PyData.strOk ⟨x.toArray⟩ = true) : cEq (.str x) (.str x) S = .ok (.bl true) S := by
  unfold cEq
  rw [eq_str h]
section
variable {f : MF} {g : D → D → Sto → Res D} {h : D → Sto → Res D} {m a b : ME} {r : MA} {t : MT} {s s' : MS} {sd sd1 : SD} {S S1 S2 : Sto} {x y : D} {xs : List D} {i : Nat}
theorem mCall_ok (e : r sd S = .ok xs S1) : mCall f r sd S = f xs S1 := by unfold mCall; rw [e]; rfl
theorem mCons_ok (e : m sd S = .ok x S1) (e2 : r sd S1 = .ok xs S2) : mCons m r sd S = .ok (x :: xs) S2 := by unfold mCons; rw [e]; show (r sd S1).bind _ = _; rw [e2]; rfl
theorem mNil_ok : mNil sd S = .ok [] S := rfl
theorem mCall1 (e : m sd S = .ok x S1) : mCall f (mCons m mNil) sd S = f [x] S1 := mCall_ok (mCons_ok e mNil_ok)
theorem mLst_ok (e : r sd S = .ok xs S1) (hl : xs.length ≤ 16777216) : mLst r sd S = .ok (.loc S1.n) (S1.new (.lst xs)) := by unfold mLst; rw [e]; show (if _ then _ else _) = _; rw [if_pos hl]
theorem mTup_ok (e : r sd S = .ok xs S1) (hl : xs.length ≤ 16777216) : mTup r sd S = .ok (.tup xs) S1 := by unfold mTup; rw [e]; show (if _ then _ else _) = _; rw [if_pos hl]
theorem mAndV_t (e : a sd S = .ok (.bl true) S1) : mAndV a b sd S = b sd S1 := by unfold mAndV; rw [e]; rfl
theorem mAndV_f (e : a sd S = .ok (.bl false) S1) : mAndV a b sd S = .ok (.bl false) S1 := by unfold mAndV; rw [e]; rfl
theorem mBin_ok (e : a sd S = .ok x S1) (e2 : b sd S1 = .ok y S2) : mBin g a b sd S = g x y S2 := by unfold mBin; rw [e]; show (b sd S1).bind _ = _; rw [e2]; rfl
theorem mUn_ok (e : m sd S = .ok x S1) : mUn h m sd S = h x S1 := by unfold mUn; rw [e]; rfl
theorem mTst_ok {k : Bool} (e : mBin g a b sd S = .ok (.bl k) S1) : mTst g a b sd S = .ok k S1 := by unfold mTst; rw [e]; rfl
theorem sRet_ok (e : m sd S = .ok x S1) : sRet m sd S = .rt x S1 := by unfold sRet; rw [e]; rfl
theorem sSet_ok (e : m sd S = .ok x S1) : sSet i m sd S = .nx (sd.set i (some x)) S1 := by unfold sSet; rw [e]; rfl
theorem sIf_t (e : t sd S = .ok true S1) : sIf t s s' sd S = s sd S1 := by unfold sIf; rw [e]; rfl
theorem sIf_f (e : t sd S = .ok false S1) : sIf t s s' sd S = s' sd S1 := by unfold sIf; rw [e]; rfl
theorem sSeq_nx (e : s sd S = .nx sd1 S1) : sSeq s s' sd S = s' sd1 S1 := by unfold sSeq; rw [e]; rfl
theorem sSeq_rt (e : s sd S = .rt x S1) : sSeq s s' sd S = .rt x S1 := by unfold sSeq; rw [e]; rfl
end
end Y

/-! Yi: texts: how long they are, that their signs are such. -/
namespace Y
open PySem PySem.Spec PyProof.Rows L2
structure Txt (t : Str) (n : Nat) : Prop where
  len : t.length ≤ n
  ok : PyData.strOk t = true
theorem strOk_app (a b : Str) : PyData.strOk (a ++ b) = (PyData.strOk a && PyData.strOk b) := by
  show (a.cps ++ b.cps).all (· < 0x110000) = _
  rw [Array.all_append]
  rfl
theorem strOk_of (s : String) : PyData.strOk (Str.ofString s) = true := by
  rw [Str.ofString_eq_toList]
  unfold PyData.strOk
  rw [← Array.all_toList, List.all_eq_true]
  intro c hc
  simp only [List.mem_map] at hc
  obtain ⟨ch, _, rfl⟩ := hc
  have h := ch.valid
  rw [decide_eq_true_eq]
  have h2 : ch.toNat = ch.val.toNat := rfl
  rw [h2]
  rcases h with h | h
  · have : ch.val.toNat < 0xd800 := h
    omega
  · have : ch.val.toNat < 0x110000 := h.2
    omega
theorem Txt.app {a b : Str} {n m : Nat} (h : Txt a n) (h2 : Txt b m) : Txt (a ++ b) (n + m) := ⟨by rw [strLen_append]; exact Nat.add_le_add h.len h2.len, by rw [strOk_app, h.ok, h2.ok]; rfl⟩
theorem Txt.mono {a : Str} {n m : Nat} (h : Txt a n) (l : n ≤ m) : Txt a m := ⟨Nat.le_trans h.len l, h.ok⟩
theorem Txt.lit (s : String) {n : Nat} (h : (Str.ofString s).length ≤ n) : Txt (Str.ofString s) n := ⟨h, strOk_of s⟩
theorem Txt.sep (k : Nat) : Txt ((if k > 0 then ", " else "" : String) : Str) 2 := by
  split
  · exact .lit _ (by decide +kernel)
  · exact .lit _ (by decide +kernel)
theorem Txt.from_ {m : Nat} : ∀ {ts : List Str} {k n : Nat} {acc : Str}, Txt acc n → (∀ t ∈ ts, Txt t m) → Txt (textFrom k acc ts) (n + ts.length * (m + 2))
  | [], k, n, acc, h, _ => by simpa [textFrom] using h
  | t :: ts, k, n, acc, h, h2 => by
    have ih := Txt.from_ (ts := ts) (k := k + 1) ((h.app (.sep k)).app (h2 t (List.mem_cons_self ..))) fun x hx => h2 x (List.mem_cons_of_mem _ hx)
    refine ih.mono ?_
    rw [List.length_cons, Nat.succ_mul]
    omega
theorem Txt.list {m : Nat} {ts : List Str} (h : ∀ t ∈ ts, Txt t m) : Txt (listText ts) (2 + ts.length * (m + 2)) :=
  ((Txt.from_ (k := 0) (Txt.lit "[" (n := 1) (by decide +kernel)) h).app (Txt.lit "]" (n := 1) (by decide +kernel))).mono (by omega)
theorem Txt.join {m : Nat} : ∀ {ts : List Str}, (∀ t ∈ ts, Txt t m) → Txt (Str.join ", " ts) (ts.length * (m + 2))
  | [], _ => ⟨Nat.zero_le _, by decide +kernel⟩
  | [x], h => (h x (List.mem_cons_self ..)).mono (by simp)
  | x :: y :: r, h => by
    have ih := Txt.join (ts := y :: r) fun t ht => h t (List.mem_cons_of_mem _ ht)
    have e := ((h x (List.mem_cons_self ..)).app (Txt.lit ", " (n := 2) (by decide +kernel))).app ih
    refine (show Txt (Str.join ", " (x :: y :: r)) _ from e).mono ?_
    have q : (x :: y :: r).length * (m + 2) = (y :: r).length * (m + 2) + (m + 2) := by rw [List.length_cons, Nat.succ_mul]
    omega
theorem Txt.tuple {m : Nat} {ts : List Str} (h : ∀ t ∈ ts, Txt t m) : Txt (tupleText ts) (3 + ts.length * (m + 2)) := by
  have e : Txt ((if ts.length == 1 then ",)" else ")" : String) : Str) 2 := by
    split
    · exact .lit _ (by decide +kernel)
    · exact .lit _ (by decide +kernel)
  exact (((Txt.lit "(" (n := 1) (by decide +kernel)).app (Txt.join h)).app e).mono (by omega)
theorem Txt.int {i : Int} (h : i.natAbs.log2 < 1920) : Txt (Str.ofString (toString i)) 1921 := .lit _ (PyProof.Rows.int_text_len_1921 h)
/-- data whose text is told without more ado -/
structure Tells (p : PyData) (n k : Nat) : Prop where
  sh : p.showable = true
  nd : p.hasDict = false
  dp : p.depth ≤ k
  tx : Txt p.shown n
structure TellsA (ps : List PyData) (n k : Nat) : Prop where
  sh : PyData.showableAll ps = true
  nd : PyData.hasDictAll ps = false
  dp : PyData.depthAll ps ≤ k
  tx : ∀ t ∈ PyData.shownAll ps, Txt t n
theorem TellsA.nil {n k : Nat} : TellsA [] n k := ⟨rfl, rfl, by simp [PyData.depthAll], fun t ht => by cases ht⟩
theorem TellsA.cons {p : PyData} {ps : List PyData} {n k : Nat} (h : Tells p n k) (h2 : TellsA ps n k) : TellsA (p :: ps) n k :=
  ⟨by simp [PyData.showableAll, h.sh, h2.sh], by simp [PyData.hasDictAll, h.nd, h2.nd], by
    have a := h.dp
    have b := h2.dp
    simp only [PyData.depthAll]
    omega, fun t ht => by
    rcases List.mem_cons.mp (show t ∈ p.shown :: PyData.shownAll ps from ht) with rfl | ht
    · exact h.tx
    · exact h2.tx t ht⟩
theorem shownAll_len : ∀ ps : List PyData, (PyData.shownAll ps).length = ps.length
  | [] => rfl
  | p :: ps => by simp [PyData.shownAll, shownAll_len ps]
theorem TellsA.list {ps : List PyData} {n k : Nat} (h : TellsA ps n k) : Tells (.list ps) (2 + ps.length * (n + 2)) (k + 1) :=
  ⟨h.sh, h.nd, by have := h.dp; simp only [PyData.depth]; omega, by
    have e := Txt.list h.tx
    rw [shownAll_len] at e
    exact e⟩
theorem TellsA.tuple {ps : List PyData} {n k : Nat} (h : TellsA ps n k) : Tells (.tuple ps) (3 + ps.length * (n + 2)) (k + 1) :=
  ⟨h.sh, h.nd, by have := h.dp; simp only [PyData.depth]; omega, by
    have e := Txt.tuple h.tx
    rw [shownAll_len] at e
    exact e⟩
theorem Tells.int {i : Int} (h : i.natAbs.log2 < 1920) : Tells (.int i) 1921 1 := ⟨by simp only [PyData.showable, decide_eq_true_eq]; exact h, rfl, by simp [PyData.depth], Txt.int h⟩
theorem Tells.mono {p : PyData} {n k m l : Nat} (h : Tells p n k) (hn : n ≤ m) (hk : k ≤ l) : Tells p m l := ⟨h.sh, h.nd, Nat.le_trans h.dp hk, h.tx.mono hn⟩
theorem repr_tells {S : Sto} {d : D} {p : PyData} {n : Nat} (h1 : isDs0 d S = none) (h2 : isDct0 d S = false) (h3 : toPy S 12 d = some p) (h : Tells p n 60) (hn : n ≤ 16777216) : fReprD [d] S = .ok (.str p.shown.cps.toList) S := fRepr_ok h1 h2 h3 h.sh (Nat.le_trans h.tx.len hn) h.dp h.nd
theorem strOk_shown {p : PyData} {n k : Nat} (h : Tells p n k) : PyData.strOk ⟨p.shown.cps.toList.toArray⟩ = true := by rw [str_eta]; exact h.tx.ok
end Y

/-! Z1: defs by any binding; keywords; instances made. -/
namespace Y
open PySem PySem.Spec PyProof.Rows L2
/-- a def, by any call that binds its parameters -/
def FnB (G : Glo) (P : Program) (w : World) (mg : Str → Option Value) (base : Heap) (k : Nat) (f : Addr) (fd : FuncData) (ps : List Str) (m : MF) : Prop :=
  ∀ (A : Around) (outer : List Env) (s : Shared) (H : Hp) (args : Args) (us : List Value) (vs : List V) (Q : VK) (E : XK), Room k A → A.guards = some [] → Env0 P w G.K mg base A outer s H → BindsTo s fd args (ps.zip us) → Vals vs us → spM G m vs H Q E →
    codeAny (model P w) A (.call (.ref f) args) (CR (L2.CX P w) outer P w H s Q E) s
/-- what a call with n values and the keywords ks binds -/
def BnD (G : Glo) (fd : FuncData) (ps : List Str) (n : Nat) (ks : List Str) (gd : List D → List D → List D) : Prop :=
  ∀ (s : Shared) (us ws : List Value) (vs zs : List V), G.K.In s.heap → vs.length = n → zs.length = ks.length → Vals vs us → Vals zs ws →
    ∃ bs ys, BindsTo s fd ⟨us, ks.zip ws⟩ (ps.zip bs) ∧ Vals ys bs ∧ ∀ ρ H ds es, RelDs G ρ H ds vs → RelDs G ρ H es zs → RelDs G ρ H (gd ds es) ys
abbrev MK := List D → List D → Sto → Res D
def mkK (n m : Nat) (gd : List D → List D → List D) (f : MF) : MK := fun ds es S => if ds.length = n ∧ es.length = m then f (gd ds es) S else .stuck
section
variable {G : Glo} {X : Cx} {P : Program} {w : World} {mg : Str → Option Value} {base : Heap}
theorem fn_okB {x qual : Str} {st : Stmt} {dvs : List V} {kws : List (Str × V)} {f : Addr} {fd : FuncData} {N ps : List Str} {k n np : Nat} {b : MS} (F : FunD G.K x qual (defArgs st) (defBody st) (defScope st) dvs kws f fd) (Sc : FnScope N ps (defScope st)) (hn : N.length = n) (hp : ps.length = np)
    (body : ∀ (cdv : Value) (A : Around) (outer : List Env) (s : Shared) (H : Hp) (E : XK), Room k (A.deeper (envOfC qual (defScope st) s.heap.objs.size f cdv)) → (A.deeper (envOfC qual (defScope st) s.heap.objs.size f cdv)).guards = some [] →
      PSsm G (cxOf (L2.CX P w) P w G.K mg base N qual (defScope st) f cdv A outer s H E) (defBody st) b) :
    FnB G P w mg base (k + 1) f fd ps (mkF n np b) := by
  intro A outer s H args us vs Q E hr hg e0 hb r h
  obtain ⟨oc, od, dV, kV, doc, pm, an, cdv, ct, osl, rfl, lk, hcd, _, _⟩ := F.ex
  obtain ⟨ds, S, ρ, rd, rp, q⟩ := h
  unfold mkF at q
  split at q
  · rename_i hl
    have hlen : vs.length = ps.length := by rw [← rd.length, hl, hp]
    refine LamX.run_ofS (N := N) lk hcd Sc hr e0 hb r hlen fun hr2 => ?_
    refine ⟨_, body cdv A outer s H E hr2 hg (fun cls d _ H => E cls d H) ⟨takes_of rfl rfl rfl rfl, passes_of rfl, rfl⟩, stD n ds, S, ρ, by rw [← hn]; exact stD_rel rd, rp, ?_⟩
    generalize b (stD n ds) S = r at q
    induction r with
    | rt d S1 => exact q
    | nx sd1 S1 => exact fun ρ' H' σ' le r1 _ => q ρ' H' .non le r1 rel_non
    | ex x sd1 S1 => exact fun ρ' H' σ' c d le r1 _ rx => q ρ' H' c d le r1 rx
    | bk sd1 S1 => exact q.elim
    | ct sd1 S1 => exact q.elim
    | stuck => exact q.elim
    | pick t f ih => exact fun r hr => ih r (q r hr)
  · exact q.elim
theorem FnB.g {k : Nat} {f : Addr} {fd : FuncData} {ps : List Str} {m : MF} (F : FnB G P w mg base k f fd ps m) (hb : Binds G.K fd ps []) (hl : ∀ ds S, m ds S ≠ .stuck → ds.length = ps.length) : FnG G P w mg base k f m := fun A outer s H us vs Q E hr hg e0 r h => by
  obtain ⟨ds, S, ρ, rd, rp, q⟩ := h
  have ne : m ds S ≠ .stuck := fun z => by rw [z] at q; exact q.elim
  have hus : (us ++ []).length = ps.length := by rw [List.append_nil, ← r.length, ← rd.length]; exact hl ds S ne
  have hbb := hb s us (e0.mod.kin.keeps fun b o e => (e0.bs b o e).1) hus
  rw [List.append_nil] at hbb
  exact F A outer s H ⟨us, []⟩ us vs Q E hr hg e0 hbb r ⟨ds, S, ρ, rd, rp, q⟩
theorem mkF_len {n np : Nat} {b : MS} (ds : List D) (S : Sto) (h : mkF n np b ds S ≠ .stuck) : ds.length = np := by
  unfold mkF at h
  split at h
  · assumption
  · exact absurd rfl h
theorem FnB.imp {k : Nat} {f : Addr} {fd : FuncData} {ps : List Str} {m m' : MF} (F : FnB G P w mg base k f fd ps m) (h : ∀ vs H Q E, spM G m' vs H Q E → spM G m vs H Q E) : FnB G P w mg base k f fd ps m' := fun A outer s H args us vs Q E hr hg e0 hb r hs => F A outer s H args us vs Q E hr hg e0 hb r (h _ _ _ _ hs)
/-! ### calls with keywords -/
def CallMK (G : Glo) (X : Cx) (F : Value) (ks : List Str) (f : MK) : Prop := ∀ W, XOk G X W →
  ∀ (pins : List (Addr × Obj)) (s : Shared) (σ : L2.St) (H : Hp) (ρ : Rho) (S : Sto) (xs zs : List V) (us ws : List Value) (ds es : List D) (Q : VK), Inv X pins σ H s → Vals xs us → Vals zs ws → Rep G ρ S H → RelDs G ρ H ds xs → RelDs G ρ H es zs →
    Aft G (RelD G) ρ H (f ds es S) Q (fun c a H' => W c a σ H') → wpAny (model X.prog X.w) X.A (call F us (ks.zip ws)) (EP X pins σ Q) X.xe s
theorem CallMK.pos {F : Value} {f : MK} (h : CallMK G X F [] f) : CallM G X F (fun ds S => f ds [] S) := fun W ok pins s σ H ρ S xs us ds Q I r rp rd q => h W ok pins s σ H ρ S xs [] us [] ds [] Q I r .nil rp rd .nil q
theorem cm_fnK {g : Addr} {fd : FuncData} {ps : List Str} {m : MF} {k n : Nat} {ks : List Str} {gd : List D → List D → List D} (F : FnB G X.prog X.w X.mg X.base k g fd ps m) (B : BnD G fd ps n ks gd) (hr : Room k X.A) (hg : X.A.guards = some []) : CallMK G X (.ref g) ks (mkK n ks.length gd m) := fun W ok pins s σ H ρ S xs zs us ws ds es Q I r rz rp rd re q => by
  unfold mkK at q
  split at q
  · rename_i hl
    have e0 : Env0 X.prog X.w G.K X.mg X.base X.A X.stack s H := by rw [ok.kk]; exact I.env0
    obtain ⟨bs, ys, hb, ry, rel⟩ := B s us ws xs zs (by rw [ok.kk]; exact I.kIn) (by rw [← rd.length]; exact hl.1) (by rw [← re.length]; exact hl.2) r rz
    refine wpAny_call (codeAny_mono (F X.A X.stack s H _ bs ys Q (fun c a H' => W c a σ H') hr hg e0 hb ry ⟨gd ds es, S, ρ, rel ρ H ds es rd re, rp, q⟩) fun r s' hq => ?_)
    cases r with
    | error e => exact ok.tk e s' (XE.of_call I (fun cls d H' h => h) hq)
    | ok fl =>
      cases fl with
      | ret u => exact I.after hq
      | next => exact False.elim hq
      | brk => exact False.elim hq
      | cont => exact False.elim hq
  · exact q.elim
/-! ### instances made -/
def mkObj (c : Nat) (f : MK) : MK := fun ds es S => (f (.loc S.n :: ds) es (S.new (.ins c []))).bind fun d S1 => match d with
  | .non => .ok (.loc S.n) S1
  | _ => .stuck
theorem cm_make {c : Nat} {C g : Addr} {fd : FuncData} {ps : List Str} {m : MF} {k n : Nat} {ks : List Str} {gd : List D → List D → List D} (hC : G.ca c = .ref C) (M : Mk X.K C g) (F : FnB G X.prog X.w X.mg X.base k g fd ps m) (B : BnD G fd ps n ks gd) (hr : Room (k + 1) X.A) (hg : X.A.guards = some []) :
    CallMK G X (.ref C) ks (mkObj c (mkK n ks.length gd m)) := fun W ok pins s σ H ρ S xs zs us ws ds es Q I r rz rp rd re q => by
  have n1 : H s.heap.objs.size = none := I.hok.fresh (Nat.le_refl _)
  have n2 : H (s.heap.objs.size + 1) = none := I.hok.fresh (Nat.le_succ _)
  have ne : s.heap.objs.size ≠ s.heap.objs.size + 1 := Nat.ne_of_lt (Nat.lt_succ_self _)
  have I2 := Inv.made (C := C) I
  generalize hH2 : L2.upd (L2.upd H s.heap.objs.size (.own (s.heap.objs.size + 1))) (s.heap.objs.size + 1) (.ins C s.heap.objs.size []) = H2 at I2
  have n3 : L2.upd H s.heap.objs.size (.own (s.heap.objs.size + 1)) (s.heap.objs.size + 1) = none := by rw [upd_ne (Ne.symm ne)]; exact n2
  have le1 : Le G ρ H ρ (L2.upd H s.heap.objs.size (.own (s.heap.objs.size + 1))) := Le.same (same_new n1)
  have rp1 := rp.free (o := .own (s.heap.objs.size + 1)) n1
  have le2 : Le G ρ H (ext ρ S.n (s.heap.objs.size + 1)) H2 := by
    rw [← hH2]
    exact le1.trans ((Le.ext (rp.top _ (Nat.le_refl _))).trans (Le.same (same_new n3)))
  have rp2 : Rep G (ext ρ S.n (s.heap.objs.size + 1)) (S.new (.ins c [])) H2 := by
    rw [← hH2]
    exact rp1.new n3 ⟨C, s.heap.objs.size, [], hC, .inl ⟨upd_same, rfl⟩, fun i d e => by simp at e⟩
  have rs : RelD G (ext ρ S.n (s.heap.objs.size + 1)) H2 (.loc S.n) (.ref (s.heap.objs.size + 1)) := RelD.loc' ext_same
  unfold mkObj at q
  have q2 : Aft G (RelD G) (ext ρ S.n (s.heap.objs.size + 1)) H2 (mkK n ks.length gd m (.loc S.n :: ds) es (S.new (.ins c []))) (fun v H3 => v = .non ∧ Q (.ref (s.heap.objs.size + 1)) H3) (fun c a H' => W c a σ H') := Aft.bind (Aft.le q le2) fun ρ1 H1 v d S1 le3 r1 rv h1 => by
    cases d with
    | non =>
      simp only [RelD] at rv
      exact ⟨rv, h1.ok r1 (rs.mono le3)⟩
    | _ => exact h1.elim
  unfold mkK at q2
  split at q2
  · rename_i hl
    have r1 : Vals (V.ref (s.heap.objs.size + 1) :: xs) (Value.ref (s.heap.objs.size + 1) :: us) := .cons rfl r
    obtain ⟨bs, ys, hb, ry, rel⟩ := B _ (Value.ref (s.heap.objs.size + 1) :: us) ws (V.ref (s.heap.objs.size + 1) :: xs) zs (by rw [ok.kk]; exact I2.kIn) (by rw [List.length_cons, ← rd.length]; exact hl.1) (by rw [← re.length]; exact hl.2) r1 rz
    have e0 := I2.env0.make C us (ks.zip ws)
    rw [← ok.kk] at e0
    refine wpAny_call (make_map (f := g) I.kIn M.makes M.init (beq_iff_eq.mp M.fn) (codeAny_mono (F _ X.stack _ H2 ⟨Value.ref (s.heap.objs.size + 1) :: us, ks.zip ws⟩ bs ys _ (fun c a H' => W c a σ H') (hr.make C us (ks.zip ws)) hg e0 hb ry
      ⟨gd (.loc S.n :: ds) es, S.new (.ins c []), ext ρ S.n (s.heap.objs.size + 1), rel _ _ _ _ (.cons rs (rd.mono le2)) (re.mono le2), rp2, q2⟩) fun r s' hq' => ?_))
    cases r with
    | error e => exact ok.tk e s' (XE.of_call I2 (fun cls d H' h => h) hq')
    | ok fl =>
      cases fl with
      | ret u =>
        obtain ⟨v, H', I3, rv, ev, q3⟩ := I2.after hq'
        subst ev
        exact ⟨rv, ⟨V.ref (s.heap.objs.size + 1), H', I3, rfl, q3⟩⟩
      | next => exact False.elim hq'
      | brk => exact False.elim hq'
      | cont => exact False.elim hq'
  · exact q2.elim
/-! ### the expressions -/
def PKm (G : Glo) (X : Cx) (kws : List Keyword) (m : MA) : Prop := ∀ W, XOk G X W → PK X kws (ta G m W)
theorem PK_imp {kws : List Keyword} {t t' : TA} (h : PK X kws t) (f : ∀ σ H Q, t' σ H Q → t σ H Q) : PK X kws t' := ⟨fun pos pins s σ H Q I q => h.run pos pins s σ H Q I (f σ H Q q)⟩
theorem pk_nilm : PKm G X [] mNil := fun W ok => PK_imp pk_nil fun σ H Q ⟨sd, S, ρ, hs, hr, h⟩ => h.ok hr RelDs.nil
theorem pk_consm {e : Expr} {nm : Option Str} {kpos : Pos} {kws : List Keyword} {m : ME} {r : MA} (ha : PEm G X e m) (hr : PKm G X kws r) : PKm G X (⟨nm, e, kpos⟩ :: kws) (mCons m r) := fun W ok =>
  PK_imp (pk_cons (ha W ok) (hr W ok)) fun σ H Q ⟨sd, S, ρ, hs, hr, h⟩ => ⟨sd, S, ρ, hs, hr, Aft.bind h fun ρ1 H1 x d S1 le1 r1 rd h1 => ⟨sd, S1, ρ1, hs.mono le1, r1, Aft.bind h1 fun ρ2 H2 y ds S2 le2 r2 re h2 => h2.ok r2 (.cons (rd.mono le2) re)⟩⟩
def mCallK (f : MK) (a k : MA) : ME := fun sd S => (a sd S).bind fun ds S1 => (k sd S1).bind fun es S2 => f ds es S2
theorem pm_callK {x : Str} {g : Addr} {f : MK} {e : Expr} {es : List Expr} {kws : List Keyword} {ks : List Str} {m mk : MA} {p pos : Pos} (hc : CallMK G X (.ref g) ks f) (hg : Gl X x) (hm : X.mg x = some (.ref g)) (hk : PySem.W.keepIn X.K (.ref g) = true) (ha : PAm G X (e :: es) m) (hkw : PKm G X kws mk)
    (hall : (backToKw pos (keywordEach kws X.env)).all (·.1.isSome) = true := by rfl) (hks : (backToKw pos (keywordEach kws X.env)).filterMap (·.1) = ks := by rfl) (hdb : (x == ("__debug__" : Str)) = false := by decide)
    (he : starEach (e :: es) X.env = (false, eval e X.env) :: starEach es X.env := by rfl) (hpl : ((backTo pos (starEach (e :: es) X.env)).any (·.1) || (backToKw pos (keywordEach kws X.env)).any (·.1.isNone)) = false := by rfl) :
    PEm G X (.Call (.Name x p) (e :: es) kws pos) (mCallK f m mk) := fun W ok => by
  refine ⟨fun pins s σ H Q I h => ?_⟩
  obtain ⟨sd, S, ρ, hs, hr, h⟩ := h
  have t : ta G m W σ H (fun xs H1 => ∃ ρ1 S1 ds, RelSt G ρ1 H1 sd σ ∧ Rep G ρ1 S1 H1 ∧ RelDs G ρ1 H1 ds xs ∧ Aft G (RelD G) ρ1 H1 ((mk sd S1).bind fun es S2 => f ds es S2) Q (fun c a H' => W c a σ H')) := ⟨sd, S, ρ, hs, hr, Aft.bind h fun ρ1 H1 x d S1 le1 r1 rd h1 => ⟨ρ1, S1, d, hs.mono le1, r1, rd, h1⟩⟩
  refine wpAny_Call_Name_kw (ld_glob I hg hm ?_ hdb)
  refine PySem.W.callWith_KW (h₀ := X.base) I.ok.mod.kin hk hall (thn ((ha W ok).run pos pins s σ H _ I t) fun us s1 ⟨vs, H1, I1, r1, q1⟩ => ?_) hpl he
  obtain ⟨ρ1, S1, ds, hs1, rp1, rd1, q⟩ := q1
  have t2 : ta G mk W σ H1 (fun zs H2 => ∃ ρ2 S2 es, Rep G ρ2 S2 H2 ∧ RelDs G ρ2 H2 ds vs ∧ RelDs G ρ2 H2 es zs ∧ Aft G (RelD G) ρ2 H2 (f ds es S2) Q (fun c a H' => W c a σ H')) := ⟨sd, S1, ρ1, hs1, rp1, Aft.bind q fun ρ2 H2 x d S2 le2 r2 rd2 h2 => ⟨ρ2, S2, d, r2, rd1.mono le2, rd2, h2⟩⟩
  refine thn ((hkw W ok).run pos pins s1 σ H1 _ I1 t2) fun ws s2 ⟨zs, H2, I2, rz, q2⟩ => ⟨I2.kIn, ?_⟩
  obtain ⟨ρ2, S2, es', a, b, c, q⟩ := q2
  rw [hks]
  exact hc W ok pins s2 σ H2 ρ2 S2 vs zs us ws ds es' Q I2 r1 rz a b c q
theorem pm_callK0 {x : Str} {g : Addr} {f : MK} {kws : List Keyword} {ks : List Str} {mk : MA} {p pos : Pos} (hc : CallMK G X (.ref g) ks f) (hg : Gl X x) (hm : X.mg x = some (.ref g)) (hk : PySem.W.keepIn X.K (.ref g) = true) (hkw : PKm G X kws mk)
    (hall : (backToKw pos (keywordEach kws X.env)).all (·.1.isSome) = true := by rfl) (hks : (backToKw pos (keywordEach kws X.env)).filterMap (·.1) = ks := by rfl) (hdb : (x == ("__debug__" : Str)) = false := by decide)
    (hpl : ((backTo pos (starEach [] X.env)).any (·.1) || (backToKw pos (keywordEach kws X.env)).any (·.1.isNone)) = false := by rfl) :
    PEm G X (.Call (.Name x p) [] kws pos) (mCallK f mNil mk) := fun W ok => by
  refine ⟨fun pins s σ H Q I h => ?_⟩
  obtain ⟨sd, S, ρ, hs, hr, h⟩ := h
  have h : Aft G (RelD G) ρ H ((mk sd S).bind fun es S2 => f [] es S2) Q (fun c a H' => W c a σ H') := h
  refine wpAny_Call_Name_kw (ld_glob I hg hm ?_ hdb)
  refine PySem.W.callWith_KW0 (h₀ := X.base) I.ok.mod.kin hk hall ?_ hpl
  have t2 : ta G mk W σ H (fun zs H2 => ∃ ρ2 S2 es, Rep G ρ2 S2 H2 ∧ RelDs G ρ2 H2 es zs ∧ Aft G (RelD G) ρ2 H2 (f [] es S2) Q (fun c a H' => W c a σ H')) := ⟨sd, S, ρ, hs, hr, Aft.bind h fun ρ2 H2 x d S2 le2 r2 rd2 h2 => ⟨ρ2, S2, d, r2, rd2, h2⟩⟩
  refine thn ((hkw W ok).run pos pins s σ H _ I t2) fun ws s2 ⟨zs, H2, I2, rz, q2⟩ => ⟨I2.kIn, ?_⟩
  obtain ⟨ρ2, S2, es', a, c, q⟩ := q2
  rw [hks]
  exact hc W ok pins s2 σ H2 ρ2 S2 [] zs [] ws [] es' Q I2 .nil rz a .nil c q
end
end Y

/-! Z2: instances: attributes, methods, stores. -/
namespace Y
open PySem PySem.Spec PyProof.Rows L2
def clsD (d : D) (S : Sto) : Option Nat := match d with
  | .loc n => (match S.get n with
    | some (.ins c _) => some c
    | _ => none)
  | _ => none
def slotD (d : D) (i : Nat) (S : Sto) : Option D := match d with
  | .loc n => (match S.get n with
    | some (.ins _ l) => (match l[i]? with
      | some (some v) => some v
      | _ => none)
    | _ => none)
  | _ => none
def putD (i : Nat) (d : D) (l : List (Option D)) : List (Option D) := (l ++ List.replicate (i + 1 - l.length) none).set i (some d)
def setD (d : D) (i : Nat) (v : D) (S : Sto) : Option Sto := match d with
  | .loc n => (match S.get n with
    | some (.ins c l) => some (S.set n (.ins c (putD i v l)))
    | _ => none)
  | _ => none
def noX (r : Res D) : Res D := r.bindX fun d S => .ok d S
inductive AtK where
  | slot (i : Nat)
  | prop (m : MF)
def atD (tab : List (Nat × AtK)) (d : D) (S : Sto) : Res D := match clsD d S with
  | some c => (match tab.lookup c with
    | some (.slot i) => (match slotD d i S with
      | some v => .ok v S
      | none => .stuck)
    | some (.prop m) => noX (m [d] S)
    | none => .stuck)
  | none => .stuck
section
variable {G : Glo} {X : Cx} {ρ : Rho} {H : Hp}
theorem clsD_ok {S : Sto} {d : D} {x : V} {c : Nat} (rp : Rep G ρ S H) (rd : RelD G ρ H d x) (h : clsD d S = some c) : ∃ n a C dx vs l, d = .loc n ∧ S.get n = some (.ins c l) ∧ x = .ref a ∧ ρ n = some a ∧ G.ca c = .ref C ∧ SlX.Slt H a C dx vs ∧ RelSl G ρ H l vs := by
  unfold clsD at h
  split at h
  · rename_i n
    split at h
    · rename_i c' l el
      cases h
      simp only [RelD] at rd
      obtain ⟨a, e1, rfl⟩ := rd
      obtain ⟨b, e2, C, dx, vs, hC, hs, hr⟩ := rp.cell n _ el
      rw [e1] at e2
      cases e2
      exact ⟨n, a, C, dx, vs, l, rfl, el, rfl, e1, hC, hs, hr⟩
    · cases h
  · cases h
theorem noX_aft {r : Res D} {Q : VK} {W : XK} (h : Aft G (RelD G) ρ H (noX r) Q W) : Aft G (RelD G) ρ H r Q (fun _ _ _ => False) := Aft.bindX h fun ρ1 H1 v d S1 le r1 rv h1 => h1.ok r1 rv
/-! ### attributes -/
structure PropC (K : PySem.W.Frag) (C : Addr) (f : Str) (p g : Addr) : Prop where
  at_ : PySem.W.findIn K (.ref C) f = some (some (.ref p))
  get : PySem.W.specialIn K (.ref p) "__get__" = some (some (.builtin "property.__get__"))
  tk : PySem.W.takesIn K (.ref p) = some true
  rc : ∃ rest, PySem.W.recIn K p "property" = some (.ref g :: rest)
def AtOk (G : Glo) (X : Cx) (f : Str) (c : Nat) : AtK → Prop
  | .slot i => ∃ C p, G.ca c = .ref C ∧ SlX.SCls G.K C ∧ SlX.Slot1 G.K C f p i
  | .prop m => ∃ C p g k, G.ca c = .ref C ∧ SlX.SCls G.K C ∧ PropC G.K C f p g ∧ FnG G X.prog X.w X.mg X.base k g m ∧ Room (k + 1) X.A ∧ X.A.guards = some []
inductive AtTab (G : Glo) (X : Cx) (f : Str) : List (Nat × AtK) → Prop
  | nil : AtTab G X f []
  | cons {c : Nat} {k : AtK} {r : List (Nat × AtK)} (h : AtOk G X f c k) (t : AtTab G X f r) : AtTab G X f ((c, k) :: r)
theorem AtTab.get {f : Str} {tab : List (Nat × AtK)} (t : AtTab G X f tab) {c : Nat} {k : AtK} (h : tab.lookup c = some k) : AtOk G X f c k := by
  induction t with
  | nil => cases h
  | @cons c' k' r h1 t ih =>
    by_cases e : c = c'
    · subst e
      have e2 : k' = k := by simpa [List.lookup] using h
      subst e2
      exact h1
    · have e' : (c == c') = false := by simpa using e
      exact ih (by simpa [List.lookup, e'] using h)
theorem getpropG {pins : List (Addr × Obj)} {s : Shared} {σ : L2.St} {a C dx p g : Addr} {vs : List (Option V)} {f : Str} {k : Nat} {m : MF} {b : Bool} {Q : VK} (kk : G.K = X.K) (I : Inv X pins σ H s) (h : SlX.Slt H a C dx vs) (c : SlX.SCls X.K C) (pc : PropC X.K C f p g)
    (F : FnG G X.prog X.w X.mg X.base k g m) (hr : Room (k + 1) X.A) (hg : X.A.guards = some []) (q : spM G m [.ref a] H Q (fun _ _ _ => False)) : wpAny (model X.prog X.w) X.A (getAttr (.ref a) f b) (EP X pins σ Q) X.xe s := by
  obtain ⟨sl, od, _, J, _⟩ := SlX.slt_inst I h
  obtain ⟨rest, hrec⟩ := pc.rc
  have I1 : Inv X pins σ H { s with toks := s.toks + 1 } := I.tok (s.toks + 1)
  have e0 := I1.env0.in1
  rw [← kk] at e0
  refine PySem.W.get_bind I.kIn J (PySem.W.plainGet_of (c.get f)).1 (PySem.W.findObj_data c.ic pc.at_ pc.get pc.tk) (PySem.W.plainGet_of (c.get f)).2 (wpAny_call (PySem.W.prop_get (s := { s with toks := s.toks + 1 }) I.kIn hrec ?_))
  refine codeAny_mono (F X.A.in1 X.stack { s with toks := s.toks + 1 } H [.ref a] [.ref a] Q (fun _ _ _ => False) hr.in1 hg e0 (.cons rfl .nil) q) fun r s' hq => ?_
  cases r with
  | error e =>
    obtain ⟨_, _, _, _, _, _, _, _, _, _, _, _, z⟩ := hq
    exact z.elim
  | ok fl =>
    cases fl with
    | ret u =>
      obtain ⟨v, H', I2, rv, q⟩ := I1.after hq
      exact wpAny_of_eq (PySem.W.handedOut_of (handed_of rv)) ⟨v, H', I2, rv, q⟩
    | next => exact False.elim hq
    | brk => exact False.elim hq
    | cont => exact False.elim hq
theorem pm_at {e : Expr} {f : Str} {m : ME} {tab : List (Nat × AtK)} {pos : Pos} (ht : AtTab G X f tab) (he : PEm G X e m) (hb : attributeBase e f X.env (eval e X.env) = eval e X.env := by rfl) : PEm G X (.Attribute e f pos) (mUn (atD tab) m) := fun W ok => by
  refine ⟨fun pins s σ H Q I h => ?_⟩
  obtain ⟨sd, S, ρ, hs, hr, h⟩ := h
  have t : te G m W σ H (fun x H1 => ∃ ρ S d, Rep G ρ S H1 ∧ RelD G ρ H1 d x ∧ Aft G (RelD G) ρ H1 (atD tab d S) Q (fun c a H' => W c a σ H')) := ⟨sd, S, ρ, hs, hr, Aft.bind h fun ρ1 H1 x d S1 le1 r1 rd h1 => ⟨ρ1, S1, d, r1, rd, h1⟩⟩
  refine attr_of hb (thn ((he W ok).run pins s σ H _ I t) fun v s1 ⟨x, H1, I1, r1, q1⟩ => ?_)
  obtain ⟨ρ1, S1, d, rp, rd, q⟩ := q1
  unfold atD at q
  split at q
  · rename_i c hc
    obtain ⟨n, a, C, dx, vs, l, rfl, el, rfl, en, hC, hsl, hrl⟩ := clsD_ok rp rd hc
    cases r1
    split at q
    · rename_i i hi
      obtain ⟨C', p, hC', sc, s1'⟩ := ht.get hi
      rw [hC] at hC'
      cases hC'
      split at q
      · rename_i v' hv
        simp only [slotD, el] at hv
        split at hv
        · rename_i w' hw
          cases hv
          obtain ⟨u, eu, ru⟩ := hrl i _ hw
          rw [ok.kk] at sc s1'
          exact SlX.getslot_ok I1 hsl sc s1' eu fun u' s2 I2 ru' => ⟨u, H1, I2, ru', q.ok rp ru⟩
        · cases hv
      · exact q.elim
    · rename_i mm hi
      obtain ⟨C', p, g, k, hC', sc, pc, F, hrm, hg⟩ := ht.get hi
      rw [hC] at hC'
      cases hC'
      rw [ok.kk] at sc pc
      exact getpropG ok.kk I1 hsl sc pc F hrm hg ⟨_, S1, ρ1, .one rd, rp, noX_aft q⟩
    · exact q.elim
  · exact q.elim
/-! ### methods -/
def MeOk (G : Glo) (X : Cx) (m : Str) (c : Nat) (f : MF) : Prop := ∃ C g, G.ca c = .ref C ∧ SlX.SCls G.K C ∧ Meth G.K C m g ∧ CallM G X (.ref g) f
inductive MeTab (G : Glo) (X : Cx) (m : Str) : List (Nat × MF) → Prop
  | nil : MeTab G X m []
  | cons {c : Nat} {k : MF} {r : List (Nat × MF)} (h : MeOk G X m c k) (t : MeTab G X m r) : MeTab G X m ((c, k) :: r)
theorem MeTab.get {f : Str} {tab : List (Nat × MF)} (t : MeTab G X f tab) {c : Nat} {k : MF} (h : tab.lookup c = some k) : MeOk G X f c k := by
  induction t with
  | nil => cases h
  | @cons c' k' r h1 t ih =>
    by_cases e : c = c'
    · subst e
      have e2 : k' = k := by simpa [List.lookup] using h
      subst e2
      exact h1
    · have e' : (c == c') = false := by simpa using e
      exact ih (by simpa [List.lookup, e'] using h)
def mMethO (tab : List (Nat × MF)) (o : ME) (a : MA) : ME := fun sd S => (o sd S).bind fun od S1 => match clsD od S1 with
  | some c => (match tab.lookup c with
    | some f => (a sd S1).bind fun as S2 => f (od :: as) S2
    | none => .stuck)
  | none => .stuck
theorem pm_methO {o e : Expr} {es : List Expr} {m : Str} {mo : ME} {ma : MA} {tab : List (Nat × MF)} {apos pos : Pos} {pl : Sem Bool} (ht : MeTab G X m tab) (ho : PEm G X o mo) (ha : PAm G X (e :: es) ma)
    (hst : starEach (e :: es) X.env = (false, eval e X.env) :: starEach es X.env := by rfl) (hpl : (backTo pos (starEach es X.env)).any (·.1) = false := by rfl)
    (hv : eval (.Call (.Attribute o m apos) (e :: es) [] pos) X.env = (do
      let ov ← eval o X.env
      standAt apos.atName
      let (f, first) ← holding [ov] (getMethod ov m pl)
      callWith pos f first (backTo pos (starEach (e :: es) X.env)) (backToKw pos (keywordEach [] X.env))) := by rfl) :
    PEm G X (.Call (.Attribute o m apos) (e :: es) [] pos) (mMethO tab mo ma) := fun W ok => by
  refine ⟨fun pins s σ H Q I h => ?_⟩
  obtain ⟨sd, S, ρ, hs, hr, h⟩ := h
  have t : te G mo W σ H (fun x H1 => ∃ ρ S d, RelSt G ρ H1 sd σ ∧ Rep G ρ S H1 ∧ RelD G ρ H1 d x ∧ Aft G (RelD G) ρ H1 (match clsD d S with | some c => (match tab.lookup c with | some f => (ma sd S).bind fun as S2 => f (d :: as) S2 | none => .stuck) | none => .stuck) Q (fun c a H' => W c a σ H')) := ⟨sd, S, ρ, hs, hr, Aft.bind h fun ρ1 H1 x d S1 le1 r1 rd h1 => ⟨ρ1, S1, d, hs.mono le1, r1, rd, h1⟩⟩
  refine PySem.W.methodCall_KW (pl := pl) (thn ((ho W ok).run pins s σ H _ I t) fun v s1 ⟨x, H1, I1, r1, q1⟩ => ?_) hv
  obtain ⟨ρ1, S1, d, hs1, rp, rd, q⟩ := q1
  split at q
  · rename_i c hc
    obtain ⟨n, a, C, dx, vs, l, rfl, el, rfl, en, hC, hsl, hrl⟩ := clsD_ok rp rd hc
    cases r1
    split at q
    · rename_i f hf
      obtain ⟨C', g, hC', sc, me, cm⟩ := ht.get hf
      rw [hC] at hC'
      cases hC'
      rw [ok.kk] at sc me
      refine SlX.getmethsl_ok I1 hsl sc me ?_
      have t2 : ta G ma W σ H1 (fun xs H2 => ∃ ρ2 S2 ds, Rep G ρ2 S2 H2 ∧ RelD G ρ2 H2 (.loc n) (.ref a) ∧ RelDs G ρ2 H2 ds xs ∧ Aft G (RelD G) ρ2 H2 (f (.loc n :: ds) S2) Q (fun c a H' => W c a σ H')) := ⟨sd, S1, ρ1, hs1, rp, Aft.bind q fun ρ2 H2 x d S2 le2 r2 rd2 h2 => ⟨ρ2, S2, d, r2, rd.mono le2, rd2, h2⟩⟩
      refine PySem.W.callWith_K (first := [.ref a]) (h₀ := X.base) I.ok.mod.kin me.kp (thn ((ha W ok).run pos pins s1 σ H1 _ I1 t2) fun us s2 ⟨ws, H2, I2, r, q2⟩ => ⟨I2.kIn, ?_⟩) hst hpl
      obtain ⟨ρ2, S2, ds, rp2, ra, rds, q2⟩ := q2
      exact cm W ok pins s2 σ H2 ρ2 S2 (.ref a :: ws) (.ref a :: us) (.loc n :: ds) Q I2 (.cons rfl r) rp2 (.cons ra rds) q2
    · exact q.elim
  · exact q.elim
theorem pm_methO0 {o : Expr} {m : Str} {mo : ME} {tab : List (Nat × MF)} {apos pos : Pos} {pl : Sem Bool} (ht : MeTab G X m tab) (ho : PEm G X o mo)
    (hv : eval (.Call (.Attribute o m apos) [] [] pos) X.env = (do
      let ov ← eval o X.env
      standAt apos.atName
      let (f, first) ← holding [ov] (getMethod ov m pl)
      callWith pos f first (backTo pos (starEach [] X.env)) (backToKw pos (keywordEach [] X.env))) := by rfl) :
    PEm G X (.Call (.Attribute o m apos) [] [] pos) (mMethO tab mo mNil) := fun W ok => by
  refine ⟨fun pins s σ H Q I h => ?_⟩
  obtain ⟨sd, S, ρ, hs, hr, h⟩ := h
  have t : te G mo W σ H (fun x H1 => ∃ ρ S d, RelSt G ρ H1 sd σ ∧ Rep G ρ S H1 ∧ RelD G ρ H1 d x ∧ Aft G (RelD G) ρ H1 (match clsD d S with | some c => (match tab.lookup c with | some f => (mNil sd S).bind fun as S2 => f (d :: as) S2 | none => .stuck) | none => .stuck) Q (fun c a H' => W c a σ H')) := ⟨sd, S, ρ, hs, hr, Aft.bind h fun ρ1 H1 x d S1 le1 r1 rd h1 => ⟨ρ1, S1, d, hs.mono le1, r1, rd, h1⟩⟩
  refine PySem.W.methodCall_KW (pl := pl) (thn ((ho W ok).run pins s σ H _ I t) fun v s1 ⟨x, H1, I1, r1, q1⟩ => ?_) hv
  obtain ⟨ρ1, S1, d, hs1, rp, rd, q⟩ := q1
  split at q
  · rename_i c hc
    obtain ⟨n, a, C, dx, vs, l, rfl, el, rfl, en, hC, hsl, hrl⟩ := clsD_ok rp rd hc
    cases r1
    split at q
    · rename_i f hf
      obtain ⟨C', g, hC', sc, me, cm⟩ := ht.get hf
      rw [hC] at hC'
      cases hC'
      rw [ok.kk] at sc me
      refine SlX.getmethsl_ok I1 hsl sc me ?_
      exact PySem.W.callWith_K0 (first := [.ref a]) I1.kIn me.kp (cm W ok pins s1 σ H1 ρ1 S1 [.ref a] [.ref a] [.loc n] Q I1 (.cons rfl .nil) rp (.one rd) q)
    · exact q.elim
  · exact q.elim
/-! ### stores -/
theorem putD_self {i : Nat} {d : D} {l : List (Option D)} : (putD i d l)[i]? = some (some d) := by
  unfold putD
  exact List.getElem?_set_self (by simp only [List.length_append, List.length_replicate]; omega)
theorem putD_ne {i j : Nat} {d x : D} {l : List (Option D)} (h : j ≠ i) (e : (putD i d l)[j]? = some (some x)) : l[j]? = some (some x) := by
  unfold putD at e
  rw [List.getElem?_set_ne (Ne.symm h)] at e
  by_cases hj : j < l.length
  · rw [List.getElem?_append_left hj] at e
    exact e
  · rw [List.getElem?_append_right (by omega), List.getElem?_replicate] at e
    split at e <;> cases e
theorem RelSl.put {l : List (Option D)} {vs : List (Option V)} {d : D} {v : V} (h : RelSl G ρ H l vs) (r : RelD G ρ H d v) (i : Nat) : RelSl G ρ H (putD i d l) (SlX.putS i v vs) := fun j e he => by
  by_cases hj : j = i
  · subst hj
    rw [putD_self] at he
    cases he
    exact ⟨v, SlX.putS_get _ _ _, r⟩
  · obtain ⟨u, e1, r1⟩ := h j e (putD_ne hj he)
    exact ⟨u, (SlX.putS_ne hj).mpr e1, r1⟩
theorem rep_slot {S : Sto} {n i c : Nat} {a C dx : Addr} {l : List (Option D)} {vs : List (Option V)} {d : D} {v : V} (rp : Rep G ρ S H) (hi : S.get n = some (.ins c l)) (ha : ρ n = some a) (hC : G.ca c = .ref C) (hs : SlX.Slt H a C dx vs) (hrl : RelSl G ρ H l vs)
    (hd : H dx = some (.own a) ∨ H dx = some (.xd [])) (ne : dx ≠ a) (rv : RelD G ρ H d v) : Le G ρ H ρ (SlX.slH H a C dx (SlX.putS i v vs)) ∧ Rep G ρ (S.set n (.ins c (putD i d l))) (SlX.slH H a C dx (SlX.putS i v vs)) := by
  have w1 : Wr (H dx) := by rcases hd with e | e <;> rw [e] <;> exact trivial
  have w2 : Wr1 (H a) := by rcases hs with ⟨e, _⟩ | ⟨e, _⟩ <;> rw [e] <;> exact trivial
  have le1 : Le G ρ H ρ (L2.upd H dx (.xd [])) := Le.upd w1
  have w3 : Wr1 (L2.upd H dx (.xd []) a) := by rw [upd_ne (Ne.symm ne)]; exact w2
  have le2 : Le G ρ H ρ (SlX.slH H a C dx (SlX.putS i v vs)) := le1.trans (Le.upd w3.wr)
  have rp1 : Rep G ρ S (L2.upd H dx (.xd [])) := by
    refine ⟨fun j c2 e => ?_, rp.inj, rp.top, fun j b e => ?_, fun p hp => (rp.tab p hp).mono (fun ps e => by rw [upd_ne (fun z => by rw [z] at e; rcases hd with q | q <;> rw [q] at e <;> cases e)]; exact e) fun c e1 e2 => ⟨by rw [upd_ne (fun z => by rw [z] at e1; rcases hd with q | q <;> rw [q] at e1 <;> (unfold LamX.CodeO at e1; cases e1))]; exact e1, e2⟩⟩
    · obtain ⟨b, e1, q⟩ := rp.cell j c2 e
      refine ⟨b, e1, q.keep le1 (fun o ho => ?_) fun dx2 gs e => ?_⟩
      · have nb : b ≠ dx := fun z => by
          rw [z] at q
          have bad : ∀ o, CellOk G ρ H dx c2 → H dx = some o → (∀ x, o ≠ .own x) ∧ ∀ x, o ≠ .xd x := fun o q ho => by
            cases c2 with
            | lst l => obtain ⟨_, h, _⟩ := q; rw [h] at ho; cases ho; exact ⟨fun _ z => (nomatch z), fun _ z => (nomatch z)⟩
            | dct lk l =>
              rcases q with ⟨_, h, _⟩ | ⟨_, _, h, _⟩
              · cases lk with
                | zero => rw [show H dx = _ from h] at ho; cases ho; exact ⟨fun _ z => (nomatch z), fun _ z => (nomatch z)⟩
                | succ k => obtain ⟨_, h⟩ := h; rw [h] at ho; cases ho; exact ⟨fun _ z => (nomatch z), fun _ z => (nomatch z)⟩
              · cases lk with
                | zero => rw [show H dx = _ from h] at ho; cases ho; exact ⟨fun _ z => (nomatch z), fun _ z => (nomatch z)⟩
                | succ k => obtain ⟨_, h⟩ := h; rw [h] at ho; cases ho; exact ⟨fun _ z => (nomatch z), fun _ z => (nomatch z)⟩
            | ins k l =>
              obtain ⟨_, _, _, _, h, _⟩ := q
              rcases h with ⟨h, _⟩ | ⟨h, _⟩
              · rw [h] at ho; cases ho; exact ⟨fun _ z => (nomatch z), fun _ z => (nomatch z)⟩
              · rw [h] at ho; cases ho; exact ⟨fun _ z => (by unfold SlX.SlO at z; cases z), fun _ z => (by unfold SlX.SlO at z; cases z)⟩
            | dice => obtain ⟨_, _, _, h⟩ := q; rw [h] at ho; cases ho; exact ⟨fun _ z => (nomatch z), fun _ z => (nomatch z)⟩
            | exv k fs => obtain ⟨_, _, _, h, _⟩ := q; rw [h] at ho; cases ho; exact ⟨fun _ z => (by unfold exo at z; cases z), fun _ z => (by unfold exo at z; cases z)⟩
            | raw l => obtain ⟨_, _, _, _, h, _⟩ := q; rw [h] at ho; cases ho; exact ⟨fun _ z => (by unfold knownO at z; cases z), fun _ z => (by unfold knownO at z; cases z)⟩
          rcases hd with e | e
          · exact (bad _ q e).1 _ rfl
          · exact (bad _ q e).2 _ rfl
        rw [upd_ne nb]
        exact ho
      · by_cases z : dx2 = dx
        · rw [z] at e ⊢
          rcases hd with e2 | e2
          · rw [e2] at e; cases e
          · rw [e2] at e; cases e; exact upd_same
        · rw [upd_ne z]; exact e
    · obtain ⟨o, q⟩ := rp.dom j b e
      by_cases z : b = dx
      · exact ⟨_, by rw [z]; exact upd_same⟩
      · exact ⟨o, by rw [upd_ne z]; exact q⟩
  refine ⟨le2, ?_⟩
  refine rp1.set (o := SlX.SlO a C dx (SlX.putS i v vs)) hi ha w3 ⟨C, dx, _, hC, .inr ⟨upd_same, by rw [upd_ne ne]; exact upd_same⟩, ?_⟩
  exact (hrl.mono le2).put (rv.mono le2) i
def sStA (tab : List (Nat × Nat)) (o v : ME) : MS := fun sd S => bindS (v sd S) sd fun d S1 => bindS (o sd S1) sd fun od S2 => match clsD od S2 with
  | some c => (match tab.lookup c with
    | some i => (match setD od i d S2 with
      | some S3 => .nx sd S3
      | none => .stuck)
    | none => .stuck)
  | none => .stuck
inductive StTab (G : Glo) (f : Str) : List (Nat × Nat) → Prop
  | nil : StTab G f []
  | cons {c i : Nat} {r : List (Nat × Nat)} (h : ∃ C p, G.ca c = .ref C ∧ SlX.SCls G.K C ∧ SlX.Slot1 G.K C f p i) (t : StTab G f r) : StTab G f ((c, i) :: r)
theorem StTab.get {f : Str} {tab : List (Nat × Nat)} (t : StTab G f tab) {c : Nat} {k : Nat} (h : tab.lookup c = some k) : ∃ C p, G.ca c = .ref C ∧ SlX.SCls G.K C ∧ SlX.Slot1 G.K C f p k := by
  induction t with
  | nil => cases h
  | @cons c' k' r h1 t ih =>
    by_cases e : c = c'
    · subst e
      have e2 : k' = k := by simpa [List.lookup] using h
      subst e2
      exact h1
    · have e' : (c == c') = false := by simpa using e
      exact ih (by simpa [List.lookup, e'] using h)
theorem ps_stA {o value : Expr} {f : Str} {mo mv : ME} {tab : List (Nat × Nat)} {pos pos' : Pos} (ht : StTab G f tab) (ho : PEm G X o mo) (hv : PEm G X value mv) (hs : swapsWith value (some (.Attribute o f pos')) pos.line X.env = pure false := by rfl) :
    PSm G X (.Assign [.Attribute o f pos'] value pos) (sStA tab mo mv) := fun W ok => by
  refine ⟨fun pins s σ H E I h => ?_⟩
  obtain ⟨sd, S, ρ, hsd, hr, h⟩ := h
  let K2 : D → D → Sto → SRes := fun d od S2 => match clsD od S2 with
    | some c => (match tab.lookup c with
      | some i => (match setD od i d S2 with
        | some S3 => .nx sd S3
        | none => .stuck)
      | none => .stuck)
    | none => .stuck
  have t : te G mv W σ H (fun y H1 => ∃ ρ1 S1 d, RelSt G ρ1 H1 sd σ ∧ Rep G ρ1 S1 H1 ∧ RelD G ρ1 H1 d y ∧ AftS G ρ1 H1 (bindS (mo sd S1) sd fun od S2 => K2 d od S2) E W) := ⟨sd, S, ρ, hsd, hr, AftS.bind h hsd fun ρ1 H1 v d S1 le1 r1 rd h1 => ⟨ρ1, S1, d, hsd.mono le1, r1, rd, h1⟩⟩
  refine plainObj_wpAny_Assign_Attribute (thn ((hv W ok).run pins s σ H _ I t) fun u s1 ⟨y, H1, I1, ry, q⟩ => ?_) hs
  obtain ⟨ρ1, S1, d, hs1, rp1, rd1, q⟩ := q
  have t2 : te G mo W σ H1 (fun x H2 => ∃ ρ2 S2 od, RelSt G ρ2 H2 sd σ ∧ Rep G ρ2 S2 H2 ∧ RelD G ρ2 H2 d y ∧ RelD G ρ2 H2 od x ∧ AftS G ρ2 H2 (K2 d od S2) E W) := ⟨sd, S1, ρ1, hs1, rp1, AftS.bind q hs1 fun ρ2 H2 v od S2 le2 r2 rod h2 => ⟨ρ2, S2, od, hs1.mono le2, r2, rd1.mono le2, rod, h2⟩⟩
  refine thn ((ho W ok).run pins s1 σ H1 _ I1 t2) fun ov s2 ⟨x, H2, I2, rx, q2⟩ => ?_
  obtain ⟨ρ2, S2, od, hs2, rp2, rd2, rod, q2⟩ := q2
  simp only [K2] at q2
  split at q2
  · rename_i c hc
    obtain ⟨n, a, C, dx, vs, l, rfl, el, rfl, en, hC, hsl, hrl⟩ := clsD_ok rp2 rod hc
    cases rx
    split at q2
    · rename_i i hi
      obtain ⟨C', p, hC', sc, st⟩ := ht.get hi
      rw [hC] at hC'
      cases hC'
      rw [ok.kk] at sc st
      split at q2
      · rename_i S3 e3
        simp only [setD, el, Option.some.injEq] at e3
        subst e3
        have hd : H2 dx = some (.own a) ∨ H2 dx = some (.xd []) := by
          rcases hsl with ⟨h1, _⟩ | ⟨_, h2⟩
          · obtain ⟨_, _, _, _, _, ho⟩ := ins_get I2.hok h1
            exact .inl ho
          · exact .inr h2
        obtain ⟨le3, rp3⟩ := rep_slot (i := i) rp2 el en hC hsl hrl hd (SlX.slt_at I2 hsl).1 rd2
        exact SlX.setslot_ok I2 hsl sc st ry fun s3 I3 => ⟨σ, _, I3, q2 ρ2 _ σ le3 rp3 (hs2.mono le3)⟩
      · exact q2.elim
    · exact q2.elim
  · exact q2.elim
end
end Y

/-! Z3: operators of own classes. -/
namespace PySem.W
open PySem PyProof.Rows
section
variable {prog : Program} {w : World} {A : Around} {E : Value → Shared → Prop} {s : Shared} {K : Frag} {x C L f : Addr} {h₀ : Heap} {m : Str → Option Value} {ox : Obj} {od : Option Obj} {b tb : Value}
/-- object.__ne__ asks the own __eq__ -/
theorem yne_entry {Q : Fin → Shared → Prop} (hu : A.units < cLine) (X : K.In s.heap) (I : InstAt s.heap x ox C od) (hs : findIn K (.ref C) "__eq__" = some (some (.ref f))) (hf : isFn K (.ref f) = true)
    (hcall : wpAny (model prog w) A (call (.ref f) [.ref x, b]) (fun v s' => ∃ r, v = .bool r ∧ Q (.done (.ret (.bool (!r)))) s') E s) :
    wpAny (model prog w) A (Builtin.«object.__ne__» ⟨[.ref x, b], []⟩) Q E s := by
  obtain ⟨hh, g, d, t, os⟩ := s
  unfold Builtin.«object.__ne__»
  repeat (first
    | with_reducible refine wpAny_cRoomFor hu ?_
    | (refine wpAny_bind (m := callSpecialIfBound? (.ref x) (Str.ofString "__eq__") [b])
        (ifBound_K X I hs hf (wpAny_mono hcall (fun r s' hr => by
          obtain ⟨q, rfl, hq⟩ := hr
          repeat (first | exact hq | exact wpAny_pure hq | exact wpAny_truthy_bool hq | (refine wpAny_bind (m := truthy (.bool _)) (wpAny_truthy_bool ?_)) | wp_step)) fun _ _ e => e)))
    | wp_step)
theorem yne_K {Q : Value → Shared → Prop} (hu : A.units + 1 < cLine) (Fx : Fr h₀ L s.heap m) (X₀ : K.In h₀) (I : InstAt s.heap x ox C od) (hb : Looks (model prog w) s.heap (typeOf b) tb) (hn : notFirst K C tb = true)
    (hs : findIn K (.ref C) "__eq__" = some (some (.ref f))) (hf : isFn K (.ref f) = true) (hne : findIn K (.ref C) "__ne__" = some (some (.builtin "object.__ne__"))) (hm : mroIn K C (.type "object") = some true)
    (h : wpAny (model prog w) A.in1 (call (.ref f) [.ref x, b]) (fun v s' => ∃ r, v = .bool r ∧ Q (.bool (!r)) s') E s) : wpAny (model prog w) A (richCompare .NotEq (.ref x) b) Q E s := by
  have X := X₀.keeps Fx.keep
  have one : wpAny (model prog w) A (tryCompare (.ref x) (cmpInfo .NotEq).2.1 b) (fun r s' => ∃ v, r = some v ∧ Q v s') E s := by
    unfold tryCompare
    refine wpAny_bind (NtL.csib (id := "object.__ne__") (I.type.andThen (looks_findIn X hne)) (F.cmp_object.ne.bind _) ?_)
    refine wpAny_call (codeAny_call_builtin F.cmp_object.ne.plain F.cmpEntry_ne (check_slot F.cmpKind_ne F.cmpSplit_ne (I.type.andThen (looks_mroIn X hm)) (F.cmpArgs_ne _ _) ?_))
    refine yne_entry (A := A.in1) hu X I hs hf (wpAny_mono h (fun v s' hv => ?_) fun _ _ e => e)
    obtain ⟨r, rfl, hq⟩ := hv
    first | exact ⟨r, rfl, wpAny_pure ⟨_, rfl, hq⟩⟩ | exact ⟨r, rfl, ⟨_, rfl, hq⟩⟩ | exact ⟨r, rfl, wpAny_pure (wpAny_pure ⟨_, rfl, hq⟩)⟩
  unfold richCompare
  simp only [oneThing_ref]
  refine wpAny_holding (wpAny_bind (wpAny_cRoomFor (Nat.lt_of_succ_lt hu) ?_))
  refine wpAny_bind (I.type.here (wpAny_bind (hb.here ?_)))
  split
  · rename_i q
    have e : subIn K tb (.ref C) = some false := by
      rcases Bool.or_eq_true_iff.mp hn with e | e
      · rw [beq_iff_eq.mp e] at q; simp at q
      · exact beq_iff_eq.mp e
    refine wpAny_bind ((looks_subIn X e).here ?_)
    simp only [Bool.false_eq_true, if_false]
    refine wpAny_bind (wpAny_mono one (fun r s' z => ?_) fun _ _ e => e)
    obtain ⟨v, rfl, hq⟩ := z
    exact wpAny_pure hq
  · refine wpAny_bind (wpAny_pure ?_)
    simp only [Bool.false_eq_true, if_false]
    refine wpAny_bind (wpAny_mono one (fun r s' z => ?_) fun _ _ e => e)
    obtain ⟨v, rfl, hq⟩ := z
    exact wpAny_pure hq
end
end PySem.W
namespace Y
open PySem PySem.Spec PyProof.Rows L2
section
variable {G : Glo} {X : Cx} {ρ : Rho} {H : Hp}
/-- the type of a value -/
theorem ty_looks {pins : List (Addr × Obj)} {s : Shared} {σ : L2.St} {S : Sto} {d : D} {x : V} {u : Value} {t : Nat} (kk : G.K = X.K) (bt : ∀ n T, btn n = some T → G.ca n = .type T) (I : Inv X pins σ H s) (rx : RelV x u) (rp : Rep G ρ S H) (rd : RelD G ρ H d x) (h : tyD d S = some t) :
    PySem.W.Looks (model X.prog X.w) s.heap (typeOf u) (G.ca t) := by
  rcases tyD_ok (X := X) kk bt rp rd h with ty | ⟨a, C, dx, vs, rfl, hC, hs⟩
  · obtain ⟨P, kx, hP, _⟩ := kitZ_of I rx ty
    exact kx.ty _ _ I.kIn hP
  · cases rx
    obtain ⟨sl, od, _, J, _⟩ := SlX.slt_inst I hs
    rw [hC]
    exact J.type
/-! ### binary operators -/
def isIntD : D → Bool
  | .int _ => true
  | _ => false
def binO (tab : List (Nat × MF)) (base : D → D → Sto → Res D) (d e : D) (S : Sto) : Res D := match clsD d S with
  | some c => (match tab.lookup c with
    | some f => if isIntD e || decide (clsD e S = some c) then f [d, e] S else .stuck
    | none => .stuck)
  | none => base d e S
def BoOk (G : Glo) (X : Cx) (op : Operator) (c : Nat) (f : MF) : Prop := ∃ C g, G.ca c = .ref C ∧ PySem.W.selfFirst G.K C = true ∧ PySem.W.findIn G.K (.ref C) (PySem.dunder op.info.2) = some (some (.ref g)) ∧ PySem.W.isFn G.K (.ref g) = true ∧
  (PySem.W.findIn G.K (.ref C) (dunderR op.info.2) = some none) ∧ (∃ fo ro, PySem.W.findIn G.K (.type "int") (PySem.dunder op.info.2) = some fo ∧ PySem.W.findIn G.K (.type "int") (dunderR op.info.2) = some ro) ∧ PySem.W.subIn G.K (.type "int") (.ref C) = some false ∧ CallM G X (.ref g) f
inductive BoTab (G : Glo) (X : Cx) (op : Operator) : List (Nat × MF) → Prop
  | nil : BoTab G X op []
  | cons {c : Nat} {k : MF} {r : List (Nat × MF)} (h : BoOk G X op c k) (t : BoTab G X op r) : BoTab G X op ((c, k) :: r)
theorem BoTab.get {op : Operator} {tab : List (Nat × MF)} (t : BoTab G X op tab) {c : Nat} {k : MF} (h : tab.lookup c = some k) : BoOk G X op c k := by
  induction t with
  | nil => cases h
  | @cons c' k' r h1 t ih =>
    by_cases e : c = c'
    · subst e
      have e2 : k' = k := by simpa [List.lookup] using h
      subst e2
      exact h1
    · have e' : (c == c') = false := by simpa using e
      exact ih (by simpa [List.lookup, e'] using h)
theorem EPcmp {pins : List (Addr × Obj)} {σ : L2.St} {Q : VK} {v : Value} {s : Shared} (h : EP X pins σ Q v s) : PySem.W.CmpBack (EP X pins σ Q) v s := by
  obtain ⟨z, H', I, r, q⟩ := h
  exact SlX.cmpback r ⟨z, H', I, r, q⟩
theorem om_binO {op : Operator} {tab : List (Nat × MF)} {base : D → D → Sto → Res D} (ht : BoTab G X op tab) (hb : OpM G X (binaryOp op) base) : OpM G X (binaryOp op) (binO tab base) := fun W ok pins s σ H ρ S x y v u d e Q I rx ry rp rd re q => by
  unfold binO at q
  split at q
  · rename_i c hc
    obtain ⟨n, a, C, dx, vs, l, rfl, el, rfl, en, hC, hsl, hrl⟩ := clsD_ok rp rd hc
    cases rx
    split at q
    · rename_i f hf
      obtain ⟨C', g, hC', sf, fi, isf, fr, ⟨fo, ro, h1, h2⟩, hsub, cm⟩ := ht.get hf
      rw [hC] at hC'
      cases hC'
      rw [ok.kk] at sf fi isf fr h1 h2 hsub
      split at q
      · rename_i hr
        obtain ⟨sl, od, _, J, _⟩ := SlX.slt_inst I hsl
        obtain ⟨mf, F⟩ := I.fr
        have run : wpAny (model X.prog X.w) X.A (call (.ref g) [.ref a, u]) (PySem.W.CmpBack (EP X pins σ Q)) X.xe s :=
          wpAny_mono (cm W ok pins s σ H ρ S [.ref a, y] [.ref a, u] [.loc n, e] Q I (.cons rfl (.cons ry .nil)) rp (.cons rd (.one re)) q) (fun v s' h => EPcmp h) fun _ _ h => h
        rcases Bool.or_eq_true_iff.mp hr with hi | hi
        · cases e with
          | int i =>
            simp only [RelD] at re
            subst re
            obtain ⟨t, rfl⟩ := ry
            exact PySem.W.ksp_binT (T := "int") F I.ok.mod.kin J rfl sf fi isf fr (.inl rfl) h1 h2 hsub run
          | _ => cases hi
        · have hi := of_decide_eq_true hi
          obtain ⟨n2, a2, C2, dx2, vs2, l2, rfl, el2, rfl, en2, hC2, hsl2, hrl2⟩ := clsD_ok rp re hi
          rw [hC] at hC2
          cases hC2
          cases ry
          obtain ⟨sl2, od2, _, J2, _⟩ := SlX.slt_inst I hsl2
          exact PySem.W.binop_K F I.ok.mod.kin J J2.type sf fi isf run
      · exact q.elim
    · exact q.elim
  · exact hb W ok pins s σ H ρ S x y v u d e Q I rx ry rp rd re q
def unO (tab : List (Nat × MF)) (base : D → Sto → Res D) (d : D) (S : Sto) : Res D := match clsD d S with
  | some c => (match tab.lookup c with
    | some f => f [d] S
    | none => .stuck)
  | none => base d S
def NgOk (G : Glo) (X : Cx) (c : Nat) (f : MF) : Prop := ∃ C g, G.ca c = .ref C ∧ PySem.W.findIn G.K (.ref C) "__neg__" = some (some (.ref g)) ∧ PySem.W.isFn G.K (.ref g) = true ∧ CallM G X (.ref g) f
inductive NgTab (G : Glo) (X : Cx) : List (Nat × MF) → Prop
  | nil : NgTab G X []
  | cons {c : Nat} {k : MF} {r : List (Nat × MF)} (h : NgOk G X c k) (t : NgTab G X r) : NgTab G X ((c, k) :: r)
theorem NgTab.get {tab : List (Nat × MF)} (t : NgTab G X tab) {c : Nat} {k : MF} (h : tab.lookup c = some k) : NgOk G X c k := by
  induction t with
  | nil => cases h
  | @cons c' k' r h1 t ih =>
    by_cases e : c = c'
    · subst e
      have e2 : k' = k := by simpa [List.lookup] using h
      subst e2
      exact h1
    · have e' : (c == c') = false := by simpa using e
      exact ih (by simpa [List.lookup, e'] using h)
theorem um_negO {tab : List (Nat × MF)} {base : D → Sto → Res D} (ht : NgTab G X tab) (hb : UnM G X (unaryOp .USub) base) : UnM G X (unaryOp .USub) (unO tab base) := fun W ok pins s σ H ρ S x v d Q I rx rp rd q => by
  unfold unO at q
  split at q
  · rename_i c hc
    obtain ⟨n, a, C, dx, vs, l, rfl, el, rfl, en, hC, hsl, hrl⟩ := clsD_ok rp rd hc
    cases rx
    split at q
    · rename_i f hf
      obtain ⟨C', g, hC', fi, isf, cm⟩ := ht.get hf
      rw [hC] at hC'
      cases hC'
      rw [ok.kk] at fi isf
      obtain ⟨sl, od, _, J, _⟩ := SlX.slt_inst I hsl
      obtain ⟨mf, F⟩ := I.fr
      exact PySem.W.ksp_neg F I.ok.mod.kin J fi isf (cm W ok pins s σ H ρ S [.ref a] [.ref a] [.loc n] Q I (.cons rfl .nil) rp (.one rd) q)
    · exact q.elim
  · exact hb W ok pins s σ H ρ S x v d Q I rx rp rd q
/-! ### ==, != -/
def eqO (tab : List (Nat × MF)) (ts : List Nat) (base : D → D → Sto → Res D) (d e : D) (S : Sto) : Res D := match clsD d S with
  | some c => (match tab.lookup c, tyD e S with
    | some f, some t => if ts.contains t then f [d, e] S else .stuck
    | _, _ => .stuck)
  | none => base d e S
def neO (tab : List (Nat × MF)) (ts : List Nat) (base : D → D → Sto → Res D) (d e : D) (S : Sto) : Res D := match clsD d S with
  | some c => (match tab.lookup c, tyD e S with
    | some f, some t => if ts.contains t then (f [d, e] S).bind fun r S1 => match r with
      | .bl b => .ok (.bl (!b)) S1
      | _ => .stuck else .stuck
    | _, _ => .stuck)
  | none => base d e S
/-- what == asks of a class: its own __eq__, run by the mirror; r: one call deeper, too -/
def EqOk (G : Glo) (X : Cx) (ts : List Nat) (c : Nat) (f : MF) : Prop := ∃ C g k, G.ca c = .ref C ∧ PySem.W.findIn G.K (.ref C) "__eq__" = some (some (.ref g)) ∧ PySem.W.isFn G.K (.ref g) = true ∧ PySem.W.findIn G.K (.ref C) "__ne__" = some (some (.builtin "object.__ne__")) ∧
  PySem.W.mroIn G.K C (.type "object") = some true ∧ (∀ t ∈ ts, PySem.W.notFirst G.K C (G.ca t) = true) ∧ FnG G X.prog X.w X.mg X.base k g f ∧ Room (k + 1) X.A ∧ X.A.guards = some []
inductive EqTab (G : Glo) (X : Cx) (ts : List Nat) : List (Nat × MF) → Prop
  | nil : EqTab G X ts []
  | cons {c : Nat} {k : MF} {r : List (Nat × MF)} (h : EqOk G X ts c k) (t : EqTab G X ts r) : EqTab G X ts ((c, k) :: r)
theorem EqTab.get {ts : List Nat} {tab : List (Nat × MF)} (t : EqTab G X ts tab) {c : Nat} {k : MF} (h : tab.lookup c = some k) : EqOk G X ts c k := by
  induction t with
  | nil => cases h
  | @cons c' k' r h1 t ih =>
    by_cases e : c = c'
    · subst e
      have e2 : k' = k := by simpa [List.lookup] using h
      subst e2
      exact h1
    · have e' : (c == c') = false := by simpa using e
      exact ih (by simpa [List.lookup, e'] using h)
theorem om_eqO {tab : List (Nat × MF)} {ts : List Nat} {base : D → D → Sto → Res D} (bt : ∀ n T, btn n = some T → G.ca n = .type T) (ht : EqTab G X ts tab) (hb : OpM G X (compareOp .Eq) base) : OpM G X (compareOp .Eq) (eqO tab ts base) := fun W ok pins s σ H ρ S x y v u d e Q I rx ry rp rd re q => by
  unfold eqO at q
  split at q
  · rename_i c hc
    obtain ⟨n, a, C, dx, vs, l, rfl, el, rfl, en, hC, hsl, hrl⟩ := clsD_ok rp rd hc
    cases rx
    split at q
    · rename_i f t hf hty
      obtain ⟨C', g, k, hC', fi, isf, fne, mro, nf, F, hr, hg⟩ := ht.get hf
      rw [hC] at hC'
      cases hC'
      rw [ok.kk] at fi isf
      split at q
      · rename_i hin
        have nf := nf t (by simpa using hin)
        rw [ok.kk] at nf
        obtain ⟨sl, od, _, J, _⟩ := SlX.slt_inst I hsl
        obtain ⟨mf, Fr⟩ := I.fr
        have hlo := ty_looks ok.kk bt I ry rp re hty
        show wpAny _ _ (richCompare .Eq (.ref a) u) _ _ _
        refine PySem.W.cmp_K (op := .Eq) hr.units0 Fr I.ok.mod.kin J hlo nf fi isf ?_
        exact wpAny_mono (cm_fnG F (hr.mono (Nat.le_succ _)) hg W ok pins s σ H ρ S [.ref a, y] [.ref a, u] [.loc n, e] Q I (.cons rfl (.cons ry .nil)) rp (.cons rd (.one re)) q) (fun v s' h => EPcmp h) fun _ _ h => h
      · exact q.elim
    · exact q.elim
  · exact hb W ok pins s σ H ρ S x y v u d e Q I rx ry rp rd re q
/-- a def's call one step deeper -/
theorem run_in1 {W : WX} {pins : List (Addr × Obj)} {s : Shared} {σ : L2.St} {S : Sto} {g : Addr} {k : Nat} {f : MF} {xs : List V} {us : List Value} {ds : List D} {Q : VK} (ok : XOk G X W) (F : FnG G X.prog X.w X.mg X.base k g f) (hr : Room (k + 1) X.A) (hg : X.A.guards = some []) (I : Inv X pins σ H s) (r : Vals xs us) (rp : Rep G ρ S H) (rd : RelDs G ρ H ds xs)
    (q : Aft G (RelD G) ρ H (f ds S) Q (fun c a H' => W c a σ H')) : wpAny (model X.prog X.w) X.A.in1 (call (.ref g) us) (EP X pins σ Q) X.xe s := by
  have e0 := I.env0.in1
  rw [← ok.kk] at e0
  refine wpAny_call (codeAny_mono (F X.A.in1 X.stack s H us xs Q (fun c a H' => W c a σ H') hr.in1 hg e0 r ⟨ds, S, ρ, rd, rp, q⟩) fun r s' hq => ?_)
  cases r with
  | error e => exact ok.tk e s' (XE.of_call I (fun cls d H' h => h) hq)
  | ok fl =>
    cases fl with
    | ret u => exact I.after hq
    | next => exact False.elim hq
    | brk => exact False.elim hq
    | cont => exact False.elim hq
theorem om_neO {tab : List (Nat × MF)} {ts : List Nat} {base : D → D → Sto → Res D} (bt : ∀ n T, btn n = some T → G.ca n = .type T) (ht : EqTab G X ts tab) (hb : OpM G X (compareOp .NotEq) base) : OpM G X (compareOp .NotEq) (neO tab ts base) := fun W ok pins s σ H ρ S x y v u d e Q I rx ry rp rd re q => by
  unfold neO at q
  split at q
  · rename_i c hc
    obtain ⟨n, a, C, dx, vs, l, rfl, el, rfl, en, hC, hsl, hrl⟩ := clsD_ok rp rd hc
    cases rx
    split at q
    · rename_i f t hf hty
      obtain ⟨C', g, k, hC', fi, isf, fne, mro, nf, F, hr, hg⟩ := ht.get hf
      rw [hC] at hC'
      cases hC'
      rw [ok.kk] at fi isf fne mro
      split at q
      · rename_i hin
        have nf := nf t (by simpa using hin)
        rw [ok.kk] at nf
        obtain ⟨sl, od, _, J, _⟩ := SlX.slt_inst I hsl
        obtain ⟨mf, Fr⟩ := I.fr
        have hlo := ty_looks ok.kk bt I ry rp re hty
        have q2 : Aft G (RelD G) ρ H (f [.loc n, e] S) (fun z H' => ∃ b, z = .bl b ∧ Q (.bl (!b)) H') (fun c a H' => W c a σ H') := Aft.bind q fun ρ1 H1 v r S1 le r1 rv h1 => by
          cases r with
          | bl b =>
            simp only [RelD] at rv
            exact ⟨b, rv, h1.ok r1 rel_bl⟩
          | _ => exact h1.elim
        show wpAny _ _ (richCompare .NotEq (.ref a) u) _ _ _
        refine PySem.W.yne_K (by have := hr.units; have := Nat.le_add_right X.A.units 1; omega) Fr I.ok.mod.kin J hlo nf fi isf fne mro ?_
        refine wpAny_mono (run_in1 (xs := [.ref a, y]) (us := [.ref a, u]) ok F hr hg I (.cons rfl (.cons ry .nil)) rp (.cons rd (.one re)) q2) (fun v s' h => ?_) fun _ _ h => h
        obtain ⟨z, H', I', rz, b, ez, qz⟩ := h
        subst ez
        cases rz
        exact ⟨b, rfl, .bl (!b), H', I', rfl, qz⟩
      · exact q.elim
    · exact q.elim
  · exact hb W ok pins s σ H ρ S x y v u d e Q I rx ry rp rd re q
end
end Y

/-! Z4: dicts. -/
namespace Y
open PySem PySem.Spec PyProof.Rows L2
def keqA : D → D → Bool
  | .int i, .int j => decide (i = j)
  | .str x, .str y => decide (x = y)
  | _, _ => false
def keqL : List D → List D → Bool
  | [], [] => true
  | a :: x, b :: y => keqA a b && keqL x y
  | _, _ => false
def keq : D → D → Bool
  | .tup x, .tup y => keqL x y
  | d, e => keqA d e
def atomB : D → Bool
  | .int _ => true
  | .str _ => true
  | _ => false
def keyTB : D → Bool
  | .tup l => l.all atomB
  | _ => false
def getKD (l : List (D × D)) (k : D) : Option D := match l with
  | [] => none
  | p :: r => if keq p.1 k then some p.2 else getKD r k
def putKD (l : List (D × D)) (k v : D) : List (D × D) := if l.any (fun p => keq p.1 k) then l.map (fun p => if keq p.1 k then (p.1, v) else p) else l ++ [(k, v)]
theorem keqA_ok {d e : D} {a b : Key} (h1 : keyD d = some a) (h2 : keyD e = some b) : keqA d e = decide (a = b) := by
  cases d with
  | int i =>
    cases h1
    cases e with
    | int j => cases h2; simp [keqA]
    | str y => cases h2; simp [keqA]
    | _ => cases h2
  | str x =>
    cases h1
    cases e with
    | int j => cases h2; simp [keqA]
    | str y => cases h2; simp [keqA]
    | _ => cases h2
  | _ => cases h1
theorem keqL_ok : ∀ {l m : List D} {ks js : List Key}, keysD l = some ks → keysD m = some js → keqL l m = decide (ks = js)
  | [], [], ks, js, h1, h2 => by cases h1; cases h2; rfl
  | [], e :: m, ks, js, h1, h2 => by
    cases h1
    simp only [keysD] at h2
    split at h2
    · cases h2; simp [keqL]
    · cases h2
  | d :: l, [], ks, js, h1, h2 => by
    cases h2
    simp only [keysD] at h1
    split at h1
    · cases h1; simp [keqL]
    · cases h1
  | d :: l, e :: m, ks, js, h1, h2 => by
    simp only [keysD] at h1 h2
    split at h1
    · rename_i k ks' e1 e2
      cases h1
      split at h2
      · rename_i j js' e3 e4
        cases h2
        rw [keqL, keqA_ok e1 e3, keqL_ok e2 e4]
        by_cases h : k = j <;> by_cases h' : ks' = js' <;> simp [h, h']
      · cases h2
    · cases h1
theorem keq_k {d e : D} {a b : Key} (h1 : keyD d = some a) (h2 : keyD e = some b) : keq d e = decide (a = b) := by
  have := keqA_ok h1 h2
  cases d with
  | tup l => cases h1
  | _ => exact this
theorem keq_t {d e : D} {a b : List Key} (h1 : keyT d = some a) (h2 : keyT e = some b) : keq d e = decide (a = b) := by
  cases d with
  | tup l =>
    cases e with
    | tup m => exact keqL_ok h1 h2
    | _ => cases h2
  | _ => cases h1
theorem keyD_atom {d : D} (h : atomB d = true) : ∃ k, keyD d = some k := by
  cases d with
  | int i => exact ⟨_, rfl⟩
  | str i => exact ⟨_, rfl⟩
  | _ => cases h
theorem keysD_all : ∀ {l : List D}, l.all atomB = true → ∃ ks, keysD l = some ks
  | [], _ => ⟨[], rfl⟩
  | d :: l, h => by
    rw [List.all_cons, Bool.and_eq_true] at h
    obtain ⟨k, e1⟩ := keyD_atom h.1
    obtain ⟨ks, e2⟩ := keysD_all h.2
    exact ⟨k :: ks, by simp only [keysD, e1, e2]⟩
theorem keyT_all {d : D} (h : keyTB d = true) : ∃ ks, keyT d = some ks := by
  cases d with
  | tup l => exact keysD_all h
  | _ => cases h
section
variable {G : Glo} {X : Cx} {ρ : Rho} {H : Hp}
theorem PairK.val {κ : Type} [DecidableEq κ] {kf : D → Option κ} (hk : ∀ {d e : D} {a b : κ}, kf d = some a → kf e = some b → keq d e = decide (a = b)) {key : D} {k : κ} (ek : kf key = some k) : ∀ {l : List (D × D)} {kvs : List (κ × V)}, PairK kf G ρ H l kvs →
    (∀ d, getKD l key = some d → ∃ v, valV kvs k = some v ∧ RelD G ρ H d v) ∧ (getKD l key = none → valV kvs k = none)
  | [], kvs, h => by
    cases h
    exact ⟨fun d e => by simp [getKD] at e, fun _ => rfl⟩
  | p :: r, kvs, h => by
    obtain ⟨j, v, zs, rfl, h1, h2, h3⟩ := h
    have ih := PairK.val hk ek h3
    simp only [getKD, hk h1 ek]
    by_cases e : j = k
    · subst e
      refine ⟨fun d q => ?_, fun q => by simp at q⟩
      simp only [decide_true, if_true, Option.some.injEq] at q
      subst q
      exact ⟨v, valV_pos rfl, h2⟩
    · have ne : decide (j = k) = false := by simpa using e
      simp only [ne, Bool.false_eq_true, if_false]
      rw [valV_neg (show ¬ (j, v).1 = k from e)]
      exact ih
theorem PairK.any {κ : Type} [DecidableEq κ] {kf : D → Option κ} (hk : ∀ {d e : D} {a b : κ}, kf d = some a → kf e = some b → keq d e = decide (a = b)) {key : D} {k : κ} (ek : kf key = some k) : ∀ {l : List (D × D)} {kvs : List (κ × V)}, PairK kf G ρ H l kvs → (l.any fun p => keq p.1 key) = kvs.any fun kv => decide (kv.1 = k)
  | [], kvs, h => by cases h; rfl
  | p :: r, kvs, h => by
    obtain ⟨j, v, zs, rfl, h1, h2, h3⟩ := h
    rw [List.any_cons, List.any_cons, hk h1 ek, PairK.any hk ek h3]
theorem PairK.rep {κ : Type} [DecidableEq κ] {kf : D → Option κ} (hk : ∀ {d e : D} {a b : κ}, kf d = some a → kf e = some b → keq d e = decide (a = b)) {key d : D} {k : κ} {v : V} (ek : kf key = some k) (rv : RelD G ρ H d v) : ∀ {l : List (D × D)} {kvs : List (κ × V)}, PairK kf G ρ H l kvs →
    PairK kf G ρ H (l.map fun p => if keq p.1 key then (p.1, d) else p) (kvs.map fun kv => if kv.1 = k then (kv.1, v) else kv)
  | [], kvs, h => by cases h; rfl
  | p :: r, kvs, h => by
    obtain ⟨j, u, zs, rfl, h1, h2, h3⟩ := h
    rw [List.map_cons, List.map_cons]
    by_cases e : j = k
    · have q : keq p.1 key = true := by rw [hk h1 ek]; simpa using e
      exact ⟨j, v, _, by simp [e], by simp only [q, if_true]; exact h1, by simp only [q, if_true]; exact rv, PairK.rep hk ek rv h3⟩
    · have q : keq p.1 key = false := by rw [hk h1 ek]; simpa using e
      exact ⟨j, u, _, by simp [e], by simp only [q, Bool.false_eq_true, if_false]; exact h1, by simp only [q, Bool.false_eq_true, if_false]; exact h2, PairK.rep hk ek rv h3⟩
theorem PairK.snoc {κ : Type} {kf : D → Option κ} {key d : D} {k : κ} {v : V} (ek : kf key = some k) (rv : RelD G ρ H d v) : ∀ {l : List (D × D)} {kvs : List (κ × V)}, PairK kf G ρ H l kvs → PairK kf G ρ H (l ++ [(key, d)]) (kvs ++ [(k, v)])
  | [], kvs, h => by cases h; exact ⟨k, v, [], rfl, ek, rv, rfl⟩
  | p :: r, kvs, h => by
    obtain ⟨j, u, zs, rfl, h1, h2, h3⟩ := h
    exact ⟨j, u, _, rfl, h1, h2, PairK.snoc ek rv h3⟩
theorem PairK.put {κ : Type} [DecidableEq κ] {kf : D → Option κ} (hk : ∀ {d e : D} {a b : κ}, kf d = some a → kf e = some b → keq d e = decide (a = b)) {key d : D} {k : κ} {v : V} (ek : kf key = some k) (rv : RelD G ρ H d v) {l : List (D × D)} {kvs : List (κ × V)} (h : PairK kf G ρ H l kvs) :
    PairK kf G ρ H (putKD l key d) (putK kvs k v) := by
  unfold putKD putK
  rw [h.any hk ek]
  split
  · exact h.rep hk ek rv
  · exact h.snoc ek rv
theorem putKD_ne (l : List (D × D)) (k v : D) : putKD l k v ≠ [] := by
  unfold putKD
  split
  · rename_i h
    cases l with
    | nil => simp at h
    | cons p r => simp
  · simp
/-! ### an empty dict may hold keys of any kind -/
theorem inv_turn {pins : List (Addr × Obj)} {σ : L2.St} {s : Shared} {a : Addr} {o : HO} (I : Inv X pins σ H s) (mu : Mut (H a)) (he : ∃ q, s.heap.get? a = some q) (new : ObjOk X.prog X.w (L2.upd H a o) s.heap a o) : Inv X pins σ (L2.upd H a o) s :=
  d_write (h' := s.heap) (t' := s.toks) I mu ⟨rfl, fun _ _ => rfl⟩ he new
theorem turn_dT {pins : List (Addr × Obj)} {σ : L2.St} {s : Shared} {a : Addr} (I : Inv X pins σ H s) (h : H a = some (.dK [])) : Inv X pins σ (L2.upd H a (.dT [])) s := by
  obtain ⟨z, hd, vs, kv, ob, es, ep, ho, hx, hdat, _, hp, _⟩ := I.hok a _ h
  cases kv
  have e0 : es.toList = [] := by cases hq : es.toList with | nil => rfl | cons _ _ => rw [hq] at hp; cases hp
  exact inv_turn I (by rw [h]; exact trivial) ⟨ob, ho⟩ ⟨Nat.zero_le _, hd, [], .nil, ob, es, ep, ho, hx, hdat, e0, List.nodup_nil⟩
theorem turn_dK {pins : List (Addr × Obj)} {σ : L2.St} {s : Shared} {a : Addr} (I : Inv X pins σ H s) (h : H a = some (.dT [])) : Inv X pins σ (L2.upd H a (.dK [])) s := by
  obtain ⟨z, hd, vs, kv, ob, es, ep, ho, hx, hdat, hp, _⟩ := I.hok a _ h
  cases kv
  have e1 : es = #[] := by
    cases es with
    | mk l => cases l with | nil => rfl | cons _ _ => cases hp
  subst e1
  exact inv_turn I (by rw [h]; exact trivial) ⟨ob, ho⟩ ⟨Nat.zero_le _, hd, [], .nil, ob, #[], ep, ho, hx, hdat, fun e he => by simp at he, .nil, List.nodup_nil⟩
theorem upd_back {a : Addr} {o o' : HO} (h : H a = some o) : L2.upd (L2.upd H a o') a o = H := by
  funext b
  by_cases e : b = a
  · rw [e, upd_same, h]
  · rw [upd_ne e, upd_ne e]
/-! ### what a dict holds at a key -/
def dGet (d k : D) (S : Sto) : Option (Option D) := match d with
  | .loc n => (match S.get n with
    | some (.dct lk l) => if (if isK l then atomB k else keyTB k) then some (getKD l k) else if l.isEmpty && decide (lk = 0) && keyTB k then some none else none
    | _ => none)
  | _ => none
def RelO2 (G : Glo) (ρ : Rho) (H : Hp) : Option D → Option V → Prop
  | some d, some v => RelD G ρ H d v
  | none, none => True
  | _, _ => False
theorem isK_pair {l : List (D × D)} {kvs : List (List Key × V)} (hne : l ≠ []) (h : PairK keyT G ρ H l kvs) : isK l = false := by
  cases l with
  | nil => exact absurd rfl hne
  | cons p r =>
    obtain ⟨k, v, zs, rfl, h1, _⟩ := h
    show (keyD p.1).isSome = false
    cases hp : p.1 with
    | tup x => rfl
    | _ => rw [hp] at h1; cases h1
theorem isK_pairK {l : List (D × D)} {kvs : List (Key × V)} (h : PairK keyD G ρ H l kvs) : isK l = true := by
  cases l with
  | nil => rfl
  | cons p r =>
    obtain ⟨k, v, zs, rfl, h1, _⟩ := h
    simp [isK, h1]
theorem dGet_ok {pins : List (Addr × Obj)} {σ : L2.St} {s : Shared} {S : Sto} {d k : D} {x y : V} {o : Option D} (I : Inv X pins σ H s) (rp : Rep G ρ S H) (rd : RelD G ρ H d x) (rk : RelD G ρ H k y) (h : dGet d k S = some o) :
    ∃ a H' ov, x = .ref a ∧ Inv X pins σ H' s ∧ DGet H' a y ov ∧ RelO2 G ρ H o ov ∧ ∀ s', Inv X pins σ H' s' → Inv X pins σ H s' := by
  unfold dGet at h
  split at h
  · rename_i n
    simp only [RelD] at rd
    obtain ⟨a, en, rfl⟩ := rd
    split at h
    · rename_i lk l el
      obtain ⟨b, e2, c⟩ := rp.cell n _ el
      rw [en] at e2
      cases e2
      have toRd : ∀ u, DctAt H a lk u → Rd H a u := fun u q => by
        cases lk with
        | zero => exact .inl q
        | succ j => exact .inr q
      rcases c with ⟨kvs, hd, pk⟩ | ⟨hne, kvs, hd, pk⟩
      · rw [isK_pairK pk] at h
        simp only [if_true] at h
        split at h
        · rename_i ha
          cases h
          obtain ⟨ky, eky⟩ := keyD_atom ha
          obtain ⟨v1, v2⟩ := pk.val keq_k eky
          have ey : y = kV ky := by
            have := keyD_rel (G := G) (ρ := ρ) (H := H) eky
            cases k with
            | int i => simp only [RelD] at this rk; rw [rk, this]
            | str i => simp only [RelD] at this rk; rw [rk, this]
            | _ => cases ha
          refine ⟨a, H, valV kvs ky, rfl, I, .inl ⟨kvs, ky, toRd _ hd, ey, rfl⟩, ?_, fun _ h => h⟩
          cases hg : getKD l k with
          | none => rw [v2 hg]; trivial
          | some d' =>
            obtain ⟨v, e1, e2⟩ := v1 d' hg
            rw [e1]
            exact e2
        · split at h
          · rename_i hc
            cases h
            simp only [Bool.and_eq_true, List.isEmpty_iff, decide_eq_true_eq] at hc
            obtain ⟨⟨hl, hz⟩, ht⟩ := hc
            subst hl hz
            cases pk
            have hd : H a = some (.dK []) := hd
            obtain ⟨ks, eks⟩ := keyT_all ht
            cases k with
            | tup m =>
              simp only [RelD] at rk
              obtain ⟨b, xs, rfl, hb, hr⟩ := rk
              have e3 := keysD_rel (G := G) (ρ := ρ) (H := H) (l := m) eks
              have e4 : xs = ks.map kV := relDs_det eks hr
              refine ⟨a, L2.upd H a (.dT []), none, rfl, turn_dT I hd, .inr ⟨[], ks, b, .inl upd_same, rfl, ?_, rfl⟩, trivial, fun s' I' => ?_⟩
              · rw [upd_ne (fun z => by rw [z, hd] at hb; cases hb), hb, e4]
              · have := turn_dK I' upd_same
                rw [upd_back hd] at this
                exact this
            | _ => cases ht
          · cases h
      · rw [isK_pair hne pk] at h
        simp only [Bool.false_eq_true, if_false] at h
        split at h
        · rename_i ha
          cases h
          obtain ⟨ks, eks⟩ := keyT_all ha
          obtain ⟨v1, v2⟩ := pk.val keq_t eks
          cases k with
          | tup m =>
            simp only [RelD] at rk
            obtain ⟨b, xs, rfl, hb, hr⟩ := rk
            have e4 : xs = ks.map kV := relDs_det eks hr
            subst e4
            refine ⟨a, H, valV kvs ks, rfl, I, .inr ⟨kvs, ks, b, toRd _ hd, rfl, hb, rfl⟩, ?_, fun _ h => h⟩
            cases hg : getKD l (.tup m) with
            | none => rw [v2 hg]; trivial
            | some d' =>
              obtain ⟨v, e1, e2⟩ := v1 d' hg
              rw [e1]
              exact e2
          | _ => cases ha
        · split at h
          · rename_i hc
            simp only [Bool.and_eq_true, List.isEmpty_iff] at hc
            exact absurd hc.1.1 hne
          · cases h
    · cases h
  · cases h
where
  relDs_det : ∀ {l : List D} {ks : List Key} {xs : List V}, keysD l = some ks → RelDs G ρ H l xs → xs = ks.map kV
    | [], ks, xs, e, h => by cases e; simp only [RelDs] at h; rw [h]; rfl
    | d :: l, ks, xs, e, h => by
      simp only [keysD] at e
      split at e
      · rename_i k ks' e1 e2
        cases e
        simp only [RelDs] at h
        obtain ⟨v, ys, rfl, h1, h2⟩ := h
        rw [relDs_det e2 h2]
        cases d with
        | int i => cases e1; simp only [RelD] at h1; rw [h1]; rfl
        | str i => cases e1; simp only [RelD] at h1; rw [h1]; rfl
        | _ => cases e1
      · cases e
end
end Y

/-! Z5: rules of dicts. -/
namespace Y
open PySem PySem.Spec PyProof.Rows L2
section
variable {G : Glo} {X : Cx} {ρ : Rho} {H : Hp}
/-! ### in, not in -/
def inSeq (S : Sto) (d e : D) : Option Bool := match toPy S 12 d, toPy S 12 e with
  | some a, some (.list bs) => if SeqAt.shaped a && SeqAt.shaped (.list bs) then some (bs.any fun z => PyData.eqv z a) else none
  | some a, some (.tuple bs) => if SeqAt.shaped a && SeqAt.shaped (.tuple bs) then some (bs.any fun z => PyData.eqv z a) else none
  | _, _ => none
def isDct (d : D) (S : Sto) : Bool := match d with
  | .loc n => (match S.get n with
    | some (.dct _ _) => true
    | _ => false)
  | _ => false
def inD (d e : D) (S : Sto) : Option Bool := if isDct e S then (dGet e d S).map Option.isSome else (match d, e with
  | .str [c], .str z => some (decide (c ∈ z))
  | d, e => inSeq S d e)
def cIn (d e : D) (S : Sto) : Res D := match inD d e S with
  | some b => .ok (.bl b) S
  | none => .stuck
def cNotIn (d e : D) (S : Sto) : Res D := match inD d e S with
  | some b => .ok (.bl (!b)) S
  | none => .stuck
theorem inSeq_ok {S : Sto} {d e : D} {x y : V} {b : Bool} {K : PySem.W.Frag} (kk : G.K = K) (rp : Rep G ρ S H) (h : inSeq S d e = some b) (hd : RelD G ρ H d x) (he : RelD G ρ H e y) :
    ∃ a bs, Dp K H x a ∧ SeqAt.shaped a = true ∧ ((Dp K H y (.list bs) ∧ SeqAt.shaped (.list bs) = true) ∨ (Dp K H y (.tuple bs) ∧ SeqAt.shaped (.tuple bs) = true)) ∧ b = bs.any fun z => PyData.eqv z a := by
  unfold inSeq at h
  split at h
  · rename_i a bs e1 e2
    split at h
    · rename_i hs
      cases h
      rw [Bool.and_eq_true] at hs
      exact ⟨a, bs, toPy_dp kk rp 12 e1 hd, hs.1, .inl ⟨toPy_dp kk rp 12 e2 he, hs.2⟩, rfl⟩
    · cases h
  · rename_i a bs e1 e2
    split at h
    · rename_i hs
      cases h
      rw [Bool.and_eq_true] at hs
      exact ⟨a, bs, toPy_dp kk rp 12 e1 hd, hs.1, .inr ⟨toPy_dp kk rp 12 e2 he, hs.2⟩, rfl⟩
    · cases h
  · cases h
theorem o2_some {o : Option D} {ov : Option V} (h : RelO2 G ρ H o ov) : o.isSome = ov.isSome := by
  cases o <;> cases ov <;> first | rfl | exact h.elim
theorem om_in (hu : X.A.units + 65 < cLine) : OpM G X (compareOp .In) cIn := fun W ok pins s σ H ρ S x y v u d e Q I rx ry rp rd re q => by
  unfold cIn at q
  split at q
  · rename_i b eb
    unfold inD at eb
    split at eb
    · obtain ⟨o, eo, rfl⟩ := Option.map_eq_some_iff.mp eb
      obtain ⟨a, H', ov, rfl, I', g, ro, back⟩ := dGet_ok I rp re rd eo
      cases ry
      exact d_in (by omega) I' g rx fun s' I2 => ⟨.bl _, H, back s' I2, rfl, by rw [← o2_some ro]; exact q.ok rp rel_bl⟩
    · split at eb
      · rename_i c z _
        cases eb
        simp only [RelD] at rd re
        refine op_inS pins s σ H x y v u Q I rx ry ⟨c, ⟨z.toArray⟩, by rw [rd], re, ?_⟩
        have := q.ok rp (rel_bl (G := G) (ρ := ρ) (H := H))
        simpa using this
      · obtain ⟨a, bs, h1, h2, h3, rfl⟩ := inSeq_ok ok.kk rp eb rd re
        obtain ⟨as, r1⟩ := Dp.reads I _ _ _ h1 rx
        rcases h3 with ⟨h3, h4⟩ | ⟨h3, h4⟩
        · obtain ⟨cs, r2⟩ := Dp.reads I _ _ _ h3 ry
          exact SeqAt.in_list_reads r2 r1 (SeqAt.canLay_of_shaped h4) (SeqAt.canLay_of_shaped h2) (room_in_shaped h2 hu) ⟨.bl _, H, I, rfl, q.ok rp rel_bl⟩
        · obtain ⟨cs, r2⟩ := Dp.reads I _ _ _ h3 ry
          exact SeqAt.in_tuple_reads r2 r1 (SeqAt.canLay_of_shaped h4) (SeqAt.canLay_of_shaped h2) (room_in_shaped h2 hu) ⟨.bl _, H, I, rfl, q.ok rp rel_bl⟩
  · exact q.elim
theorem om_notin (hu : X.A.units + 65 < cLine) : OpM G X (compareOp .NotIn) cNotIn := fun W ok pins s σ H ρ S x y v u d e Q I rx ry rp rd re q => by
  unfold cNotIn at q
  split at q
  · rename_i b eb
    unfold inD at eb
    split at eb
    · obtain ⟨o, eo, rfl⟩ := Option.map_eq_some_iff.mp eb
      obtain ⟨a, H', ov, rfl, I', g, ro, back⟩ := dGet_ok I rp re rd eo
      cases ry
      exact d_notIn (by omega) I' g rx fun s' I2 => ⟨.bl _, H, back s' I2, rfl, by rw [← o2_some ro]; exact q.ok rp rel_bl⟩
    · split at eb
      · rename_i c z _
        cases eb
        simp only [RelD] at rd re
        refine op_notInS pins s σ H x y v u Q I rx ry ⟨c, ⟨z.toArray⟩, by rw [rd], re, ?_⟩
        have := q.ok rp (rel_bl (G := G) (ρ := ρ) (H := H))
        simpa using this
      · obtain ⟨a, bs, h1, h2, h3, rfl⟩ := inSeq_ok ok.kk rp eb rd re
        obtain ⟨as, r1⟩ := Dp.reads I _ _ _ h1 rx
        rcases h3 with ⟨h3, h4⟩ | ⟨h3, h4⟩
        · obtain ⟨cs, r2⟩ := Dp.reads I _ _ _ h3 ry
          exact SeqAt.notIn_list_reads r2 r1 (SeqAt.canLay_of_shaped h4) (SeqAt.canLay_of_shaped h2) (room_in_shaped h2 hu) ⟨.bl _, H, I, rfl, q.ok rp rel_bl⟩
        · obtain ⟨cs, r2⟩ := Dp.reads I _ _ _ h3 ry
          exact SeqAt.notIn_tuple_reads r2 r1 (SeqAt.canLay_of_shaped h4) (SeqAt.canLay_of_shaped h2) (room_in_shaped h2 hu) ⟨.bl _, H, I, rfl, q.ok rp rel_bl⟩
  · exact q.elim
/-! ### d[k], x[i], o[i] -/
def IxM (G : Glo) (X : Cx) (slice : Expr) (f : D → D → Sto → Res D) : Prop := ∀ W, XOk G X W →
  ∀ (value : Expr) (pins : List (Addr × Obj)) (s : Shared) (σ : L2.St) (H : Hp) (ρ : Rho) (S : Sto) (x y : V) (v u : Value) (d e : D) (Q : VK), Inv X pins σ H s → RelV x v → RelV y u → Rep G ρ S H → RelD G ρ H d x → RelD G ρ H e y →
    Aft G (RelD G) ρ H (f d e S) Q (fun c a H' => W c a σ H') → wpAny (model X.prog X.w) X.A (subscriptTail value slice v u) (EP X pins σ Q) X.xe s
theorem pm_ixM {a b : Expr} {ma mb : ME} {f : D → D → Sto → Res D} {pos : Pos} (hf : IxM G X b f) (ha : PEm G X a ma) (hb : PEm G X b mb) : PEm G X (.Subscript a b pos) (mBin f ma mb) := fun W ok => by
  refine ⟨fun pins s σ H Q I h => ?_⟩
  refine Subscript_ (binT (ha W ok) (hb W ok) (R := fun x y H2 => ∃ ρ S d e, Rep G ρ S H2 ∧ RelD G ρ H2 d x ∧ RelD G ρ H2 e y ∧ Aft G (RelD G) ρ H2 (f d e S) Q (fun c a H' => W c a σ H')) I (te_bin h fun ρ H2 S d e x y a b c q => ⟨ρ, S, d, e, a, b, c, q⟩) fun v u s2 x y H2 I2 rx ry q => ?_)
  obtain ⟨ρ, S, d, e, h1, h2, h3, q⟩ := q
  exact hf W ok a pins s2 σ H2 ρ S x y v u d e Q I2 rx ry h1 h2 h3 q
theorem ixm_seq {b : Expr} (hs : PlainIx b) : IxM G X b ixD := fun W ok value pins s σ H ρ S x y v u d e Q I rx ry rp rd re q => by
  refine ix_seq value b pins s σ H x y v u Q I rx ry ?_ (hs _ _)
  unfold ixD at q
  split at q
  · rename_i n i
    simp only [RelD] at re
    split at q
    · rename_i l el
      split at q
      · rename_i d' ed
        obtain ⟨p, xs, rfl, e1, hH, ht⟩ := rp.list el rd
        obtain ⟨v, ev, rv⟩ := atI_rel ht ed
        exact .inl ⟨p, xs, i, v, rfl, re, .inl (.inl hH), ev, q.ok rp rv⟩
      · exact q.elim
    · exact q.elim
  · rename_i l i
    simp only [RelD] at re rd
    obtain ⟨p, xs, rfl, hq, ht⟩ := rd
    split at q
    · rename_i d' ed
      obtain ⟨v, ev, rv⟩ := atI_rel ht ed
      exact .inr (.inl ⟨p, xs, i, v, rfl, re, (.inl (.inl hq)), ev, q.ok rp rv⟩)
    · exact q.elim
  · rename_i l i
    simp only [RelD] at re rd
    split at q
    · rename_i hl
      split at q
      · rename_i c ec
        refine .inr (.inr ⟨_, i, c, rd, re, by rw [str_len, sizeLine_eq]; exact hl, ?_, ?_⟩)
        · show atI l.toArray.toList i = some c
          rw [List.toList_toArray]
          exact ec
        · exact q.ok rp rel_str
      · exact q.elim
    · exact q.elim
  · rename_i l i
    simp only [RelD] at re rd
    obtain ⟨p, rfl, hq⟩ := rd
    split at q
    · rename_i c ec
      have hq2 := hq.seq
      rw [ok.kk] at hq2
      refine .inl ⟨p, _, i, .int c, rfl, re, hq2, ?_, q.ok rp rel_int⟩
      unfold atI at ec ⊢
      rw [List.length_map]
      cases hx : ixN l.length i with
      | none => rw [hx] at ec; simp at ec
      | some j =>
        rw [hx] at ec
        simp only [Option.bind_some] at ec ⊢
        rw [List.getElem?_map, ec]
        rfl
    · exact q.elim
  · exact q.elim
def ixG (d e : D) (S : Sto) : Res D := if isDct d S then (match dGet d e S with
  | some (some v) => .ok v S
  | _ => .stuck) else ixD d e S
theorem tail_dict {value slice : Expr} {a : Addr} {u : Value} {s : Shared} {Q : Value → Shared → Prop} (hT : s.TypeIs (.ref a) "dict") (hs : subscripted slice false (.ref a) u = operate [.ref a, u] (getItem (.ref a) u)) (h : wpAny (model X.prog X.w) X.A (getItem (.ref a) u) Q X.xe s) :
    wpAny (model X.prog X.w) X.A (subscriptTail value slice (.ref a) u) Q X.xe s := by
  unfold subscriptTail
  refine wpAny_bind ?_
  rw [getitemInPython_of_ne hT.not_modules]
  refine wpAny_bind (wpAny_specialOf hT PySem.F.slot_dict_getitem.lookup ?_)
  have fin : wpAny (model X.prog X.w) X.A (subscripted slice false (.ref a) u) (fun r s₃ => wpAny (model X.prog X.w) X.A (letTemporaryGo value (.ref a) r >>= fun _ => pure r) Q X.xe s₃) X.xe s := by
    rw [hs]
    exact wpAny_operating (wpAny_mono h (fun r s₃ h₃ => wpAny_bind (wpAny_letTemporaryGo (wpAny_pure h₃))) fun _ _ x => x)
  first
    | exact wpAny_pure (wpAny_bind fin)
    | exact wpAny_bind (wpAny_pure (wpAny_bind fin))
    | exact wpAny_bind fin
theorem ixm_g {b : Expr} (hu : X.A.units + 1 < cLine) (hs : PlainIx b) : IxM G X b ixG := fun W ok value pins s σ H ρ S x y v u d e Q I rx ry rp rd re q => by
  unfold ixG at q
  split at q
  · split at q
    · rename_i r er
      obtain ⟨a, H', ov, rfl, I', g, ro, back⟩ := dGet_ok I rp rd re er
      cases rx
      cases ov with
      | none => exact ro.elim
      | some w =>
        exact tail_dict (dict_typeIs I' g) (hs _ _) (d_getItem hu I' g ry fun w' s' I2 rw' => ⟨w, H, back s' I2, rw', q.ok rp ro⟩)
    · exact q.elim
  · exact ixm_seq hs W ok value pins s σ H ρ S x y v u d e Q I rx ry rp rd re q
/-- own __getitem__ -/
def ixO (tab : List (Nat × MF)) (base : D → D → Sto → Res D) (d e : D) (S : Sto) : Res D := match clsD d S with
  | some c => (match tab.lookup c with
    | some f => f [d, e] S
    | none => .stuck)
  | none => base d e S
def GiOk (G : Glo) (X : Cx) (c : Nat) (f : MF) : Prop := ∃ C g k, G.ca c = .ref C ∧ PySem.W.findIn G.K (.ref C) "__getitem__" = some (some (.ref g)) ∧ PySem.W.isFn G.K (.ref g) = true ∧ PySem.W.fnIn G.K g = true ∧ FnG G X.prog X.w X.mg X.base k g f ∧ Room (k + 1) X.A ∧ X.A.guards = some []
inductive GiTab (G : Glo) (X : Cx) : List (Nat × MF) → Prop
  | nil : GiTab G X []
  | cons {c : Nat} {k : MF} {r : List (Nat × MF)} (h : GiOk G X c k) (t : GiTab G X r) : GiTab G X ((c, k) :: r)
theorem GiTab.get {tab : List (Nat × MF)} (t : GiTab G X tab) {c : Nat} {k : MF} (h : tab.lookup c = some k) : GiOk G X c k := by
  induction t with
  | nil => cases h
  | @cons c' k' r h1 t ih =>
    by_cases e : c = c'
    · subst e
      have e2 : k' = k := by simpa [List.lookup] using h
      subst e2
      exact h1
    · have e' : (c == c') = false := by simpa using e
      exact ih (by simpa [List.lookup, e'] using h)
theorem ixm_o {b : Expr} {tab : List (Nat × MF)} {base : D → D → Sto → Res D} (ht : GiTab G X tab) (hb : IxM G X b base) (hsl : ∀ x i, subscripted b true (.ref x) i = runValue (.builtin "lifetime.subscript" ⟨[.ref x, i], []⟩) := by intro _ _; with_unfolding_all rfl) : IxM G X b (ixO tab base) := fun W ok value pins s σ H ρ S x y v u d e Q I rx ry rp rd re q => by
  unfold ixO at q
  split at q
  · rename_i c hc
    obtain ⟨n, a, C, dx, vs, l, rfl, el, rfl, en, hC, hsl', hrl⟩ := clsD_ok rp rd hc
    cases rx
    split at q
    · rename_i f hf
      obtain ⟨C', g, k, hC', fi, isf, fin, F, hr, hg⟩ := ht.get hf
      rw [hC] at hC'
      cases hC'
      rw [ok.kk] at fi isf fin
      obtain ⟨sl, od, _, J, _⟩ := SlX.slt_inst I hsl'
      obtain ⟨mf, Fr⟩ := I.fr
      exact PySem.W.sub_K Fr I.ok.mod.kin J fi fin isf (run_in1 (xs := [.ref a, y]) (us := [.ref a, u]) ok F hr hg I (.cons rfl (.cons ry .nil)) rp (.cons rd (.one re)) q) (hsl _ _)
    · exact q.elim
  · exact hb W ok value pins s σ H ρ S x y v u d e Q I rx ry rp rd re q
/-! ### d[k] = v -/
def okKey (l : List (D × D)) (k : D) : Bool := if isK l then atomB k || (l.isEmpty && keyTB k) else keyTB k
def stI (o i v : D) (S : Sto) : Option Sto := match o with
  | .loc n => (match S.get n with
    | some (.lst l) => (match i with
      | .int k => (match ixN l.length k with
        | some j => some (S.set n (.lst (l.set j v)))
        | none => none)
      | _ => none)
    | some (.dct 0 l) => if decide (l.length < 16777216) && okKey l i then some (S.set n (.dct 0 (putKD l i v))) else none
    | _ => none)
  | _ => none
def SetM (G : Glo) (X : Cx) (f : D → D → D → Sto → Option Sto) : Prop := G.K = X.K →
  ∀ (pins : List (Addr × Obj)) (s : Shared) (σ : L2.St) (H : Hp) (ρ : Rho) (S S' : Sto) (o i v : V) (ov iv u : Value) (od id vd : D), Inv X pins σ H s → RelV o ov → RelV i iv → RelV v u → Rep G ρ S H → RelD G ρ H od o → RelD G ρ H id i → RelD G ρ H vd v → f od id vd S = some S' →
    wpAny (model X.prog X.w) X.A (setItem ov iv u) (fun _ s' => ∃ H', Inv X pins σ H' s' ∧ Le G ρ H ρ H' ∧ Rep G ρ S' H') X.xe s
theorem set_i (hu : X.A.units + 1 < cLine) : SetM G X stI := fun kk pins s σ H ρ S S' o i v ov iv u od id vd I ro ri rv rp rod rid rvd h => by
  unfold stI at h
  split at h
  · rename_i n
    split at h
    · rename_i l el
      split at h
      · rename_i k
        split at h
        · rename_i j ej
          cases h
          obtain ⟨p, xs, rfl, e5, hH, ht⟩ := rp.list el rod
          simp only [RelD] at rid
          have w : Wr1 (H p) := by rw [hH]; exact trivial
          have lw := Le.upd (G := G) (ρ := ρ) (o := .lst (xs.set j v)) w.wr
          refine wpAny_mono (set_list pins s σ H _ _ v ov iv u (fun H' => H' = L2.upd H p (.lst (xs.set j v))) I ro ri rv ⟨p, xs, k, j, rfl, rid, hH, by rw [← ht.length]; exact ej, rfl⟩) (fun _ s' ⟨H', I', e⟩ => ?_) fun _ _ h => h
          subst e
          exact ⟨_, I', lw, rp.set (c' := .lst (l.set j vd)) el e5 w ⟨_, upd_same, (ht.mono lw).set (rvd.mono lw) j⟩⟩
        · cases h
      · cases h
    · rename_i l el
      split at h
      · rename_i hc
        cases h
        rw [Bool.and_eq_true, decide_eq_true_eq] at hc
        obtain ⟨hl, hk⟩ := hc
        simp only [RelD] at rod
        obtain ⟨a, en, rfl⟩ := rod
        cases ro
        obtain ⟨b, e2, c⟩ := rp.cell n _ el
        rw [en] at e2
        cases e2
        rcases c with ⟨kvs, hd, pk⟩ | ⟨hne, kvs, hd, pk⟩
        · have hd : H a = some (.dK kvs) := hd
          have w : Wr1 (H a) := by rw [hd]; exact trivial
          unfold okKey at hk
          rw [isK_pairK pk] at hk
          simp only [if_true] at hk
          rcases Bool.or_eq_true_iff.mp hk with ha | ha
          · obtain ⟨ky, eky⟩ := keyD_atom ha
            have ey : i = kV ky := by
              have := keyD_rel (G := G) (ρ := ρ) (H := H) eky
              cases id with
              | int i => simp only [RelD] at this rid; rw [rid, this]
              | str i => simp only [RelD] at this rid; rw [rid, this]
              | _ => cases ha
            subst ey
            have lw := Le.upd (G := G) (ρ := ρ) (o := .dK (putK kvs ky v)) w.wr
            refine d_setItem hu I (DPut.k hd (by rw [← (pk.get).1, sizeLine_eq]; exact hl)) ri rv fun s' I' => ⟨_, I', lw, rp.set el en w (Or.inl ⟨_, upd_same, ?_⟩)⟩
            exact (pk.mono lw).put keq_k eky (rvd.mono lw)
          · simp only [Bool.and_eq_true, List.isEmpty_iff] at ha
            obtain ⟨e0, ht⟩ := ha
            subst e0
            cases pk
            obtain ⟨ks, eks⟩ := keyT_all ht
            cases id with
            | tup m =>
              simp only [RelD] at rid
              obtain ⟨b, xs, rfl, hb, hr⟩ := rid
              have e4 : xs = ks.map kV := dGet_ok.relDs_det eks hr
              subst e4
              have nb : b ≠ a := fun z => by rw [z, hd] at hb; cases hb
              have I1 := turn_dT I hd
              refine d_setItem hu I1 (DPut.t upd_same (by rw [upd_ne nb]; exact hb) (by rw [sizeLine_eq]; decide)) ri rv fun s' I' => ?_
              have e5 : L2.upd (L2.upd H a (.dT [])) a (.dT (putK [] ks v)) = L2.upd H a (.dT (putK [] ks v)) := by
                funext z
                by_cases ez : z = a
                · rw [ez, upd_same, upd_same]
                · rw [upd_ne ez, upd_ne ez, upd_ne ez]
              rw [e5] at I'
              have lw := Le.upd (G := G) (ρ := ρ) (o := .dT (putK [] ks v)) w.wr
              exact ⟨_, I', lw, rp.set el en w (Or.inr ⟨putKD_ne _ _ _, _, upd_same, PairK.put keq_t eks (rvd.mono lw) (l := []) rfl⟩)⟩
            | _ => cases ht
        · have hd : H a = some (.dT kvs) := hd
          have w : Wr1 (H a) := by rw [hd]; exact trivial
          unfold okKey at hk
          rw [isK_pair hne pk] at hk
          simp only [Bool.false_eq_true, if_false] at hk
          obtain ⟨ks, eks⟩ := keyT_all hk
          cases id with
          | tup m =>
            simp only [RelD] at rid
            obtain ⟨b, xs, rfl, hb, hr⟩ := rid
            have e4 : xs = ks.map kV := dGet_ok.relDs_det eks hr
            subst e4
            have lw := Le.upd (G := G) (ρ := ρ) (o := .dT (putK kvs ks v)) w.wr
            exact d_setItem hu I (DPut.t hd hb (by rw [← (pk.get).1, sizeLine_eq]; exact hl)) ri rv fun s' I' => ⟨_, I', lw, rp.set el en w (Or.inr ⟨putKD_ne _ _ _, _, upd_same, (pk.mono lw).put keq_t eks (rvd.mono lw)⟩)⟩
          | _ => cases hk
      · cases h
    · cases h
  · cases h
def sStI (f : D → D → D → Sto → Option Sto) (o i v : ME) : MS := fun sd S => bindS (v sd S) sd fun d S1 => bindS (o sd S1) sd fun od S2 => bindS (i sd S2) sd fun id S3 => match f od id d S3 with
  | some S4 => .nx sd S4
  | none => .stuck
theorem ps_stI {f : D → D → D → Sto → Option Sto} {o i e : Expr} {mo mi me : ME} {pos spos : Pos} (hf : SetM G X f) (ho : PEm G X o mo) (hi : PEm G X i mi) (he : PEm G X e me)
    (hs : swapsWithSole [.Subscript o i spos] e pos.line X.env = pure false := by rfl) (hw : swappedStores [.Subscript o i spos] e X.env = pure none := by rfl)
    (h1 : (assignEach [.Subscript o i spos] X.env).map (·.2) = [assign (.Subscript o i spos) X.env] := by rfl)
    (ha : ∀ v, assign (.Subscript o i spos) X.env v = (do
      let ov ← holding [v] (eval o X.env)
      let iv ← holding [v, ov] (eval i X.env)
      standAt spos
      holding [v, ov, iv] (setItem ov iv v)
      release [v, ov, iv] []) := by intro _; rfl) : PSm G X (.Assign [.Subscript o i spos] e pos) (sStI f mo mi me) := fun W ok => by
  let T : TSet := fun x y z H Q => ∃ ρ S S' od id vd, Rep G ρ S H ∧ RelD G ρ H od x ∧ RelD G ρ H id y ∧ RelD G ρ H vd z ∧ f od id vd S = some S' ∧ ∀ H', Le G ρ H ρ H' → Rep G ρ S' H' → Q H'
  have ps : PSet X T := fun pins s σ H x y z ov iv u Q I ro ri rv ⟨ρ, S, S', od, id, vd, rp, r1, r2, r3, e, k⟩ =>
    wpAny_mono (hf ok.kk pins s σ H ρ S S' x y z ov iv u od id vd I ro ri rv rp r1 r2 r3 e) (fun _ s' ⟨H', I', le, rp'⟩ => ⟨H', I', k H' le rp'⟩) fun _ _ h => h
  refine PS_imp (ps_asg (he W ok) (pg_sub (ho W ok) (hi W ok) ps ha) hs hw h1) fun E σ H ⟨sd, S, ρ, hs, hr, h⟩ => ?_
  refine ⟨sd, S, ρ, hs, hr, AftS.bind h hs fun ρ1 H1 v d S1 le1 r1 rd h1 => ⟨sd, S1, ρ1, hs.mono le1, r1, AftS.bind h1 (hs.mono le1) fun ρ2 H2 ov od S2 le2 r2 rod h2 =>
    ⟨sd, S2, ρ2, (hs.mono le1).mono le2, r2, AftS.bind h2 ((hs.mono le1).mono le2) fun ρ3 H3 iv id S3 le3 r3 rid h3 => ?_⟩⟩⟩
  split at h3
  · rename_i S4 e4
    exact ⟨ρ3, S3, S4, od, id, d, r3, rod.mono le3, rid, (rd.mono le2).mono le3, e4, fun H' le rp => h3 ρ3 H' σ le rp ((((hs.mono le1).mono le2).mono le3).mono le)⟩
  · exact h3.elim
end
end Y

/-! Z6: dicts: get, displays, comprehensions, copies, lists of pairs; sorted, min, max, len; ==. -/
namespace Y
open PySem PySem.Spec PyProof.Rows L2
/-! ### sorting -/
def insI (x : Int) : List Int → List Int
  | [] => [x]
  | y :: r => if x ≤ y then x :: y :: r else y :: insI x r
def sortI : List Int → List Int
  | [] => []
  | x :: r => insI x (sortI r)
theorem insI_perm (x : Int) : ∀ l : List Int, (insI x l).Perm (x :: l)
  | [] => .refl _
  | y :: r => by
    unfold insI
    split
    · exact .refl _
    · exact ((insI_perm x r).cons y).trans (List.Perm.swap x y r)
theorem sortI_perm : ∀ l : List Int, (sortI l).Perm l
  | [] => .refl _
  | x :: r => (insI_perm x (sortI r)).trans ((sortI_perm r).cons x)
theorem insI_sorted (x : Int) : ∀ {l : List Int}, l.Pairwise (· ≤ ·) → (insI x l).Pairwise (· ≤ ·)
  | [], _ => by simp [insI]
  | y :: r, h => by
    rw [List.pairwise_cons] at h
    unfold insI
    split
    · rename_i hxy
      refine List.pairwise_cons.mpr ⟨fun z hz => ?_, List.pairwise_cons.mpr h⟩
      rcases List.mem_cons.mp hz with e | hz
      · rw [e]; exact hxy
      · exact Int.le_trans hxy (h.1 z hz)
    · rename_i hxy
      refine List.pairwise_cons.mpr ⟨fun z hz => ?_, insI_sorted x h.2⟩
      rcases List.mem_cons.mp ((insI_perm x r).mem_iff.mp hz) with e | hz
      · rw [e]; omega
      · exact h.1 z hz
theorem sortI_sorted : ∀ l : List Int, (sortI l).Pairwise (· ≤ ·)
  | [] => .nil
  | x :: r => insI_sorted x (sortI_sorted r)
theorem sorted_unique : ∀ {l m : List Int}, l.Perm m → l.Pairwise (· ≤ ·) → m.Pairwise (· ≤ ·) → l = m
  | [], m, p, _, _ => (List.Perm.nil_eq p)
  | x :: l, m, p, hl, hm => by
    cases m with
    | nil => exact absurd p.length_eq (by simp)
    | cons y m =>
      rw [List.pairwise_cons] at hl hm
      have h1 : y ∈ x :: l := p.mem_iff.mpr (List.mem_cons_self ..)
      have h2 : x ∈ y :: m := p.mem_iff.mp (List.mem_cons_self ..)
      have e : x = y := by
        rcases List.mem_cons.mp h1 with a | a
        · exact a.symm
        · rcases List.mem_cons.mp h2 with b | b
          · exact b
          · exact Int.le_antisymm (hl.1 y a) (hm.1 x b)
      subst e
      rw [sorted_unique ((List.perm_cons x).mp p) hl.2 hm.2]
theorem sortI_unique {l m : List Int} (p : m.Perm l) (h : m.Pairwise (· ≤ ·)) : m = sortI l := sorted_unique (p.trans (sortI_perm l).symm) h (sortI_sorted l)
section
variable {G : Glo} {X : Cx} {ρ : Rho} {H : Hp}
/-! ### get -/
theorem isDct_at {S : Sto} {d : D} {x : V} (rp : Rep G ρ S H) (rd : RelD G ρ H d x) (h : isDct d S = true) : ∃ a, x = .ref a ∧ IsD H a := by
  unfold isDct at h
  split at h
  · rename_i n
    split at h
    · rename_i lk l el
      simp only [RelD] at rd
      obtain ⟨a, en, rfl⟩ := rd
      obtain ⟨b, e2, c⟩ := rp.cell n _ el
      rw [en] at e2
      cases e2
      refine ⟨a, rfl, ?_⟩
      rcases c with ⟨kvs, hd, _⟩ | ⟨_, kvs, hd, _⟩
      · refine .inl ⟨kvs, ?_⟩
        cases lk with
        | zero => exact .inl hd
        | succ j => exact .inr hd
      · refine .inr ⟨kvs, ?_⟩
        cases lk with
        | zero => exact .inl hd
        | succ j => exact .inr hd
    · cases h
  · cases h
def mGet2 (o k x : ME) : ME := fun sd S => (o sd S).bind fun od S1 => if isDct od S1 then (k sd S1).bind fun kd S2 => (x sd S2).bind fun xd S3 => match dGet od kd S3 with
  | some (some v) => .ok v S3
  | some none => .ok xd S3
  | none => .stuck else .stuck
theorem pm_get2 {o e f : Expr} {mo me mf : ME} {apos cpos : Pos} (hu : X.A.units + 1 < cLine) (ho : PEm G X o mo) (he : PEm G X e me) (hf : PEm G X f mf) (m : M2 X o "get" apos e f cpos) : PEm G X (.Call (.Attribute o "get" apos) [e, f] [] cpos) (mGet2 mo me mf) := fun W ok => by
  refine ⟨fun pins s σ H Q I h => ?_⟩
  obtain ⟨sd, S, ρ, hs, hr, h⟩ := h
  let K3 : D → D → D → Sto → Res D := fun od kd xd S3 => match dGet od kd S3 with
    | some (some v) => .ok v S3
    | some none => .ok xd S3
    | none => .stuck
  have t : te G mo W σ H (fun x H1 => ∃ ρ1 S1 d, RelSt G ρ1 H1 sd σ ∧ Rep G ρ1 S1 H1 ∧ RelD G ρ1 H1 d x ∧ Aft G (RelD G) ρ1 H1 (if isDct d S1 then (me sd S1).bind fun kd S2 => (mf sd S2).bind fun xd S3 => K3 d kd xd S3 else .stuck) Q (fun c a H' => W c a σ H')) := ⟨sd, S, ρ, hs, hr, Aft.bind h fun ρ1 H1 x d S1 le1 r1 rd h1 => ⟨ρ1, S1, d, hs.mono le1, r1, rd, h1⟩⟩
  refine wpAny_Call_method m.base m.few m.line PySem.F.plainAttrs_dict PySem.F.slot_dict_get PySem.F.type_dict_get (thn ((ho W ok).run pins s σ H _ I t) fun u s1 ⟨x, H1, I1, rx, q1⟩ => ?_)
  obtain ⟨ρ1, S1, d, hs1, rp1, rd1, q⟩ := q1
  split at q
  · rename_i hd
    obtain ⟨a, rfl, isd⟩ := isDct_at rp1 rd1 hd
    cases rx
    obtain ⟨t1, t2, _⟩ := isD_at I1 isd
    refine ⟨t1, t2, ?_⟩
    rw [m.trees]
    have tk : te G me W σ H1 (fun y H2 => ∃ ρ2 S2 kd, RelSt G ρ2 H2 sd σ ∧ Rep G ρ2 S2 H2 ∧ RelD G ρ2 H2 d (.ref a) ∧ RelD G ρ2 H2 kd y ∧ Aft G (RelD G) ρ2 H2 ((mf sd S2).bind fun xd S3 => K3 d kd xd S3) Q (fun c a H' => W c a σ H')) := ⟨sd, S1, ρ1, hs1, rp1, Aft.bind q fun ρ2 H2 y kd S2 le2 r2 rk h2 => ⟨ρ2, S2, kd, hs1.mono le2, r2, rd1.mono le2, rk, h2⟩⟩
    refine Calls.callWith_builtin rfl (Calls.evalArgs_plain (Calls.spliced_cons (thn ((he W ok).run pins s1 σ H1 _ I1 tk) fun iv s2 ⟨y, H2, I2, ry, q2⟩ => ?_)))
    obtain ⟨ρ2, S2, kd, hs2, rp2, rd2, rk2, q2⟩ := q2
    have tx : te G mf W σ H2 (fun z H3 => ∃ ρ3 S3 xd, Rep G ρ3 S3 H3 ∧ RelD G ρ3 H3 d (.ref a) ∧ RelD G ρ3 H3 kd y ∧ RelD G ρ3 H3 xd z ∧ Aft G (RelD G) ρ3 H3 (K3 d kd xd S3) Q (fun c a H' => W c a σ H')) := ⟨sd, S2, ρ2, hs2, rp2, Aft.bind q2 fun ρ3 H3 z xd S3 le3 r3 rx3 h3 => ⟨ρ3, S3, xd, r3, rd2.mono le3, rk2.mono le3, rx3, h3⟩⟩
    refine Calls.spliced_cons (thn ((hf W ok).run pins s2 σ H2 _ I2 tx) fun fv s3 ⟨z, H3, I3, rz, q3⟩ => Calls.spliced_nil ?_)
    obtain ⟨ρ3, S3, xd, rp3, rd3, rk3, rx3, q3⟩ := q3
    simp only [K3] at q3
    split at q3
    · rename_i v ev
      obtain ⟨a', H', ov, ea, I', g, ro, back⟩ := dGet_ok I3 rp3 rd3 rk3 ev
      cases ea
      cases ov with
      | none => exact ro.elim
      | some w => exact d_get2 hu I' g ry rz fun w' s4 I4 rw' => ⟨w, H3, back s4 I4, rw', q3.ok rp3 ro⟩
    · rename_i ev
      obtain ⟨a', H', ov, ea, I', g, ro, back⟩ := dGet_ok I3 rp3 rd3 rk3 ev
      cases ea
      cases ov with
      | some w => exact ro.elim
      | none => exact d_get2 hu I' g ry rz fun w' s4 I4 rw' => ⟨z, H3, back s4 I4, rw', q3.ok rp3 rx3⟩
    · exact q3.elim
  · exact q.elim
/-! ### displays -/
def mergeKD (l : List (D × D)) : List (D × D) := l.foldl (fun acc p => putKD acc p.1 p.2) []
theorem merge_rel : ∀ {ps : List (D × D)} {kvs : List (Key × V)} {l : List (D × D)} {ms : List (Key × V)}, PairK keyD G ρ H ps kvs → PairK keyD G ρ H l ms → PairK keyD G ρ H (ps.foldl (fun acc p => putKD acc p.1 p.2) l) (mergeK ms kvs)
  | [], kvs, l, ms, h, h2 => by cases h; exact h2
  | p :: r, kvs, l, ms, h, h2 => by
    obtain ⟨k, v, zs, rfl, h1, h3, h4⟩ := h
    exact merge_rel (ps := r) (kvs := zs) (l := putKD l p.1 p.2) (ms := putK ms k v) h4 (h2.put keq_k h1 h3)
def mPairs : List (ME × ME) → SD → Sto → Res (List (D × D))
  | [], _, S => .ok [] S
  | (k, v) :: r, sd, S => (k sd S).bind fun kd S1 => (v sd S1).bind fun vd S2 => (mPairs r sd S2).bind fun ps S3 => .ok ((kd, vd) :: ps) S3
def atomsB (ps : List (D × D)) : Bool := ps.all fun p => atomB p.1
/-- the new dict stands empty while the pairs are made -/
def mDisp (ms : List (ME × ME)) : ME := fun sd S => (mPairs ms sd (S.new (.dct 0 []))).bind fun ps S1 => if atomsB ps && decide (ps.length ≤ 15) && isDct0 (.loc S.n) S1 then .ok (.loc S.n) (S1.set S.n (.dct 0 (mergeKD ps))) else .stuck
inductive PPm (G : Glo) (X : Cx) (pos : Pos) : List (Option Expr) → List Expr → List (ME × ME) → Prop
  | nil : PPm G X pos [] [] []
  | cons {k v : Expr} {ks : List (Option Expr)} {vs : List Expr} {mk mv : ME} {ms : List (ME × ME)} (hk : PEm G X k mk) (hv : PEm G X v mv) (r : PPm G X pos ks vs ms) : PPm G X pos (some k :: ks) (v :: vs) ((mk, mv) :: ms)
theorem PPm.pps {pos : Pos} {W : WX} (ok : XOk G X W) : ∀ {ks : List (Option Expr)} {vs : List Expr} {ms : List (ME × ME)}, PPm G X pos ks vs ms → PPs X pos ks vs (ms.map fun p => (te G p.1 W, te G p.2 W))
  | _, _, _, .nil => pps_nil
  | _, _, _, .cons hk hv r => pps_cons (hk W ok) (hv W ok) (r.pps ok)
def RelPs (G : Glo) (ρ : Rho) (H : Hp) : List (D × D) → List (V × V) → Prop
  | [], ys => ys = []
  | p :: r, ys => ∃ x y zs, ys = (x, y) :: zs ∧ RelD G ρ H p.1 x ∧ RelD G ρ H p.2 y ∧ RelPs G ρ H r zs
theorem RelPs.mono {ρ' : Rho} {H' : Hp} (le : Le G ρ H ρ' H') : ∀ {l : List (D × D)} {ys : List (V × V)}, RelPs G ρ H l ys → RelPs G ρ' H' l ys
  | [], _, h => h
  | p :: r, ys, h => let ⟨x, y, zs, e, h1, h2, h3⟩ := h; ⟨x, y, zs, e, h1.mono le, h2.mono le, RelPs.mono le h3⟩
theorem pairs_read {W : WX} {σ : L2.St} {sd : SD} : ∀ {ms : List (ME × ME)} {H : Hp} {ρ : Rho} {S : Sto} {Q : List (V × V) → Hp → Prop}, RelSt G ρ H sd σ → Rep G ρ S H → Aft G (RelPs G) ρ H (mPairs ms sd S) Q (fun c a H' => W c a σ H') → tPairs (ms.map fun p => (te G p.1 W, te G p.2 W)) σ H Q
  | [], H, ρ, S, Q, hs, hr, h => h.ok hr rfl
  | (k, v) :: r, H, ρ, S, Q, hs, hr, h => ⟨sd, S, ρ, hs, hr, Aft.bind h fun ρ1 H1 x kd S1 le1 r1 rk h1 => ⟨sd, S1, ρ1, hs.mono le1, r1, Aft.bind h1 fun ρ2 H2 y vd S2 le2 r2 rv h2 =>
      pairs_read ((hs.mono le1).mono le2) r2 (Aft.bind h2 fun ρ3 H3 ps pd S3 le3 r3 rps h3 => h3.ok r3 ⟨x, y, ps, rfl, (rk.mono le2).mono le3, rv.mono le3, rps⟩)⟩⟩
theorem relPs_keys : ∀ {ps : List (D × D)} {ys : List (V × V)}, atomsB ps = true → RelPs G ρ H ps ys → ∃ kvs : List (Key × V), ys = kvs.map (fun kv => (kV kv.1, kv.2)) ∧ PairK keyD G ρ H ps kvs
  | [], ys, _, h => by cases h; exact ⟨[], rfl, rfl⟩
  | p :: r, ys, ha, h => by
    obtain ⟨x, y, zs, rfl, h1, h2, h3⟩ := h
    unfold atomsB at ha
    rw [List.all_cons, Bool.and_eq_true] at ha
    obtain ⟨kvs, rfl, pk⟩ := relPs_keys (ps := r) ha.2 h3
    obtain ⟨k, ek⟩ := keyD_atom ha.1
    have ex : x = kV k := by
      have := keyD_rel (G := G) (ρ := ρ) (H := H) ek
      cases hp : p.1 with
      | int i => rw [hp] at this h1; simp only [RelD] at this h1; rw [h1, this]
      | str i => rw [hp] at this h1; simp only [RelD] at this h1; rw [h1, this]
      | _ => rw [hp] at ha; exact Bool.noConfusion ha.1
    subst ex
    exact ⟨(k, y) :: kvs, rfl, k, y, kvs, rfl, ek, h2, pk⟩
theorem pm_disp {keys : List (Option Expr)} {values : List Expr} {ms : List (ME × ME)} {pos : Pos} (h : PPm G X pos keys values ms) (hall : keys.all (·.isSome) = true := by rfl) (hl : keys.length = values.length := by rfl) (h0 : keys ≠ [] := by intro z; cases z) (h15 : keys.length ≤ 15 := by decide) :
    PEm G X (.Dict keys values pos) (mDisp ms) := fun W ok => PE_imp (pe_disp (h.pps ok) hall hl h0 h15) fun σ H Q ⟨sd, S, ρ, hs, hr, q⟩ => fun p hp => by
  have le : Le G ρ H (ext ρ S.n p) (L2.upd H p (.dK [])) := (Le.ext (hr.top _ (Nat.le_refl _))).trans (Le.same (same_new hp))
  refine pairs_read (hs.mono le) (hr.new (c := .dct 0 []) hp (Or.inl ⟨[], upd_same, rfl⟩)) (Aft.bind (Aft.le q le) fun ρ1 H1 ys ps S1 le1 r1 rps h1 => ?_)
  split at h1
  · rename_i hc
    simp only [Bool.and_eq_true, decide_eq_true_eq] at hc
    obtain ⟨⟨ha, h15'⟩, hd⟩ := hc
    have en : ρ1 S.n = some p := le1.rho _ _ ext_same
    simp only [isDct0] at hd
    split at hd
    · rename_i el
      obtain ⟨b, e2, c⟩ := r1.cell _ _ el
      rw [en] at e2
      cases e2
      rcases c with ⟨kv0, hH, pk0⟩ | ⟨hne, _⟩
      · have hH : H1 p = some (.dK kv0) := hH
        cases pk0
        obtain ⟨kvs, e3, pk⟩ := relPs_keys ha rps
        have w : Wr1 (H1 p) := by rw [hH]; exact trivial
        have lw := Le.upd (G := G) (ρ := ρ1) (o := .dK (mergeK [] kvs)) w.wr
        refine ⟨hH, kvs, e3, by rw [← (pk.get).1]; exact h15', h1 ρ1 _ _ lw (r1.set el en w (Or.inl ⟨_, upd_same, ?_⟩)) (RelD.loc' en)⟩
        exact merge_rel (pk.mono lw) rfl
      · exact absurd rfl hne
    · cases hd
  · exact h1.elim
/-- a display of one pair whose key is a bool or a tuple: the new dict's object is known -/
def mDispR (ok : D → Bool) (mk mv : ME) : ME := fun sd S => (mPairs [(mk, mv)] sd (S.new (.dct 0 []))).bind fun ps S1 => match ps with
  | [(k, v)] => if ok k && isDct0 (.loc S.n) S1 then .ok (.loc S.n) (S1.set S.n (.raw [(k, v)])) else .stuck
  | _ => .stuck
def okB : D → Bool
  | .bl _ => true
  | _ => false
def okU : D → Bool
  | .tup l => (keysD l).isSome
  | _ => false
theorem raw_set {S S1 : Sto} {ρ1 : Rho} {H1 : Hp} {p : Addr} {k v : D} {x y : V} {o : Obj} {es : Array DictEntry} {ep : Nat} (r1 : Rep G ρ1 S1 H1) (en : ρ1 S.n = some p) (hd : isDct0 (.loc S.n) S1 = true) (hH : H1 p = some (.dK [])) (rk : RelD G ρ1 H1 k x) (rv : RelD G ρ1 H1 v y)
    (h1 : (p == sysModules) = false) (h2 : o.ExactDict) (h3 : o.data = .dict es ep) (h4 : EntsOk [(x, y)] es) : Le G ρ1 H1 ρ1 (L2.upd H1 p (knownO p o)) ∧ Rep G ρ1 (S1.set S.n (.raw [(k, v)])) (L2.upd H1 p (knownO p o)) := by
  simp only [isDct0] at hd
  split at hd
  · rename_i el
    have w : Wr1 (H1 p) := by rw [hH]; exact trivial
    have lw := Le.upd (G := G) (ρ := ρ1) (o := knownO p o) w.wr
    exact ⟨lw, r1.set el en w ⟨o, es, ep, [(x, y)], upd_same, h1, h2, h3, h4, x, y, [], rfl, rk.mono lw, rv.mono lw, rfl⟩⟩
  · cases hd
theorem dct00_at {S S1 : Sto} {ρ1 : Rho} {H1 : Hp} {p : Addr} (r1 : Rep G ρ1 S1 H1) (en : ρ1 S.n = some p) (hd : isDct0 (.loc S.n) S1 = true) : H1 p = some (.dK []) := by
  simp only [isDct0] at hd
  split at hd
  · rename_i el
    obtain ⟨b, e2, c⟩ := r1.cell _ _ el
    rw [en] at e2
    cases e2
    rcases c with ⟨kv0, hH, pk0⟩ | ⟨hne, _⟩
    · have hH : H1 p = some (.dK kv0) := hH
      cases pk0
      exact hH
    · exact absurd rfl hne
  · cases hd
theorem keyD_eq {d : D} {k : Key} {v : V} (e : keyD d = some k) (h : RelD G ρ H d v) : v = kV k := by
  cases d <;> simp only [keyD, Option.some.injEq, reduceCtorEq] at e <;> subst e <;> simpa only [RelD, kV] using h
theorem keysD_eq : ∀ {l : List D} {ks : List Key} {xs : List V}, keysD l = some ks → RelDs G ρ H l xs → xs = ks.map kV
  | [], ks, xs, e, h => by
    simp only [keysD, Option.some.injEq] at e
    subst e
    simpa only [RelDs, List.map_nil] using h
  | d :: r, ks, xs, e, h => by
    simp only [RelDs] at h
    obtain ⟨v, ys, rfl, h1, h2⟩ := h
    simp only [keysD] at e
    split at e
    · rename_i k ks2 e1 e2
      cases e
      rw [keyD_eq e1 h1, keysD_eq e2 h2]
      rfl
    · cases e
theorem pm_dispB {ek ev : Expr} {mk mv : ME} {pos : Pos} (h : PPm G X pos [some ek] [ev] [(mk, mv)]) :
    PEm G X (.Dict [some ek] [ev] pos) (mDispR okB mk mv) := fun W ok => PE_imp (pe_dispB (h.pps ok) rfl rfl (fun z => by cases z) (Nat.le_add_left 1 14)) fun σ H Q ⟨sd, S, ρ, hs, hr, q⟩ => fun p hp => by
  have le : Le G ρ H (ext ρ S.n p) (L2.upd H p (.dK [])) := (Le.ext (hr.top _ (Nat.le_refl _))).trans (Le.same (same_new hp))
  refine pairs_read (hs.mono le) (hr.new (c := .dct 0 []) hp (Or.inl ⟨[], upd_same, rfl⟩)) (Aft.bind (Aft.le q le) fun ρ1 H1 ys ps S1 le1 r1 rps h1 => ?_)
  split at h1
  · rename_i k v
    split at h1
    · rename_i hc
      simp only [Bool.and_eq_true] at hc
      obtain ⟨hk, hd⟩ := hc
      have en : ρ1 S.n = some p := le1.rho _ _ ext_same
      have hH := dct00_at r1 en hd
      obtain ⟨x, y, zs, rfl, rk, rv, rz⟩ := rps
      cases rz
      cases k with
      | bl b =>
        have ex : x = .bl b := by simpa only [RelD] using rk
        subst ex
        refine ⟨hH, b, y, rfl, fun o es ep a1 a2 a3 a4 => ?_⟩
        obtain ⟨lw, rp⟩ := raw_set r1 en hd hH rk rv a1 a2 a3 a4
        exact h1 ρ1 _ _ lw rp (RelD.loc' en)
      | _ => cases hk
    · exact h1.elim
  · exact h1.elim
theorem pm_dispU {ek ev : Expr} {mk mv : ME} {pos : Pos} (hu : X.A.units + 1 < cLine) (h : PPm G X pos [some ek] [ev] [(mk, mv)]) :
    PEm G X (.Dict [some ek] [ev] pos) (mDispR okU mk mv) := fun W ok => PE_imp (pe_dispU (h.pps ok) (by omega) rfl rfl (fun z => by cases z) (Nat.le_add_left 1 14)) fun σ H Q ⟨sd, S, ρ, hs, hr, q⟩ => fun p hp => by
  have le : Le G ρ H (ext ρ S.n p) (L2.upd H p (.dK [])) := (Le.ext (hr.top _ (Nat.le_refl _))).trans (Le.same (same_new hp))
  refine pairs_read (hs.mono le) (hr.new (c := .dct 0 []) hp (Or.inl ⟨[], upd_same, rfl⟩)) (Aft.bind (Aft.le q le) fun ρ1 H1 ys ps S1 le1 r1 rps h1 => ?_)
  split at h1
  · rename_i k v
    split at h1
    · rename_i hc
      simp only [Bool.and_eq_true] at hc
      obtain ⟨hk, hd⟩ := hc
      have en : ρ1 S.n = some p := le1.rho _ _ ext_same
      have hH := dct00_at r1 en hd
      obtain ⟨x, y, zs, rfl, rk, rv, rz⟩ := rps
      cases rz
      cases k with
      | tup l =>
        obtain ⟨ks, ek⟩ := Option.isSome_iff_exists.mp hk
        have rk' := rk
        simp only [RelD] at rk'
        obtain ⟨T, xs, rfl, hT, rxs⟩ := rk'
        have exs : xs = ks.map kV := keysD_eq ek rxs
        subst exs
        refine ⟨hH, T, ks, y, rfl, hT, fun o es ep a1 a2 a3 a4 => ?_⟩
        obtain ⟨lw, rp⟩ := raw_set r1 en hd hH rk rv a1 a2 a3 a4
        exact h1 ρ1 _ _ lw rp (RelD.loc' en)
      | _ => cases hk
    · exact h1.elim
  · exact h1.elim
end
end Y

/-! Z7: dict comprehensions; copies; lists of pairs; sorted, min, max, len; ==. -/
namespace Y
open PySem PySem.Spec PyProof.Rows L2
theorem call_sortedDA {X : Cx} (hcalm : X.calm = true) : CallR X (.builtin "sorted") (fun xs H Q => ∃ (a : Addr) (kvs : List (Key × V)) (ks : List Int), xs = [.ref a] ∧ Rd H a (.dK kvs) ∧ kvs.map (·.1) = ks.map Sum.inl ∧
    ∀ (ys : List Int) (p : Addr), ys.Perm ks → ys.Pairwise (· ≤ ·) → H p = none → Q (.ref p) (L2.upd H p (.lst (ys.map V.int)))) := by
  intro pins s σ H xs us Q I r q
  obtain ⟨a, kvs, ks, ex, hd, hks, q⟩ := q
  subst ex
  obtain ⟨u, eu, rx⟩ := vals1 r
  subst eu
  cases rx
  obtain ⟨z, lo, vs, rel, dd⟩ := dk_rd I.hok hd
  obtain ⟨ep, hat⟩ := dd.dictAt
  have hkeys : vs.map (·.1) = ks.map Sum.inl := rel.keys.symm.trans hks
  have hl : vs.length = ks.length := by simpa using congrArg List.length hkeys
  have h16 : vs.length ≤ sizeLine := by rw [← rel.length]; exact z
  refine Calls.call_function_entry PyProof.Rows.kind_sorted PyProof.Rows.plain_sorted PyProof.Rows.entry_sorted (PyProof.Rows.args_sorted1 _) ?_
  unfold Builtin.«sorted»
  refine wpAny_bind (m := checkCount "sorted" 1 1 _) (wpAny_pure ?_)
  refine wpAny_bind (PySem.W.kdu_collect (A := X.A.in1) (PySem.W.kdl_dict (knd := mixKind X.prog X.w) (kvs := vs) (ep := ep) lo) (I.ok.hd hcalm) hat h16 fun h' tk acc hk hacc => ?_)
  have hal : acc.toList.length = ks.length := by rw [Array.length_toList, hacc.1, hl]
  have hS : IntsAre acc.toList ks := ints_each hal fun j v e => by
    obtain ⟨k, x, e1, e2⟩ := hacc.2 j v (by rw [← Array.getElem?_toList]; exact e)
    have e3 : (vs.map (·.1))[j]? = some k := by rw [List.getElem?_map, e1]; rfl
    rw [hkeys, List.getElem?_map] at e3
    cases e4 : ks[j]? with
    | none => rw [e4] at e3; cases e3
    | some y =>
      rw [e4] at e3
      have e5 : Sum.inl y = k := Option.some.inj e3
      subst e5
      rcases keyIs_shape (show keyIs (Sum.inl y) v = true from e2) with ⟨i, t, ek, ev⟩ | ⟨z, t, ek, ev⟩
      · cases ek
        exact ⟨y, t, rfl, ev⟩
      · cases ek
  have I1 : Inv X pins σ H { s with heap := h', toks := tk } := I.kept hk
  have hzl : acc.toList.length ≤ sizeLine := by rw [hal, ← hl]; exact h16
  refine wpAny_bind (wpAny_newList ?_ hzl)
  have hoL : (h'.push (seqObj "list" acc.toList.toArray 0)).get? h'.objs.size = some (seqObj "list" acc.toList.toArray 0) := Heap.get?_push_size _ rfl
  show wpAny _ _ _ _ _ { s with heap := h'.push (seqObj "list" acc.toList.toArray 0), toks := tk }
  refine wpAny_bind (wpAny_holding (wpAny_call_entry PyProof.Rows.slot_list_sort ⟨_, hoL, rfl⟩ PyProof.Rows.entry_list_sort
    (SrtO.list_sort_ord (s := { s with heap := h'.push (seqObj "list" acc.toList.toArray 0), toks := tk }) SrtO.swo_int hoL hzl (fun h2 => SrtO.ints_sortable hS h2) fun out g1 g2 => ⟨_, rfl, ?_⟩) (PyProof.Rows.args_list_sort _)))
  obtain ⟨k1, k2, k3⟩ := SrtO.ints_out hS g1 g2
  obtain ⟨e', he'⟩ := PyProof.Rows.sortedHeap_at (vs := acc.toList) (out := out.toArray) hoL
  have hlen : ((out.map SrtO.iv).map V.int).length ≤ sizeLine := by
    rw [List.length_map, k2.length_eq, ← hal]
    exact hzl
  refine wpAny_pure ⟨_, rfl, .ref h'.objs.size, L2.upd H h'.objs.size (.lst ((out.map SrtO.iv).map V.int)), I1.laid (t' := tk) (fun b u e => ?_) (Nat.le_refl _) ⟨hlen, out, e', vals_of_ints k1, he'⟩, rfl, q _ _ k2 k3 (I1.hok.fresh (Nat.le_refl _))⟩
  rw [PyProof.Rows.sortedHeap_old (Nat.ne_of_lt (Heap.lt_size e)) (by rw [Heap.size_push]; exact Nat.lt_succ_of_lt (Heap.lt_size e))]
  exact Heap.get?_push_of_some _ e
def dcLoop (it : ItD) (t : Tg) (q : MT) (ek ev : ME) (sd : SD) (dl : Nat) : Nat → Nat → Sto → Res D
  | 0, _, _ => .stuck
  | n + 1, i, S => match itNext it i S with
    | none => .stuck
    | some none => .ok (.loc dl) S
    | some (some d) => match asg t d sd with
      | none => .stuck
      | some sd1 => (q sd1 S).bindX fun k S1 => if k then (ek sd1 S1).bindX fun y S2 => (ev sd1 S2).bindX fun z S3 => (match S3.get dl with
          | some (.dct 0 acc) => if decide (acc.length < 16777216) && atomB y && isK acc then dcLoop it t q ek ev sd dl n (i + 1) (S3.set dl (.dct 0 (putKD acc y z))) else .stuck
          | _ => .stuck) else dcLoop it t q ek ev sd dl n (i + 1) S1
def mDc (mi : MI) (t : Tg) (q : MT) (ek ev : ME) (vs : List Nat) : ME := fun sd S => (mi sd S).bind fun it S1 => dcLoop it t q ek ev (wipeD sd vs) S1.n (itLen it S1 + 1) 0 (S1.new (.dct 0 []))
section
variable {G : Glo} {X : Cx} {ρ : Rho} {H : Hp}
theorem atom_kV {d : D} {y : V} (ha : atomB d = true) (rd : RelD G ρ H d y) : ∃ k, keyD d = some k ∧ y = kV k := by
  obtain ⟨k, ek⟩ := keyD_atom ha
  have := keyD_rel (G := G) (ρ := ρ) (H := H) ek
  refine ⟨k, ek, ?_⟩
  cases d with
  | int i => simp only [RelD] at this rd; rw [rd, this]
  | str i => simp only [RelD] at this rd; rw [rd, this]
  | _ => cases ha
theorem dct0_at {S : Sto} {n : Nat} {l : List (D × D)} {a : Addr} (rp : Rep G ρ S H) (el : S.get n = some (.dct 0 l)) (en : ρ n = some a) (hk : isK l = true) : ∃ kvs, H a = some (.dK kvs) ∧ PairK keyD G ρ H l kvs := by
  obtain ⟨b, e2, c⟩ := rp.cell n _ el
  rw [en] at e2
  cases e2
  rcases c with ⟨kvs, hd, pk⟩ | ⟨hne, kvs, hd, pk⟩
  · exact ⟨kvs, hd, pk⟩
  · rw [isK_pair hne pk] at hk
    cases hk
theorem dc_read {mi : MI} {t : Tg} {q : MT} {ek ev : ME} {W : WX} {vs : List Nat} (kk : G.K = X.K) (hv : ∀ j ∈ t.slots, j ∈ vs) {σ : L2.St} {H : Hp} {Q : VK} (h : te G (mDc mi t q ek ev vs) W σ H Q) : tDc (ti G mi W) (gOf X.K t) (tt G q Wno) (te G ek Wno) (te G ev Wno) vs σ H Q := by
  obtain ⟨sd, S, ρ, hs, hr, h⟩ := h
  refine ⟨sd, S, ρ, hs, hr, Aft.bind h fun ρ1 H1 J it S1 le1 r1 ij h1 => fun Dd hD => ?_⟩
  have leD : Le G ρ1 H1 (ext ρ1 S1.n Dd) (L2.upd H1 Dd (.dK [])) := (Le.ext (r1.top _ (Nat.le_refl _))).trans (Le.same (same_new hD))
  have hs1 := hs.mono (le1.trans leD)
  refine ⟨fun i m2 H => ∃ S ρ, Le G (ext ρ1 S1.n Dd) (L2.upd H1 Dd (.dK [])) ρ H ∧ Rep G ρ S H ∧ Aft G (RelD G) ρ H (dcLoop it t q ek ev (wipeD sd vs) S1.n m2 i S) Q (fun c d H' => W c d σ H'),
    ⟨_, _, _, Le.refl, r1.new (c := .dct 0 []) hD (Or.inl ⟨[], upd_same, rfl⟩), h1.le leD⟩, fun i m2 H2 ⟨S2, ρ2, le2, r2, h2⟩ => ?_⟩
  have hsw : RelSt G ρ2 H2 (wipeD sd vs) (L2.wipe σ vs) := (hs1.mono le2).wipe vs
  have hρD : ρ2 S1.n = some Dd := le2.rho _ _ ext_same
  cases m2 with
  | zero => exact h2.elim
  | succ m2 =>
    have ij2 := ij i ρ2 H2 S2 (leD.trans le2) r2
    simp only [dcLoop] at h2
    split at h2
    · exact h2.elim
    · rename_i en
      rw [en] at ij2
      exact .inl ⟨ij2, h2.ok r2 (RelD.loc' hρD)⟩
    · rename_i d en
      rw [en] at ij2
      obtain ⟨hgo, hy⟩ := ij2
      refine .inr ⟨hgo, _, fun H' hn => ⟨m2, Nat.lt_succ_self m2, hn⟩, fun x H3 hx => ?_⟩
      obtain ⟨l3, r3, rd⟩ := hy x H3 hx
      split at h2
      · exact h2.elim
      · rename_i sd1 ea
        refine gOf_ok kk rd (hsw.mono l3) ea fun σ2 s2 k2 => ?_
        refine ⟨(wipe_eq k2 hv).trans wipe_twice, sd1, S2, ρ2, s2, r3, ?_⟩
        refine Aft.bindX (h2.le l3) fun ρ4 H4 b k S4 l4 r4 eb h4 => ?_
        have eb : k = b := eb
        subst eb
        cases k with
        | false => exact ⟨S4, ρ4, (le2.trans l3).trans l4, r4, h4⟩
        | true =>
          refine ⟨sd1, S4, ρ4, s2.mono l4, r4, Aft.bindX h4 fun ρ5 H5 v y S5 l5 r5 rv h5 => ?_⟩
          refine ⟨sd1, S5, ρ5, (s2.mono l4).mono l5, r5, Aft.bindX h5 fun ρ6 H6 v2 z S6 l6 r6 rv2 h6 => ?_⟩
          split at h6
          · rename_i acc eacc
            split at h6
            · rename_i hc
              simp only [Bool.and_eq_true, decide_eq_true_eq] at hc
              obtain ⟨⟨hlen, ha⟩, hk⟩ := hc
              have hρ6 : ρ6 S1.n = some Dd := l6.rho _ _ (l5.rho _ _ (l4.rho _ _ hρD))
              obtain ⟨kvs, hH, pk⟩ := dct0_at r6 eacc hρ6 hk
              obtain ⟨ky, eky, ey⟩ := atom_kV ha rv
              have w : Wr1 (H6 Dd) := by rw [hH]; exact trivial
              have lw := Le.upd (G := G) (ρ := ρ6) (o := .dK (putK kvs ky v2)) w.wr
              exact ⟨kvs, ky, ey, hH, by rw [← (pk.get).1, sizeLine_eq]; exact hlen, _, ρ6, ((((le2.trans l3).trans l4).trans l5).trans l6).trans lw, r6.set (c' := .dct 0 (putKD acc y z)) eacc hρ6 w (Or.inl ⟨_, upd_same, (pk.mono lw).put keq_k eky (rv2.mono lw)⟩), h6.le lw⟩
            · exact h6.elim
          · exact h6.elim
theorem pm_dc {kx vx tg iter : Expr} {ifs : List Expr} {scope : Scope} {own : List (Str × Nat)} {pos : Pos} {mi : MI} {t : Tg} {q : MT} {mk mv : ME} (hc : X.calm = true) (hN : X.N.Nodup) (hi : PIm G X tg iter mi) (ok : BlkOk X.N X.env.scope scope own)
    (hg : ∀ (s : Shared) (H : Hp) (C : Addr) (cl : List (Str × Addr)) (fp : List Addr), PG (X.blk s H scope (compEnvC scope cl C X.env) fp) tg (gOf X.K t)) (ht : ∀ (s : Shared) (H : Hp) (C : Addr) (cl : List (Str × Addr)) (fp : List Addr), PTsm G (X.blk s H scope (compEnvC scope cl C X.env) fp) ifs q)
    (hk : ∀ (s : Shared) (H : Hp) (C : Addr) (cl : List (Str × Addr)) (fp : List Addr), PEm G (X.blk s H scope (compEnvC scope cl C X.env) fp) kx mk)
    (he : ∀ (s : Shared) (H : Hp) (C : Addr) (cl : List (Str × Addr)) (fp : List Addr), PEm G (X.blk s H scope (compEnvC scope cl C X.env) fp) vx mv) (hv : ∀ j ∈ t.slots, j ∈ own.map (·.2) := by decide) (hs : ∀ x, foldedSetIterable iter X.env x = pure x := by intro _; rfl) :
    PEm G X (.DictComp kx vx [⟨tg, iter, ifs, 0⟩] scope pos) (mDc mi t q mk mv (own.map (·.2))) := fun W xk =>
  PE_imp (L2.pe_dc hc hN (hi W xk) ok hg (fun s H C cl fp => ht s H C cl fp Wno (blk_ok xk.kk)) (fun s H C cl fp => hk s H C cl fp Wno (blk_ok xk.kk)) (fun s H C cl fp => he s H C cl fp Wno (blk_ok xk.kk)) hs) fun σ H Q h => dc_read xk.kk hv h
/-- name = {..: .. for ..} on one row -/
theorem ps_setDc {i : Nat} {y : Str} {py : Pos} {kx vx tg iter : Expr} {ifs : List Expr} {scope : Scope} {own : List (Str × Nat)} {pos spos : Pos} {wi : TI} {g : TG} {tt : TT} {tk tv : TE} (hc : X.calm = true) (hN : X.N.Nodup) (hy : X.N[i]? = some y) (hyl : X.env.scope.names.lookup y = some .local)
    (hsw : swapsWith (.DictComp kx vx [⟨tg, iter, ifs, 0⟩] scope pos) (some (.Name y py)) spos.line X.env = pure true) (hi : PI X tg iter wi) (ok : BlkOk X.N X.env.scope scope own)
    (hg : ∀ (s : Shared) (H : Hp) (C : Addr) (cl : List (Str × Addr)) (fp : List Addr), PG (X.blk s H scope (compEnvC scope cl C X.env) fp) tg g) (ht : ∀ (s : Shared) (H : Hp) (C : Addr) (cl : List (Str × Addr)) (fp : List Addr), PTs (X.blk s H scope (compEnvC scope cl C X.env) fp) ifs tt)
    (hk : ∀ (s : Shared) (H : Hp) (C : Addr) (cl : List (Str × Addr)) (fp : List Addr), PE (X.blk s H scope (compEnvC scope cl C X.env) fp) kx tk) (he : ∀ (s : Shared) (H : Hp) (C : Addr) (cl : List (Str × Addr)) (fp : List Addr), PE (X.blk s H scope (compEnvC scope cl C X.env) fp) vx tv) (hs : ∀ x, foldedSetIterable iter X.env x = pure x := by intro _; rfl) :
    PS X (.Assign [.Name y py] (.DictComp kx vx [⟨tg, iter, ifs, 0⟩] scope pos) spos) (tAsg (tDc wi g tt tk tv (own.map (·.2))) (gName i)) := by
  refine ⟨fun pins s σ H D I h => ?_⟩
  rw [exec_Assign_Name_used _ _ _ _ hsw]
  refine wpAny_bind (wpAny_standAt (wpAny_bind ?_))
  show wpAny _ X.A (do let _ ← comprehension (.DictComp kx vx [⟨tg, iter, ifs, 0⟩] scope pos) scope X.env (firstIterPos [⟨tg, iter, ifs, 0⟩] pos) newDict false (eval iter X.env) (some (assign (.Name y py) X.env))) _ _ s
  have h : tDc wi g tt tk tv (own.map (·.2)) σ H (fun x H1 => gName i x σ H1 D.nx) := h
  refine wpAny_bind (thn (dc_core (Qf := fun _ s' => SP X pins D .next s') hc hN I hi ok hg ht hk he hs h fun L C s' m H' I' q hn f => ?_) fun _ s' hq => wpAny_pure (wpAny_pure hq))
  show wpAny _ _ (assign (.Name y py) X.env (.ref L)) _ _ _
  refine wpAny_assign_Name (store_ok2 (v := V.ref L) I' hN hy (.inl hyl) rfl (fun s2 I2 ⟨a, sb, ha⟩ => ?_) (.inr hyl))
  obtain ⟨f0, f1, f2, f3, f4, f5⟩ := f
  have haC : C ≠ a := by
    rcases ha with z | z
    · rw [z]; exact f1
    · exact fun e => f4 y a z e.symm
  refine ⟨m, hn.sameBut sb haC, fun h3 sb3 => ?_⟩
  exact ⟨_, H', I2.turned (t' := s2.toks) (fun b o hb e => (sb3.2 b hb).trans e) f0 f1 f3 f4 f5, q⟩
theorem sw_trueD {kx vx : Expr} {gs : List Comprehension} {scope : Scope} {pos py : Pos} {y : Str} {l : Nat} {env : Env} (hk : env.scope.kind = .function) (hy : env.scope.names.lookup y = some .local) (hl : (py.line == pos.line) = true)
    (ha : (scope.names.any fun (n, k) => n == y && (k == .local || k == .cell)) = false) : swapsWith (.DictComp kx vx gs scope pos) (some (.Name y py)) l env = pure true := by
  have ky : env.kindOf y = some .local := hy
  have hb : env.blockKind = .function := by unfold Env.blockKind; rw [hk]; rfl
  unfold swapsWith
  simp only [hb, ky, ha, Expr.pos, hl]
  rfl
theorem ps_setDcm {i : Nat} {y : Str} {py spos : Pos} {kx vx tg iter : Expr} {ifs : List Expr} {scope : Scope} {own : List (Str × Nat)} {pos : Pos} {mi : MI} {t : Tg} {q : MT} {mk mv : ME} (hc : X.calm = true) (hN : X.N.Nodup) (hi : PIm G X tg iter mi) (ok : BlkOk X.N X.env.scope scope own)
    (hg : ∀ (s : Shared) (H : Hp) (C : Addr) (cl : List (Str × Addr)) (fp : List Addr), PG (X.blk s H scope (compEnvC scope cl C X.env) fp) tg (gOf X.K t)) (ht : ∀ (s : Shared) (H : Hp) (C : Addr) (cl : List (Str × Addr)) (fp : List Addr), PTsm G (X.blk s H scope (compEnvC scope cl C X.env) fp) ifs q)
    (hk : ∀ (s : Shared) (H : Hp) (C : Addr) (cl : List (Str × Addr)) (fp : List Addr), PEm G (X.blk s H scope (compEnvC scope cl C X.env) fp) kx mk)
    (he : ∀ (s : Shared) (H : Hp) (C : Addr) (cl : List (Str × Addr)) (fp : List Addr), PEm G (X.blk s H scope (compEnvC scope cl C X.env) fp) vx mv) (hv : ∀ j ∈ t.slots, j ∈ own.map (·.2) := by decide) (hs : ∀ x, foldedSetIterable iter X.env x = pure x := by intro _; rfl)
    (hy : X.N[i]? = some y := by rfl) (hyl : X.env.scope.names.lookup y = some .local := by rfl) (hsw : swapsWith (.DictComp kx vx [⟨tg, iter, ifs, 0⟩] scope pos) (some (.Name y py)) spos.line X.env = pure true := by exact sw_trueD rfl rfl rfl (by decide +kernel)) :
    PSm G X (.Assign [.Name y py] (.DictComp kx vx [⟨tg, iter, ifs, 0⟩] scope pos) spos) (sSet i (mDc mi t q mk mv (own.map (·.2)))) := fun W xk =>
  PS_imp (ps_setDc hc hN hy hyl hsw (hi W xk) ok hg (fun s H C cl fp => ht s H C cl fp Wno (blk_ok xk.kk)) (fun s H C cl fp => hk s H C cl fp Wno (blk_ok xk.kk)) (fun s H C cl fp => he s H C cl fp Wno (blk_ok xk.kk)) hs) fun E σ H ⟨sd, S, ρ, hs, hr, h⟩ =>
    dc_read xk.kk hv ⟨sd, S, ρ, hs, hr, AftS.bind h hs fun ρ1 H1 v d S1 le r1 rd h1 => h1 ρ1 H1 _ Le.refl r1 ((hs.mono le).set rd i)⟩
/-! ### dict(..) -/
def pairsD : List D → Option (List (D × D))
  | [] => some []
  | .tup [k, v] :: r => if atomB k then (pairsD r).map ((k, v) :: ·) else none
  | _ => none
def fDict : MF
  | [.loc n], S => (match S.get n with
    | some (.dct _ l) => if isK l then .ok (.loc S.n) (S.new (.dct 0 l)) else .stuck
    | some (.lst l) => (match pairsD l with
      | some ps => .ok (.loc S.n) (S.new (.dct 0 (mergeKD ps)))
      | none => .stuck)
    | _ => .stuck)
  | _, _ => .stuck
theorem pairsD_rel {K : PySem.W.Frag} : ∀ {l : List D} {ps : List (D × D)} {xs : List V}, pairsD l = some ps → RelDs G ρ H l xs → ∃ (as : List Addr) (kvs : List (Key × V)), xs = as.map V.ref ∧ Paired (fun p kv => SqT K H p [kV kv.1, kv.2]) as kvs ∧ PairK keyD G ρ H ps kvs
  | [], ps, xs, e, h => by
    simp only [pairsD, Option.some.injEq] at e
    subst e
    simp only [RelDs] at h
    subst h
    exact ⟨[], [], rfl, .nil, rfl⟩
  | d :: l, ps, xs, e, h => by
    match d, e with
    | .tup [k, v], e =>
      simp only [pairsD] at e
      split at e
      · rename_i ha
        obtain ⟨ps', e1, rfl⟩ := Option.map_eq_some_iff.mp e
        simp only [RelDs] at h
        obtain ⟨x, ys, rfl, h1, h2⟩ := h
        obtain ⟨as, kvs, rfl, p1, p2⟩ := pairsD_rel (K := K) e1 h2
        simp only [RelD, RelDs] at h1
        obtain ⟨a, zs, rfl, hz, y1, _, rfl, r1, y2, _, rfl, r2, rfl⟩ := h1
        obtain ⟨ky, eky, rfl⟩ := atom_kV ha r1
        exact ⟨a :: as, (ky, y2) :: kvs, rfl, .cons (.inl (.inl hz)) p1, ky, y2, kvs, rfl, eky, r2, p2⟩
      · cases e
theorem cm_dict (hcalm : X.calm = true) : CallM G X (.type "dict") fDict := fun W ok pins s σ H ρ S xs us ds Q I r rp rd q => by
  unfold fDict at q
  split at q
  · rename_i n
    simp only [RelDs] at rd
    obtain ⟨v, _, rfl, rd, rfl⟩ := rd
    split at q
    · rename_i lk l el
      split at q
      · rename_i hk
        simp only [RelD] at rd
        obtain ⟨a, en, rfl⟩ := rd
        obtain ⟨b, e2, c⟩ := rp.cell n _ el
        rw [en] at e2
        cases e2
        rcases c with ⟨kvs, hd, pk⟩ | ⟨hne, kvs, hd, pk⟩
        · have hrd : Rd H a (.dK kvs) := by
            cases lk with
            | zero => exact .inl hd
            | succ j => exact .inr hd
          refine call_dictD pins s σ H _ us Q I r ⟨a, kvs, rfl, hrd, fun p hp => ?_⟩
          have le : Le G ρ H (ext ρ S.n p) (L2.upd H p (.dK kvs)) := (Le.ext (rp.top _ (Nat.le_refl _))).trans (Le.same (same_new hp))
          exact q _ _ _ le (rp.new (c := .dct 0 l) hp (Or.inl ⟨kvs, upd_same, pk.mono le⟩)) (RelD.loc' ext_same)
        · rw [isK_pair hne pk] at hk
          cases hk
      · exact q.elim
    · rename_i l el
      split at q
      · rename_i ps eps
        obtain ⟨a, ys, rfl, en, hH, ht⟩ := rp.list el rd
        obtain ⟨as, kvs, rfl, p1, p2⟩ := pairsD_rel (K := X.K) eps ht
        refine call_dictP hcalm pins s σ H _ us Q I r ⟨a, as, kvs, rfl, .inl (.inl hH), p1, fun p hp => ?_⟩
        have le : Le G ρ H (ext ρ S.n p) (L2.upd H p (.dK (mergeK [] kvs))) := (Le.ext (rp.top _ (Nat.le_refl _))).trans (Le.same (same_new hp))
        exact q _ _ _ le (rp.new (c := .dct 0 (mergeKD ps)) hp (Or.inl ⟨_, upd_same, merge_rel (p2.mono le) rfl⟩)) (RelD.loc' ext_same)
      · exact q.elim
    · exact q.elim
  · exact q.elim
/-! ### list(d.items()) -/
def itemsD (l : List (D × D)) : List D := l.map fun p => .tup [p.1, p.2]
def fItems (d : D) (S : Sto) : Res D := match d with
  | .loc n => (match S.get n with
    | some (.dct 0 l) => if isK l then .ok (.loc S.n) (S.new (.lst (itemsD l))) else .stuck
    | _ => .stuck)
  | _ => .stuck
theorem items_rel : ∀ {l : List (D × D)} {kvs : List (Key × V)} {ts : List Addr} {H' : Hp} {ρ' : Rho}, PairK keyD G ρ' H' l kvs → Paired (fun (t : Addr) (q : Key × V) => H' t = some (.tup [kV q.1, q.2])) ts kvs → RelDs G ρ' H' (itemsD l) (ts.map V.ref)
  | [], kvs, ts, H', ρ', h, p => by cases h; cases p; exact .nil
  | p :: r, kvs, ts, H', ρ', h, q => by
    obtain ⟨k, v, zs, rfl, h1, h2, h3⟩ := h
    cases q with
    | cons q1 q2 => exact .cons (RelD.tup' q1 (.cons (keyD_rel h1) (.one h2))) (items_rel h3 q2)
theorem pm_listItems {e : Expr} {m : ME} {p pos apos cpos : Pos} (hc : X.calm = true) (he : PEm G X e m) (hg : Gl X "list") (hm : X.mg "list" = none) (hv : bootBuiltins "list" = some (.type "list") := by decide +kernel) (hbase : attributeBase e "items" X.env (eval e X.env) = eval e X.env := by rfl) (hline : (apos.endLine == cpos.line) = true := by rfl)
    (hs : starEach [.Call (.Attribute e "items" apos) [] [] cpos] X.env = (false, eval (.Call (.Attribute e "items" apos) [] [] cpos) X.env) :: starEach [] X.env := by rfl) :
    PEm G X (.Call (.Name "list" p) [.Call (.Attribute e "items" apos) [] [] cpos] [] pos) (mUn fItems m) := fun W ok => PE_imp (LiI.pe_listItems hc (he W ok) hg hm hv hbase hline hs) fun σ H Q ⟨sd, S, ρ, hs, hr, h⟩ =>
  ⟨sd, S, ρ, hs, hr, Aft.bind h fun ρ1 H1 x d S1 le1 r1 rd h1 => by
    unfold fItems at h1
    split at h1
    · rename_i n
      split at h1
      · rename_i l el
        split at h1
        · rename_i hk
          simp only [RelD] at rd
          obtain ⟨a, en, rfl⟩ := rd
          obtain ⟨kvs, hH, pk⟩ := dct0_at r1 el en hk
          refine ⟨a, kvs, rfl, hH, fun H' p ts hsame hp hts hpts hl hpair => ?_⟩
          have le : Le G ρ1 H1 (ext ρ1 S1.n p) H' := (Le.ext (r1.top _ (Nat.le_refl _))).trans (Le.same hsame)
          have eH : L2.upd H' p (.lst (ts.map V.ref)) = H' := by
            funext b
            by_cases eb : b = p
            · rw [eb, upd_same, hl]
            · rw [upd_ne eb]
          have rp2 : Rep G (ext ρ1 S1.n p) (S1.new (.lst (itemsD l))) H' := by
            have hn : ρ1 S1.n = none := r1.top _ (Nat.le_refl _)
            have rs := r1.same hsame
            refine ⟨fun i c e => ?_, fun i j b e1 e2 => ?_, fun i hi => ?_, fun i b e => ?_, fun t ht => (r1.tab t ht).mono (fun _ => hsame _ _) fun c e1 e2 => ⟨hsame _ _ e1, fun i e3 => ?_⟩⟩
            · rw [Sto.get_new] at e
              split at e
              · rename_i z
                cases e
                exact ⟨p, by rw [z]; exact ext_same, _, hl, items_rel (pk.mono le) hpair⟩
              · obtain ⟨b, e1, q1⟩ := r1.cell i c e
                exact ⟨b, le.rho _ _ e1, q1.keep le (fun o h => hsame _ _ h) fun dx gs h => hsame _ _ h⟩
            · by_cases h1 : i = S1.n
              · by_cases h2 : j = S1.n
                · rw [h1, h2]
                · rw [h1, ext_same] at e1
                  rw [ext_ne h2] at e2
                  cases e1
                  obtain ⟨o, z⟩ := r1.dom j p e2
                  rw [hp] at z
                  cases z
              · rw [ext_ne h1] at e1
                by_cases h2 : j = S1.n
                · rw [h2, ext_same] at e2
                  cases e2
                  obtain ⟨o, z⟩ := r1.dom i p e1
                  rw [hp] at z
                  cases z
                · rw [ext_ne h2] at e2
                  exact r1.inj i j b e1 e2
            · rw [ext_ne (by show i ≠ S1.n; have : S1.n + 1 ≤ i := hi; omega)]
              exact r1.top i (by have : S1.n + 1 ≤ i := hi; omega)
            · by_cases h1 : i = S1.n
              · rw [h1, ext_same] at e
                cases e
                exact ⟨_, hl⟩
              · rw [ext_ne h1] at e
                exact rs.dom i b e
            · by_cases h1 : i = S1.n
              · rw [h1, ext_same] at e3
                cases e3
                rw [hp] at e1
                cases e1
              · rw [ext_ne h1] at e3
                exact e2 i e3
          exact h1 _ _ _ le rp2 (RelD.loc' ext_same)
        · exact h1.elim
      · exact h1.elim
    · exact h1.elim⟩
/-! ### sorted, min, max, len -/
def intKeys : List (D × D) → Option (List Int)
  | [] => some []
  | (.int i, _) :: r => (intKeys r).map (i :: ·)
  | _ => none
theorem intKeys_rel : ∀ {l : List (D × D)} {ks : List Int} {kvs : List (Key × V)}, intKeys l = some ks → PairK keyD G ρ H l kvs → kvs.map (·.1) = ks.map Sum.inl
  | [], ks, kvs, e, h => by
    simp only [intKeys, Option.some.injEq] at e
    subst e
    cases h
    rfl
  | (d, x) :: l, ks, kvs, e, h => by
    cases d with
    | int i =>
      simp only [intKeys] at e
      obtain ⟨ks', e1, rfl⟩ := Option.map_eq_some_iff.mp e
      obtain ⟨k, v, zs, rfl, h1, h2, h3⟩ := h
      cases h1
      rw [List.map_cons, intKeys_rel e1 h3]
      rfl
    | _ => simp only [intKeys] at e; cases e
theorem intKeys_isK {l : List (D × D)} {ks : List Int} (h : intKeys l = some ks) : isK l = true := by
  cases l with
  | nil => rfl
  | cons p r =>
    obtain ⟨d, x⟩ := p
    cases d with
    | int i => rfl
    | _ => simp only [intKeys] at h; cases h
def fSorted : MF
  | [.loc n], S => (match S.get n with
    | some (.dct 0 l) => (match intKeys l with
      | some ks => .ok (.loc S.n) (S.new (.lst ((sortI ks).map D.int)))
      | none => .stuck)
    | some (.lst l) => (match intsD l with
      | some ns => .ok (.loc S.n) (S.new (.lst ((sortI ns).map D.int)))
      | none => .stuck)
    | _ => .stuck)
  | _, _ => .stuck
theorem cm_sorted (hcalm : X.calm = true) : CallM G X (.builtin "sorted") fSorted := fun W ok pins s σ H ρ S xs us ds Q I r rp rd q => by
  unfold fSorted at q
  split at q
  · rename_i n
    simp only [RelDs] at rd
    obtain ⟨v, _, rfl, rd, rfl⟩ := rd
    split at q
    · rename_i l el
      split at q
      · rename_i ks eks
        simp only [RelD] at rd
        obtain ⟨a, en, rfl⟩ := rd
        obtain ⟨kvs, hH, pk⟩ := dct0_at rp el en (intKeys_isK eks)
        refine call_sortedDA hcalm pins s σ H _ us Q I r ⟨a, kvs, ks, rfl, .inl hH, intKeys_rel eks pk, fun ys p perm up hp => ?_⟩
        cases sortI_unique perm up
        have le : Le G ρ H (ext ρ S.n p) (L2.upd H p (.lst ((sortI ks).map V.int))) := (Le.ext (rp.top _ (Nat.le_refl _))).trans (Le.same (same_new hp))
        exact q _ _ _ le (rp.new (c := .lst ((sortI ks).map D.int)) hp ⟨_, upd_same, RelDs.ints _⟩) (RelD.loc' ext_same)
      · exact q.elim
    · rename_i l el
      split at q
      · rename_i ns ens
        obtain ⟨a, ys, rfl, en, hH, ht⟩ := rp.list el rd
        cases ints_rel ens ht
        refine cr_sortedI pins s σ H _ us Q I r ⟨a, ns, rfl, .inl (.inl hH), fun ys p perm up hp => ?_⟩
        cases sortI_unique perm up
        have le : Le G ρ H (ext ρ S.n p) (L2.upd H p (.lst ((sortI ns).map V.int))) := (Le.ext (rp.top _ (Nat.le_refl _))).trans (Le.same (same_new hp))
        exact q _ _ _ le (rp.new (c := .lst ((sortI ns).map D.int)) hp ⟨_, upd_same, RelDs.ints _⟩) (RelD.loc' ext_same)
      · exact q.elim
    · exact q.elim
  · exact q.elim
end
end Y

/-! Z8: min, max, len; dicts compared; f-strings; or, and of any values; unpacked lists. -/
namespace Y
open PySem PySem.Spec PyProof.Rows L2
/-- max(d), d a dict with int keys -/
theorem call_maxK {X : Cx} (hc : X.calm = true) : CallR X (.builtin "max") (fun vs H Q => ∃ (a : Addr) (kvs : List (Key × V)) (is : List Int), vs = [V.ref a] ∧ H a = some (.dK kvs) ∧ kvs.map (·.1) = is.map Sum.inl ∧ is ≠ [] ∧ ∀ m, m ∈ is → (∀ j ∈ is, j ≤ m) → Q (.int m) H) := by
  intro pins s σ H vs us Q I r h
  obtain ⟨a, kvs, is, rfl, ha, hv, hne, q⟩ := h
  rw [Vals.ref1 r]
  obtain ⟨_, hsys, vs, rel, dof⟩ := dk_of I.hok ha
  obtain ⟨ep, dat⟩ := dof.dictAt
  obtain ⟨ob, es, ho, hex, hdat, hko, hpr, hnd⟩ := id dat
  have hlt : a < s.heap.objs.size := Heap.lt_size ho
  have hkeys : vs.map (·.1) = is.map Sum.inl := (KV.keys rel).symm.trans hv
  have hlv : vs.length = is.length := by simpa using congrArg List.length hkeys
  have hlen : 0 < vs.length := by rw [hlv]; exact List.length_pos_iff.mpr hne
  have hval : ∀ (i : Nat) (v : Value), (∃ k x, vs[i]? = some (k, x) ∧ (mixKind X.prog X.w).is k v = true) → ∃ t, v = Value.int (is.getD i 0) t := fun i v ⟨k, x, hk, hkey⟩ => by
    have e1 : (vs.map (·.1))[i]? = some k := by rw [List.getElem?_map, hk] <;> rfl
    rw [hkeys, List.getElem?_map] at e1
    obtain ⟨j, hj, e2⟩ := Option.map_eq_some_iff.mp e1
    subst e2
    obtain ⟨t, e3⟩ := Value.isInt_shape (k := j) (v := v) (show Value.isInt j v = true from hkey)
    exact ⟨t, by rw [e3, List.getD_eq_getElem?_getD, hj] <;> rfl⟩
  refine call_max_walk (wpAny_pyIter_dict (knd := mixKind X.prog X.w) hsys dat ?_)
  refine ⟨_, _, _, _, _, _, _, rfl, Walks.dictKeys (knd := mixKind X.prog X.w) (A := X.A.in1) (I.ok.hd hc) s.heap.objs.size a (Nat.ne_of_lt hlt) vs ep,
    ⟨⟨_, Heap.get?_push_size _ rfl, rfl, rfl⟩, dat.keep fun b u e => Heap.get?_push_of_some _ e⟩, fun b hb => ?_, hlen, CmpOf.ints_gt (fun i => is.getD i 0) hval, fun v h' tk hP hk => ?_⟩
  · show b < (s.heap.push _).objs.size
    rw [Heap.size_push]
    rcases List.mem_cons.mp hb with e | hb
    · rw [e]; exact Nat.lt_succ_self _
    · rw [List.mem_singleton.mp hb]; exact Nat.lt_succ_of_lt hlt
  · obtain ⟨t, rfl⟩ := hval _ v hP
    obtain ⟨b1, b2⟩ := argBest_gt (fun i => is.getD i 0) (vs.length - 1)
    refine ⟨.int _, H, I.kept (t' := tk) fun b u e => hk b u (fun hmem => ?_) (Heap.get?_push_of_some _ e), ⟨t, rfl⟩, q _ ?_ fun j hj => ?_⟩
    · have e2 := Heap.lt_size e
      rw [List.mem_singleton.mp hmem] at e2
      exact absurd e2 (Nat.lt_irrefl _)
    · have hb : argBest (fun i j => decide (is.getD i 0 > is.getD j 0)) (vs.length - 1) < is.length := by omega
      rw [List.getD_eq_getElem?_getD, List.getElem?_eq_getElem hb]
      exact List.getElem_mem hb
    · obtain ⟨i, hi, e⟩ := List.mem_iff_getElem.mp hj
      have e2 : is.getD i 0 = j := by rw [List.getD_eq_getElem?_getD, List.getElem?_eq_getElem hi, ← e] <;> rfl
      rw [← e2]
      exact b2 i (by omega)
def minI : List Int → Int
  | [] => 0
  | [x] => x
  | x :: y :: r => if x ≤ minI (y :: r) then x else minI (y :: r)
def maxI : List Int → Int
  | [] => 0
  | [x] => x
  | x :: y :: r => if maxI (y :: r) ≤ x then x else maxI (y :: r)
theorem minI_ok : ∀ {l : List Int}, l ≠ [] → minI l ∈ l ∧ ∀ j ∈ l, minI l ≤ j
  | [], h => absurd rfl h
  | [x], _ => by simp [minI]
  | x :: y :: r, _ => by
    obtain ⟨h1, h2⟩ := minI_ok (l := y :: r) (by simp)
    unfold minI
    split
    · rename_i hx
      refine ⟨List.mem_cons_self .., fun j hj => ?_⟩
      rcases List.mem_cons.mp hj with e | hj
      · omega
      · exact Int.le_trans hx (h2 j hj)
    · rename_i hx
      refine ⟨List.mem_cons_of_mem _ h1, fun j hj => ?_⟩
      rcases List.mem_cons.mp hj with e | hj
      · omega
      · exact h2 j hj
theorem maxI_ok : ∀ {l : List Int}, l ≠ [] → maxI l ∈ l ∧ ∀ j ∈ l, j ≤ maxI l
  | [], h => absurd rfl h
  | [x], _ => by simp [maxI]
  | x :: y :: r, _ => by
    obtain ⟨h1, h2⟩ := maxI_ok (l := y :: r) (by simp)
    unfold maxI
    split
    · rename_i hx
      refine ⟨List.mem_cons_self .., fun j hj => ?_⟩
      rcases List.mem_cons.mp hj with e | hj
      · omega
      · exact Int.le_trans (h2 j hj) hx
    · rename_i hx
      refine ⟨List.mem_cons_of_mem _ h1, fun j hj => ?_⟩
      rcases List.mem_cons.mp hj with e | hj
      · omega
      · exact h2 j hj
/-- the ints of a list, or the int keys of a dict -/
def intsOf (d : D) (S : Sto) : Option (List Int) := match d with
  | .loc n => (match S.get n with
    | some (.dct 0 l) => intKeys l
    | some (.lst l) => intsD l
    | _ => none)
  | _ => none
def fMin1 : MF
  | [d], S => (match intsOf d S with
    | some (x :: r) => .ok (.int (minI (x :: r))) S
    | _ => .stuck)
  | _, _ => .stuck
def fMax1 : MF
  | [d], S => (match intsOf d S with
    | some (x :: r) => .ok (.int (maxI (x :: r))) S
    | _ => .stuck)
  | _, _ => .stuck
section
variable {G : Glo} {X : Cx} {ρ : Rho} {H : Hp}
theorem intsOf_ok {S : Sto} {d : D} {x : V} {ns : List Int} (rp : Rep G ρ S H) (rd : RelD G ρ H d x) (h : intsOf d S = some ns) : ∃ a, x = .ref a ∧ ((∃ kvs : List (Key × V), H a = some (.dK kvs) ∧ kvs.map (·.1) = ns.map Sum.inl) ∨ H a = some (.lst (ns.map V.int))) := by
  unfold intsOf at h
  split at h
  · rename_i n
    split at h
    · rename_i l el
      simp only [RelD] at rd
      obtain ⟨a, en, rfl⟩ := rd
      obtain ⟨kvs, hH, pk⟩ := dct0_at rp el en (intKeys_isK h)
      exact ⟨a, rfl, .inl ⟨kvs, hH, intKeys_rel h pk⟩⟩
    · rename_i l el
      obtain ⟨a, ys, rfl, en, hH, ht⟩ := rp.list el rd
      cases ints_rel h ht
      exact ⟨a, rfl, .inr hH⟩
    · cases h
  · cases h
theorem cm_min1 (hc : X.calm = true) : CallM G X (.builtin "min") fMin1 := fun W ok pins s σ H ρ S xs us ds Q I r rp rd q => by
  unfold fMin1 at q
  split at q
  · rename_i d
    simp only [RelDs] at rd
    obtain ⟨v, _, rfl, rd, rfl⟩ := rd
    split at q
    · rename_i y r' e
      have un : ∀ m, m ∈ y :: r' → (∀ j ∈ y :: r', m ≤ j) → Q (.int m) H := fun m h1 h2 => by
        obtain ⟨k1, k2⟩ := minI_ok (l := y :: r') (by simp)
        have e2 : m = minI (y :: r') := Int.le_antisymm (h2 _ k1) (k2 _ h1)
        rw [e2]
        exact q.ok rp rel_int
      obtain ⟨a, rfl, ⟨kvs, hH, hk⟩ | hH⟩ := intsOf_ok rp rd e
      · exact cr_minK hc pins s σ H _ us Q I r ⟨a, kvs, y :: r', rfl, hH, hk, by simp, un⟩
      · exact cr_min hc pins s σ H _ us Q I r ⟨a, y :: r', rfl, .inl (.inl hH), by simp, un⟩
    · exact q.elim
  · exact q.elim
theorem cm_max1 (hc : X.calm = true) : CallM G X (.builtin "max") fMax1 := fun W ok pins s σ H ρ S xs us ds Q I r rp rd q => by
  unfold fMax1 at q
  split at q
  · rename_i d
    simp only [RelDs] at rd
    obtain ⟨v, _, rfl, rd, rfl⟩ := rd
    split at q
    · rename_i y r' e
      have un : ∀ m, m ∈ y :: r' → (∀ j ∈ y :: r', j ≤ m) → Q (.int m) H := fun m h1 h2 => by
        obtain ⟨k1, k2⟩ := maxI_ok (l := y :: r') (by simp)
        have e2 : m = maxI (y :: r') := Int.le_antisymm (k2 _ h1) (h2 _ k1)
        rw [e2]
        exact q.ok rp rel_int
      obtain ⟨a, rfl, ⟨kvs, hH, hk⟩ | hH⟩ := intsOf_ok rp rd e
      · exact call_maxK hc pins s σ H _ us Q I r ⟨a, kvs, y :: r', rfl, hH, hk, by simp, un⟩
      · exact cr_max hc pins s σ H _ us Q I r ⟨a, y :: r', rfl, .inl (.inl hH), by simp, un⟩
    · exact q.elim
  · exact q.elim
/-- len of a dict, too -/
def fLenG : MF := fun ds S => match ds with
  | [.loc n] => (match S.get n with
    | some (.dct 0 l) => if isK l then .ok (.int l.length) S else .stuck
    | _ => fLen ds S)
  | _ => fLen ds S
theorem cm_lenG : CallM G X (.builtin "len") fLenG := fun W ok pins s σ H ρ S xs us ds Q I r rp rd q => by
  unfold fLenG at q
  split at q
  · rename_i n
    split at q
    · rename_i l el
      split at q
      · rename_i hk
        simp only [RelDs, RelD] at rd
        obtain ⟨v, _, rfl, ⟨a, en, rfl⟩, rfl⟩ := rd
        obtain ⟨kvs, hH, pk⟩ := dct0_at rp el en hk
        obtain ⟨u, rfl, ru⟩ := vals1 r
        cases ru
        exact d_len I (.inl hH) fun t s' I' => ⟨.int _, H, I', ⟨t, rfl⟩, by rw [← (pk.get).1]; exact q.ok rp rel_int⟩
      · exact q.elim
    · exact cm_len W ok pins s σ H ρ S xs us _ Q I r rp rd q
  · exact cm_len W ok pins s σ H ρ S xs us ds Q I r rp rd q
/-! ### dicts compared -/
def eqHits (S : Sto) (m : List (D × D)) : List (D × D) → Option Bool
  | [] => some true
  | p :: r => match getKD m p.1 with
    | none => some false
    | some e => match eqDat S p.2 e, eqHits S m r with
      | some b, some c => some (b && c)
      | _, _ => none
def dctK (d : D) (S : Sto) : Option (List (D × D)) := match d with
  | .loc n => (match S.get n with
    | some (.dct 0 l) => if isK l then some l else none
    | _ => none)
  | _ => none
def eqDcts (S : Sto) (d e : D) : Option Bool := match dctK d S, dctK e S with
  | some l, some m => if l.length = m.length then eqHits S m l else some false
  | _, _ => none
def cEqG (d e : D) (S : Sto) : Res D := if isDct d S then (match eqDcts S d e with
  | some b => .ok (.bl b) S
  | none => .stuck) else cEq d e S
def cNeG (d e : D) (S : Sto) : Res D := if isDct d S then (match eqDcts S d e with
  | some b => .ok (.bl (!b)) S
  | none => .stuck) else cNe d e S
theorem dctK_ok {S : Sto} {d : D} {x : V} {l : List (D × D)} (rp : Rep G ρ S H) (rd : RelD G ρ H d x) (h : dctK d S = some l) : ∃ a kvs, x = .ref a ∧ H a = some (.dK kvs) ∧ PairK keyD G ρ H l kvs := by
  unfold dctK at h
  split at h
  · rename_i n
    split at h
    · rename_i l' el
      split at h
      · rename_i hk
        cases h
        simp only [RelD] at rd
        obtain ⟨a, en, rfl⟩ := rd
        obtain ⟨kvs, hH, pk⟩ := dct0_at rp el en hk
        exact ⟨a, kvs, rfl, hH, pk⟩
      · cases h
    · cases h
  · cases h
theorem hits_ok {pins : List (Addr × Obj)} {σ : L2.St} {s : Shared} {S : Sto} {A : Around} (kk : G.K = X.K) (I : Inv X pins σ H s) (rp : Rep G ρ S H) (hu : A.units + 64 < cLine) {m : List (D × D)} {ms : List (Key × V)} {vm : List (Key × Value)} (pm : PairK keyD G ρ H m ms) (km : KV ms vm) :
    ∀ {l : List (D × D)} {ls : List (Key × V)} {vl : List (Key × Value)} {b : Bool}, PairK keyD G ρ H l ls → KV ls vl → eqHits S m l = some b → PySem.W.KeqHits A s vm vl b
  | [], ls, vl, b, h, kl, e => by
    cases h
    cases kl
    simp only [eqHits, Option.some.injEq] at e
    subst e
    exact .nil
  | p :: r, ls, vl, b, h, kl, e => by
    obtain ⟨k, v, zs, rfl, h1, h2, h3⟩ := h
    cases kl with
    | @cons _ q _ qs hq t =>
      obtain ⟨k', u⟩ := q
      obtain ⟨e1, ru⟩ := hq
      have e1 : k = k' := e1
      subst e1
      obtain ⟨g1, g2⟩ := pm.val keq_k h1
      simp only [eqHits] at e
      split at e
      · rename_i eg
        cases e
        have rr := km.val k
        rw [g2 eg] at rr
        exact .miss (by cases hv : valueAt vm k with | none => rfl | some y => rw [hv] at rr; exact rr.elim)
      · rename_i d' eg
        split at e
        · rename_i b' c' eb ec
          cases e
          obtain ⟨w, ew, rw'⟩ := g1 d' eg
          have rr := km.val k
          rw [ew] at rr
          obtain ⟨y, hy, ry⟩ := rr.some_of
          obtain ⟨pd, qd, dp, dq, sp, sq, ee⟩ := eqDat_ok kk rp eb h2 rw'
          obtain ⟨as, r1⟩ := Dp.reads I pd v u dp ru
          obtain ⟨bs, r2⟩ := Dp.reads I qd w y dq ry
          refine .hit hy ?_ (hits_ok kk I rp hu pm km h3 t ec)
          rw [← ee]
          refine SeqAt.eqAt_reads pd qd A s u y _ _ r1 r2 (SeqAt.canLay_of_shaped sp) (SeqAt.canLay_of_shaped sq) ?_
          have := SeqAt.depth_of_shaped sp
          have h3 := Nat.min_le_left pd.depth qd.depth
          omega
        · cases e
theorem om_eqG (hu : X.A.units + 65 < cLine) : OpM G X (compareOp .Eq) cEqG := fun W ok pins s σ H ρ S x y v u d e Q I rx ry rp rd re q => by
  unfold cEqG at q
  split at q
  · split at q
    · rename_i b eb
      unfold eqDcts at eb
      split at eb
      · rename_i l m el em
        obtain ⟨a, ls, rfl, hH, pl⟩ := dctK_ok rp rd el
        obtain ⟨a2, ms, rfl, hH2, pm⟩ := dctK_ok rp re em
        cases rx
        cases ry
        obtain ⟨_, ya, va, ra, da⟩ := (show ObjOk X.prog X.w H s.heap a (.dK ls) from I.hok a _ hH)
        obtain ⟨_, yb, vb, rb, db⟩ := (show ObjOk X.prog X.w H s.heap a2 (.dK ms) from I.hok a2 _ hH2)
        have e1 : va.length = l.length := by rw [← ra.length, (pl.get).1]
        have e2 : vb.length = m.length := by rw [← rb.length, (pm.get).1]
        split at eb
        · rename_i hl
          exact PySem.W.keq_eq (knd := mixKind X.prog X.w) (r := b) ya yb da db (by omega) (fun _ => hits_ok ok.kk I rp (show X.A.in1.units + 64 < cLine from by show X.A.units + 1 + 64 < cLine; omega) pm rb pl ra eb) ⟨.bl b, H, I, by rw [e1, e2, hl]; simp; rfl, q.ok rp rel_bl⟩
        · rename_i hl
          cases eb
          exact PySem.W.keq_eq (knd := mixKind X.prog X.w) (r := true) ya yb da db (by omega) (fun z => absurd (by rw [← e1, ← e2]; exact z) hl) ⟨.bl false, H, I, by rw [e1, e2, show (l.length == m.length) = false from by simpa using hl]; rfl, q.ok rp rel_bl⟩
      · cases eb
    · exact q.elim
  · exact om_eq (by omega) W ok pins s σ H ρ S x y v u d e Q I rx ry rp rd re q
theorem om_neG (hu : X.A.units + 65 < cLine) : OpM G X (compareOp .NotEq) cNeG := fun W ok pins s σ H ρ S x y v u d e Q I rx ry rp rd re q => by
  unfold cNeG at q
  split at q
  · split at q
    · rename_i b eb
      unfold eqDcts at eb
      split at eb
      · rename_i l m el em
        obtain ⟨a, ls, rfl, hH, pl⟩ := dctK_ok rp rd el
        obtain ⟨a2, ms, rfl, hH2, pm⟩ := dctK_ok rp re em
        cases rx
        cases ry
        obtain ⟨_, ya, va, ra, da⟩ := (show ObjOk X.prog X.w H s.heap a (.dK ls) from I.hok a _ hH)
        obtain ⟨_, yb, vb, rb, db⟩ := (show ObjOk X.prog X.w H s.heap a2 (.dK ms) from I.hok a2 _ hH2)
        have e1 : va.length = l.length := by rw [← ra.length, (pl.get).1]
        have e2 : vb.length = m.length := by rw [← rb.length, (pm.get).1]
        split at eb
        · rename_i hl
          exact PySem.W.keq_ne (knd := mixKind X.prog X.w) (r := b) ya yb da db (by omega) (fun _ => hits_ok ok.kk I rp (show X.A.in1.units + 64 < cLine from by show X.A.units + 1 + 64 < cLine; omega) pm rb pl ra eb) ⟨.bl (!b), H, I, by rw [e1, e2, hl]; simp; rfl, q.ok rp rel_bl⟩
        · rename_i hl
          cases eb
          exact PySem.W.keq_ne (knd := mixKind X.prog X.w) (r := true) ya yb da db (by omega) (fun z => absurd (by rw [← e1, ← e2]; exact z) hl) ⟨.bl true, H, I, by rw [e1, e2, show (l.length == m.length) = false from by simpa using hl]; rfl, q.ok rp rel_bl⟩
      · cases eb
    · exact q.elim
  · exact om_ne (by omega) W ok pins s σ H ρ S x y v u d e Q I rx ry rp rd re q
end
end Y

/-! Z9: f-strings; or, and of any values; unpacked lists; classmethods; str(o). -/
namespace Y
open PySem PySem.Spec PyProof.Rows L2
def digI (i : Int) : List Nat := (Str.ofString (toString i)).cps.toList
def fmtV (d : D) (S : Sto) : Res D := match d with
  | .str x => if x.length ≤ 16777216 then .ok (.str x) S else .stuck
  | .int i => if i.natAbs.log2 < 1920 then .ok (.str (digI i)) S else .stuck
  | _ => .stuck
def mJs : List ME → List Nat → SD → Sto → Res D
  | [], acc, _, S => .ok (.str acc) S
  | m :: ms, acc, sd, S => (m sd S).bind fun d S1 => match d with
    | .str y => if acc.length + y.length ≤ 16777216 then mJs ms (acc ++ y) sd S1 else .stuck
    | _ => .stuck
def mJoin (ms : List ME) : ME := mJs ms []
section
variable {G : Glo} {X : Cx} {ρ : Rho} {H : Hp}
theorem pm_fmt {e : Expr} {m : ME} {pos : Pos} (he : PEm G X e m) : PEm G X (.FormattedValue e (-1) none pos) (mUn fmtV m) := fun W ok => PE_imp (pe_fmt (he W ok)) fun σ H Q ⟨sd, S, ρ, hs, hr, h⟩ =>
  ⟨sd, S, ρ, hs, hr, Aft.bind h fun ρ1 H1 x d S1 le1 r1 rd h1 => by
    unfold fmtV at h1
    split at h1
    · rename_i y
      simp only [RelD] at rd
      split at h1
      · rename_i hl
        exact .inl ⟨_, rd, by rw [str_len, sizeLine_eq]; exact hl, h1.ok r1 rel_str⟩
      · exact h1.elim
    · rename_i i
      simp only [RelD] at rd
      split at h1
      · rename_i hl
        refine .inr ⟨i, rd, hl, ?_⟩
        have := h1.ok r1 (rel_str (x := digI i))
        unfold digI at this
        rw [str_eta] at this
        exact this
      · exact h1.elim
    · exact h1.elim⟩
inductive PJm (G : Glo) (X : Cx) : List Expr → List ME → Prop
  | nil : PJm G X [] []
  | cons {e : Expr} {m : ME} {es : List Expr} {ms : List ME} (h : PEm G X e m) (r : PJm G X es ms) : PJm G X (e :: es) (m :: ms)
theorem PJm.pj {W : WX} (ok : XOk G X W) : ∀ {es : List Expr} {ms : List ME}, PJm G X es ms → PJ X es (ms.map fun m => te G m W)
  | _, _, .nil => .nil
  | _, _, .cons h r => .cons (h W ok) (r.pj ok)
theorem js_read {W : WX} {σ : L2.St} {sd : SD} {Q : VK} : ∀ {ms : List ME} {acc : List Nat} {H : Hp} {ρ : Rho} {S : Sto}, RelSt G ρ H sd σ → Rep G ρ S H → Aft G (RelD G) ρ H (mJs ms acc sd S) Q (fun c a H' => W c a σ H') → tJs (ms.map fun m => te G m W) ⟨acc.toArray⟩ σ H (fun out H1 => Q (.str out) H1)
  | [], acc, H, ρ, S, hs, hr, h => h.ok hr rel_str
  | m :: ms, acc, H, ρ, S, hs, hr, h => ⟨sd, S, ρ, hs, hr, Aft.bind h fun ρ1 H1 x d S1 le1 r1 rd h1 => by
      split at h1
      · rename_i y
        split at h1
        · rename_i hl
          simp only [RelD] at rd
          refine ⟨_, rd, ?_, ?_⟩
          · rw [str_app, str_len, sizeLine_eq, List.length_append]
            exact hl
          · rw [str_app]
            exact js_read (hs.mono le1) r1 h1
        · exact h1.elim
      · exact h1.elim⟩
theorem pm_joined {v1 v2 : Expr} {rest : List Expr} {ms : List ME} {pos : Pos} (h : PJm G X (v1 :: v2 :: rest) ms) : PEm G X (.JoinedStr (v1 :: v2 :: rest) pos) (mJoin ms) := fun W ok => PE_imp (pe_joined (h.pj ok)) fun σ H Q ⟨sd, S, ρ, hs, hr, q⟩ =>
  js_read (acc := []) hs hr q
theorem pm_joined1 {e : Expr} {m : ME} {pos : Pos} (he : PEm G X e m) : PEm G X (.JoinedStr [e] pos) m := fun W ok => pe_joined1 (he W ok)
/-! ### or, and, not of any values -/
def mOrT (a b : ME) : ME := fun sd S => (a sd S).bind fun x S1 => (truD x S1).bind fun k S2 => if k then .ok x S2 else b sd S2
def mAndT (a b : ME) : ME := fun sd S => (a sd S).bind fun x S1 => (truD x S1).bind fun k S2 => if k then b sd S2 else .ok x S2
def mNotT (a : ME) : ME := fun sd S => (a sd S).bind fun x S1 => (truD x S1).bind fun k S2 => .ok (.bl (!k)) S2
theorem truD_pure {d : D} {S : Sto} : (∃ k, truD d S = .ok k S) ∨ truD d S = .stuck := by
  unfold truD
  split
  · exact .inl ⟨_, rfl⟩
  · exact .inl ⟨_, rfl⟩
  · exact .inl ⟨_, rfl⟩
  · split
    · exact .inl ⟨_, rfl⟩
    · exact .inr rfl
  · exact .inl ⟨_, rfl⟩
  · split
    · exact .inl ⟨_, rfl⟩
    · exact .inr rfl
  · exact .inr rfl
theorem tru_at {K : PySem.W.Frag} {S : Sto} {d : D} {x : V} {k : Bool} (rp : Rep G ρ S H) (rd : RelD G ρ H d x) (h : truD d S = .ok k S) : TruV K x H k := by
  cases d with
  | non => simp only [RelD] at rd; subst rd; cases h; rfl
  | bl b => simp only [RelD] at rd; subst rd; cases h; rfl
  | int i => simp only [RelD] at rd; subst rd; cases h; rfl
  | str l =>
    simp only [RelD] at rd
    subst rd
    simp only [truD] at h
    split at h
    · rename_i hl
      cases h
      have e : (⟨l.toArray⟩ : Str).length = l.length := str_len l
      refine ⟨by rw [e, sizeLine_eq]; exact hl, ?_⟩
      rw [e]
      cases l with
      | nil => rfl
      | cons a r =>
        show true = ((((r.length + 1 : Nat)) : Int) != 0)
        have z : ((((r.length + 1 : Nat)) : Int) != 0) = true := by
          simp only [bne_iff_ne, ne_eq]
          omega
        rw [z]
    · cases h
  | tup l =>
    simp only [RelD] at rd
    obtain ⟨a, xs, rfl, hs, ht⟩ := rd
    cases h
    refine .inr (.inl ⟨xs, .inl (.inl hs), ?_⟩)
    have e := ht.length
    cases l <;> cases xs <;> first | rfl | (simp at e)
  | loc n =>
    simp only [truD] at h
    split at h
    · rename_i l e
      cases h
      obtain ⟨a, xs, rfl, e1, hH, ht⟩ := rp.list e rd
      refine .inl ⟨xs, .inl (.inl hH), ?_⟩
      have e := ht.length
      cases l <;> cases xs <;> first | rfl | (simp at e)
    · cases h
  | cls n => cases h
  | scr l => cases h
theorem pm_orT {a b : Expr} {rest : List Expr} {m n : ME} {pos : Pos} (ha : PEm G X a m) (hb : PEm G X (.BoolOp .Or (b :: rest) pos) n) : PEm G X (.BoolOp .Or (a :: b :: rest) pos) (mOrT m n) := fun W ok => PE_imp (pe_orT (ha W ok) (hb W ok)) fun σ H Q ⟨sd, S, ρ, hs, hr, h⟩ =>
  ⟨sd, S, ρ, hs, hr, Aft.bind h fun ρ1 H1 x d S1 le1 r1 rd h1 => by
    rcases truD_pure (d := d) (S := S1) with ⟨k, ek⟩ | ek
    · rw [ek] at h1
      refine ⟨k, tru_at r1 rd ek, ?_⟩
      cases k with
      | true => exact h1.ok r1 rd
      | false => exact ⟨sd, S1, ρ1, hs.mono le1, r1, h1⟩
    · rw [ek] at h1
      exact h1.elim⟩
theorem pm_andT {a b : Expr} {rest : List Expr} {m n : ME} {pos : Pos} (ha : PEm G X a m) (hb : PEm G X (.BoolOp .And (b :: rest) pos) n) : PEm G X (.BoolOp .And (a :: b :: rest) pos) (mAndT m n) := fun W ok => PE_imp (pe_andT (ha W ok) (hb W ok)) fun σ H Q ⟨sd, S, ρ, hs, hr, h⟩ =>
  ⟨sd, S, ρ, hs, hr, Aft.bind h fun ρ1 H1 x d S1 le1 r1 rd h1 => by
    rcases truD_pure (d := d) (S := S1) with ⟨k, ek⟩ | ek
    · rw [ek] at h1
      refine ⟨k, tru_at r1 rd ek, ?_⟩
      cases k with
      | false => exact h1.ok r1 rd
      | true => exact ⟨sd, S1, ρ1, hs.mono le1, r1, h1⟩
    · rw [ek] at h1
      exact h1.elim⟩
theorem pm_notT {a : Expr} {m : ME} {pos : Pos} (ha : PEm G X a m) : PEm G X (.UnaryOp .Not a pos) (mNotT m) := fun W ok => PE_imp (pe_notT (ha W ok)) fun σ H Q ⟨sd, S, ρ, hs, hr, h⟩ =>
  ⟨sd, S, ρ, hs, hr, Aft.bind h fun ρ1 H1 x d S1 le1 r1 rd h1 => by
    rcases truD_pure (d := d) (S := S1) with ⟨k, ek⟩ | ek
    · rw [ek] at h1
      exact ⟨k, tru_at r1 rd ek, h1.ok r1 rel_bl⟩
    · rw [ek] at h1
      exact h1.elim⟩
/-! ### a, b, .. = a list or a tuple -/
def sAsgS (l : List Tg) (m : ME) : MS := fun sd S => bindS (m sd S) sd fun d S1 => match d with
  | .tup ds => (match asgs l ds sd with
    | some sd1 => .nx sd1 S1
    | none => .stuck)
  | .loc n => (match S1.get n with
    | some (.lst ds) => (match asgs l ds sd with
      | some sd1 => .nx sd1 S1
      | none => .stuck)
    | _ => .stuck)
  | _ => .stuck
theorem PG_or {e : Expr} {t1 t2 : TG} (h1 : PG X e t1) (h2 : PG X e t2) : PG X e (fun v σ H Q => t1 v σ H Q ∨ t2 v σ H Q) := ⟨fun pins s σ H v u Q I r h => h.elim (h1.run pins s σ H v u Q I r) (h2.run pins s σ H v u Q I r)⟩
theorem ps_asgS {es : List Expr} {k : Nat} {e : Expr} {l : List Tg} {m : ME} {pos tpos : Pos} (hc : X.calm = true) (he : PEm G X e m) (hg : PGs X es (gsOf X.K l)) (hs : swapsWithSole [.Tuple es k tpos] e pos.line X.env = pure false := by rfl) (hw : swappedStores [.Tuple es k tpos] e X.env = pure none := by rfl)
    (h1 : (assignEach [.Tuple es k tpos] X.env).map (·.2) = [assign (.Tuple es k tpos) X.env] := by rfl) (hn : (assignEach es X.env).length = l.length := by rfl) (hst : (assignEach es X.env).findIdx? (·.1) = none := by rfl) : PSm G X (.Assign [.Tuple es k tpos] e pos) (sAsgS l m) := fun W ok =>
  PS_imp (ps_asg (he W ok) (PG_or (pg_tup hc hg hn hst) (pg_lst hc hg hn hst)) hs hw h1) fun E σ H ⟨sd, S, ρ, hs, hr, h⟩ =>
  ⟨sd, S, ρ, hs, hr, AftS.bind h hs fun ρ1 H1 v d S1 le r1 rd h1 => by
    split at h1
    · rename_i ds
      split at h1
      · rename_i sd1 e1
        simp only [RelD] at rd
        obtain ⟨a, xs, rfl, hq, ht⟩ := rd
        exact .inl ⟨a, xs, rfl, .inl (.inl hq), by rw [← ht.length, asgs_len e1], gsOf_ok ok.kk ht (hs.mono le) e1 fun σ' s' _ => h1 ρ1 H1 σ' Le.refl r1 s'⟩
      · exact h1.elim
    · rename_i n
      split at h1
      · rename_i ds el
        split at h1
        · rename_i sd1 e1
          obtain ⟨a, xs, rfl, e2, hH, ht⟩ := r1.list el rd
          exact .inr ⟨a, xs, rfl, .inl (.inl hH), by rw [← ht.length, asgs_len e1], gsOf_ok ok.kk ht (hs.mono le) e1 fun σ' s' _ => h1 ρ1 H1 σ' Le.refl r1 s'⟩
        · exact h1.elim
      · exact h1.elim
    · exact h1.elim⟩
/-! ### classmethods -/
structure CmC (G : Glo) (c : Nat) (m : Str) (g : Addr) : Prop where
  ex : ∃ C mc p, G.ca c = .ref C ∧ ClX.CRead G.K C mc ∧ ClX.CMet G.K C mc m p g
theorem run_cmK {pins : List (Addr × Obj)} {s : Shared} {σ : L2.St} {S : Sto} {W : WX} {q g C : Addr} {c k n : Nat} {ks : List Str} {fd : FuncData} {ps : List Str} {gd : List D → List D → List D} {m : MF} {xs zs : List V} {us ws : List Value} {ds es : List D} {Q : VK} (ok : XOk G X W) (hC : G.ca c = .ref C) (F : FnB G X.prog X.w X.mg X.base k g fd ps m) (B : BnD G fd ps n ks gd) (hr : Room k X.A) (hg : X.A.guards = some [])
    (I : Inv X ((q, PySem.W.methodObj (.ref g) (.ref C)) :: pins) σ H s) (r : Vals xs us) (rz : Vals zs ws) (rp : Rep G ρ S H) (rd : RelDs G ρ H ds xs) (re : RelDs G ρ H es zs) (qq : Aft G (RelD G) ρ H (mkK n ks.length gd m (.cls c :: ds) es S) Q (fun c a H' => W c a σ H')) :
    wpAny (model X.prog X.w) X.A (call (.ref q) us (ks.zip ws)) (EP X pins σ Q) X.xe s := by
  unfold mkK at qq
  split at qq
  · rename_i hl
    have rC : RelD G ρ H (.cls c) (.ref C) := by simp only [RelD, hC]; rfl
    have rd' : RelDs G ρ H (.cls c :: ds) (.ref C :: xs) := .cons rC rd
    obtain ⟨bs, ys, hb, ry, rel⟩ := B s (.ref C :: us) ws (.ref C :: xs) zs (by rw [ok.kk]; exact I.kIn) (by rw [← rd'.length]; exact hl.1) (by rw [← re.length]; exact hl.2) (.cons rfl r) rz
    have e0 : Env0 X.prog X.w G.K X.mg X.base X.A X.stack s H := by rw [ok.kk]; exact I.env0
    have z : wpAny (model X.prog X.w) X.A (call (.ref q) us (ks.zip ws)) (EP X ((q, PySem.W.methodObj (.ref g) (.ref C)) :: pins) σ Q) X.xe s := by
      refine wpAny_call (PySem.W.method_call (ClX.pin_at I) (codeAny_mono (F X.A X.stack s H ⟨.ref C :: us, ks.zip ws⟩ bs ys Q (fun c a H' => W c a σ H') hr hg e0 hb ry ⟨gd (.cls c :: ds) es, S, ρ, rel ρ H _ es rd' re, rp, qq⟩) fun r s' hq => ?_))
      cases r with
      | error e => exact ok.tk e s' (XE.of_call I (fun cls d H' h => h) hq)
      | ok fl =>
        cases fl with
        | ret u => exact I.after hq
        | next => exact False.elim hq
        | brk => exact False.elim hq
        | cont => exact False.elim hq
    exact thn z fun _ _ y => ClX.unpinE y
  · exact qq.elim
/-- C.m(..), C a class by its name -/
def mCmeth (c : Nat) (f : MK) (a : MA) : ME := fun sd S => (a sd S).bind fun ds S1 => f (.cls c :: ds) [] S1
theorem pm_cmeth {x m : Str} {g C : Addr} {c k n : Nat} {fd : FuncData} {ps : List Str} {gd : List D → List D → List D} {f : MF} {e : Expr} {es : List Expr} {ma : MA} {np apos pos : Pos} {pl : Sem Bool} (hC : G.ca c = .ref C) (hx : Gl X x) (hm : X.mg x = some (.ref C)) (cm : CmC G c m g) (F : FnB G X.prog X.w X.mg X.base k g fd ps f) (B : BnD G fd ps n [] gd) (hr : Room k X.A) (hg : X.A.guards = some []) (ha : PAm G X (e :: es) ma)
    (hdb : (x == ("__debug__" : Str)) = false := by decide) (hst : starEach (e :: es) X.env = (false, eval e X.env) :: starEach es X.env := by rfl) (hpl : (backTo pos (starEach es X.env)).any (·.1) = false := by rfl)
    (hv : eval (.Call (.Attribute (.Name x np) m apos) (e :: es) [] pos) X.env = (do
      let ov ← eval (.Name x np) X.env
      standAt apos.atName
      let (f, first) ← holding [ov] (getMethod ov m pl)
      callWith pos f first (backTo pos (starEach (e :: es) X.env)) (backToKw pos (keywordEach [] X.env))) := by rfl) :
    PEm G X (.Call (.Attribute (.Name x np) m apos) (e :: es) [] pos) (mCmeth c (mkK n 0 gd f) ma) := fun W ok => by
  refine ⟨fun pins s σ H Q I h => ?_⟩
  obtain ⟨sd, S, ρ, hs, hr', h⟩ := h
  obtain ⟨C', mc, p, hC', cr, ct⟩ := cm.ex
  rw [hC] at hC'
  cases hC'
  rw [ok.kk] at cr ct
  refine PySem.W.methodCall_KW (pl := pl) (thn ((pe_glob (v := .ref C) hx hm rfl hdb).run pins s σ H _ I (show tC (.ref C) σ H (fun v H1 => v = .ref C ∧ H1 = H) from ⟨rfl, rfl⟩)) fun u s1 ⟨v, H1, I1, rv, e1, e2⟩ => ?_) hv
  subst e1 e2
  cases rv
  refine ClX.getmethcm_ok I1 cr ct fun s2 I2 => ?_
  have t : ta G ma W σ H1 (fun xs H2 => ∃ ρ2 S2 ds, Rep G ρ2 S2 H2 ∧ RelDs G ρ2 H2 ds xs ∧ Aft G (RelD G) ρ2 H2 (mkK n 0 gd f (.cls c :: ds) [] S2) Q (fun c a H' => W c a σ H')) := ⟨sd, S, ρ, hs, hr', Aft.bind h fun ρ1 H1 x d S1 le1 r1 rd h1 => ⟨ρ1, S1, d, r1, rd, h1⟩⟩
  refine ClX.callwith_cm I2 (ClX.base_none I1 (Nat.le_refl _)) ct.fi (thn ((ha W ok).run pos _ s2 σ H1 _ I2 t) fun us s3 ⟨vs, H2, I3, rv, q2⟩ => ⟨⟨ClX.pin_at I3, I3.kIn⟩, ?_⟩) hst hpl
  obtain ⟨ρ2, S2, ds, rp2, rd2, q2⟩ := q2
  exact run_cmK (ws := []) (zs := []) ok hC F B hr hg I3 rv .nil rp2 rd2 .nil q2
theorem pm_cmeth0 {x m : Str} {g C : Addr} {c k n : Nat} {fd : FuncData} {ps : List Str} {gd : List D → List D → List D} {f : MF} {np apos pos : Pos} {pl : Sem Bool} (hC : G.ca c = .ref C) (hx : Gl X x) (hm : X.mg x = some (.ref C)) (cm : CmC G c m g) (F : FnB G X.prog X.w X.mg X.base k g fd ps f) (B : BnD G fd ps n [] gd) (hr : Room k X.A) (hg : X.A.guards = some [])
    (hdb : (x == ("__debug__" : Str)) = false := by decide)
    (hv : eval (.Call (.Attribute (.Name x np) m apos) [] [] pos) X.env = (do
      let ov ← eval (.Name x np) X.env
      standAt apos.atName
      let (f, first) ← holding [ov] (getMethod ov m pl)
      callWith pos f first (backTo pos (starEach [] X.env)) (backToKw pos (keywordEach [] X.env))) := by rfl) :
    PEm G X (.Call (.Attribute (.Name x np) m apos) [] [] pos) (mCmeth c (mkK n 0 gd f) mNil) := fun W ok => by
  refine ⟨fun pins s σ H Q I h => ?_⟩
  obtain ⟨sd, S, ρ, hs, hr', h⟩ := h
  obtain ⟨C', mc, p, hC', cr, ct⟩ := cm.ex
  rw [hC] at hC'
  cases hC'
  rw [ok.kk] at cr ct
  refine PySem.W.methodCall_KW (pl := pl) (thn ((pe_glob (v := .ref C) hx hm rfl hdb).run pins s σ H _ I (show tC (.ref C) σ H (fun v H1 => v = .ref C ∧ H1 = H) from ⟨rfl, rfl⟩)) fun u s1 ⟨v, H1, I1, rv, e1, e2⟩ => ?_) hv
  subst e1 e2
  cases rv
  refine ClX.getmethcm_ok I1 cr ct fun s2 I2 => ?_
  refine PySem.W.callWith_M0 (first := []) ⟨ClX.pin_at I2, I2.kIn⟩ ct.fi ?_
  exact run_cmK (xs := []) (us := []) (ws := []) (zs := []) ok hC F B hr hg I2 .nil .nil hr' .nil .nil h
/-! ### str(o) -/
def fStrO (tab : List (Nat × MF)) : MF
  | [d], S => (match clsD d S with
    | some c => (match tab.lookup c with
      | some f => (f [d] S).bind fun r S1 => match r with
        | .str x => .ok (.str x) S1
        | _ => .stuck
      | none => .stuck)
    | none => fmtV d S)
  | _, _ => .stuck
def SoOk (G : Glo) (X : Cx) (c : Nat) (f : MF) : Prop := ∃ C g k, G.ca c = .ref C ∧ PySem.W.findIn G.K (.ref C) "__str__" = some (some (.ref g)) ∧ PySem.W.isFn G.K (.ref g) = true ∧ FnG G X.prog X.w X.mg X.base k g f ∧ Room (k + 2) X.A ∧ X.A.guards = some []
inductive SoTab (G : Glo) (X : Cx) : List (Nat × MF) → Prop
  | nil : SoTab G X []
  | cons {c : Nat} {k : MF} {r : List (Nat × MF)} (h : SoOk G X c k) (t : SoTab G X r) : SoTab G X ((c, k) :: r)
theorem SoTab.get {tab : List (Nat × MF)} (t : SoTab G X tab) {c : Nat} {k : MF} (h : tab.lookup c = some k) : SoOk G X c k := by
  induction t with
  | nil => cases h
  | @cons c' k' r h1 t ih =>
    by_cases e : c = c'
    · subst e
      have e2 : k' = k := by simpa [List.lookup] using h
      subst e2
      exact h1
    · have e' : (c == c') = false := by simpa using e
      exact ih (by simpa [List.lookup, e'] using h)
theorem cm_strO {tab : List (Nat × MF)} (ht : SoTab G X tab) : CallM G X (.type "str") (fStrO tab) := fun W ok pins s σ H ρ S xs us ds Q I r rp rd q => by
  unfold fStrO at q
  split at q
  · rename_i d
    simp only [RelDs] at rd
    obtain ⟨v, _, rfl, rd, rfl⟩ := rd
    obtain ⟨u, rfl, ru⟩ := vals1 r
    split at q
    · rename_i c hc
      obtain ⟨n, a, C, dx, vs, l, rfl, el, rfl, en, hC, hsl, hrl⟩ := clsD_ok rp rd hc
      cases ru
      split at q
      · rename_i f hf
        obtain ⟨C', g, k, hC', fi, isf, F, hr, hg⟩ := ht.get hf
        rw [hC] at hC'
        cases hC'
        rw [ok.kk] at fi isf
        obtain ⟨sl, od, _, J, _⟩ := SlX.slt_inst I hsl
        have q2 : Aft G (RelD G) ρ H (f [.loc n] S) (fun z H' => ∃ x, z = .str x ∧ Q z H') (fun c a H' => W c a σ H') := Aft.bind q fun ρ1 H1 v r S1 le r1 rv h1 => by
          cases r with
          | str x => simp only [RelD] at rv; exact ⟨_, rv, by rw [rv]; exact h1.ok r1 rel_str⟩
          | _ => exact h1.elim
        have e0 := I.env0.in1.in1
        rw [← ok.kk] at e0
        have hr2 : Room k X.A.in1.in1 := (show Room (k + 1) X.A.in1 from Room.in1 hr).in1
        refine PySem.W.kso_call hr2.units0 I.kIn J fi isf (wpAny_call (codeAny_mono (F X.A.in1.in1 X.stack s H [.ref a] [.ref a] _ (fun c a H' => W c a σ H') hr2 hg e0 (.cons rfl .nil) ⟨_, S, ρ, .one rd, rp, q2⟩) fun r s' hq => ?_))
        cases r with
        | error e => exact ok.tk e s' (XE.of_call I (fun cls d H' h => h) hq)
        | ok fl =>
          cases fl with
          | ret u =>
            obtain ⟨z, H', I', rz, x, ez, qz⟩ := I.after hq
            subst ez
            obtain ⟨t, rfl⟩ := rz
            exact ⟨.str x, H', I', ⟨t, rfl⟩, qz⟩
          | next => exact False.elim hq
          | brk => exact False.elim hq
          | cont => exact False.elim hq
      · exact q.elim
    · unfold fmtV at q
      split at q
      · rename_i y
        simp only [RelD] at rd
        split at q
        · subst rd
          exact SkE.call_str_str pins s σ H _ _ Q I r ⟨_, rfl, q.ok rp rel_str⟩
        · exact q.elim
      · rename_i i _
        simp only [RelD] at rd
        split at q
        · rename_i hl
          subst rd
          refine call_str_int pins s σ H _ _ Q I r ⟨i, rfl, hl, ?_⟩
          have := q.ok rp (rel_str (x := digI i))
          unfold digI at this
          rw [str_eta] at this
          exact this
        · exact q.elim
      · exact q.elim
  · exact q.elim
end
end Y

/-! Za: what the written part says of classes with slots; bindings. -/
namespace L2
theorem Room.u65 {k : Nat} {A : PySem.Around} (r : Room k A) : A.units + 65 < PySem.cLine := by have := r.un; omega
theorem Room.u1 {k : Nat} {A : PySem.Around} (r : Room k A) : A.units + 1 < PySem.cLine := by have := r.un; omega
end L2
namespace Y
open PySem PySem.Spec PyProof.Rows L2
open PySem.W (Frag findIn subIn clsIn mroIn specialIn takesIn keepIn typeIn)
def scB (K : Frag) (C : Addr) : Bool := PySem.W.plainGet K C Str.empty && PySem.W.isClsIn K C && PySem.W.plainOver K C && findIn K (.ref C) "__setattr__" == some (some (.builtin "object.__setattr__")) &&
  findIn K (.ref C) "__class__" == some (some (.builtin "object.__class__")) && specialIn K (.builtin "object.__class__") "__get__" == some (some (.builtin "getset_descriptor.__get__")) && takesIn K (.builtin "object.__class__") == some true && mroIn K C (.type "object") == some true
theorem scB_ok {K : Frag} {C : Addr} (h : scB K C = true) : SlX.SCls K C ∧ SlX.SIsi K C := by
  unfold scB at h
  simp only [Bool.and_eq_true, beq_iff_eq] at h
  obtain ⟨⟨⟨⟨⟨⟨⟨h1, h2⟩, h3⟩, h4⟩, h5⟩, h6⟩, h7⟩, h8⟩ := h
  exact ⟨⟨h1, h2, h3, h4⟩, ⟨h5, h6, h7, h8⟩⟩
def s1B (K : Frag) (C p : Addr) (f : Str) (i : Nat) : Bool := findIn K (.ref C) f == some (some (.ref p)) && specialIn K (.ref p) "__get__" == some (some (.builtin "member_descriptor.__get__")) && takesIn K (.ref p) == some true && typeIn K (.ref p) == some (.type "member_descriptor") && PySem.W.slotIn K p C == some i && decide (i < 1000)
theorem s1B_ok {K : Frag} {C p : Addr} {f : Str} {i : Nat} (h : s1B K C p f i = true) : SlX.Slot1 K C f p i := by
  unfold s1B at h
  simp only [Bool.and_eq_true, beq_iff_eq, decide_eq_true_eq] at h
  obtain ⟨⟨⟨⟨⟨h1, h2⟩, h3⟩, h4⟩, h5⟩, h6⟩ := h
  exact ⟨h1, h2, h3, h4, h5, h6⟩
def meB (K : Frag) (C g : Addr) (m : Str) : Bool := findIn K (.ref C) m == some (some (.ref g)) && PySem.W.isFn K (.ref g) && keepIn K (.ref g) && PySem.W.fnIn K g
theorem meB_ok {K : Frag} {C g : Addr} {m : Str} (h : meB K C g m = true) : Meth K C m g ∧ PySem.W.fnIn K g = true := by
  unfold meB at h
  simp only [Bool.and_eq_true, beq_iff_eq] at h
  exact ⟨⟨h.1.1.1, h.1.1.2, h.1.2⟩, h.2⟩
def prB (K : Frag) (C p g : Addr) (f : Str) : Bool := findIn K (.ref C) f == some (some (.ref p)) && specialIn K (.ref p) "__get__" == some (some (.builtin "property.__get__")) && takesIn K (.ref p) == some true && ((PySem.W.recIn K p "property").map List.head? == some (some (.ref g)))
theorem head_rest {l : Option (List Value)} {g : Value} (h : (l.map List.head? == some (some g)) = true) : ∃ rest, l = some (g :: rest) := by
  rw [beq_iff_eq] at h
  cases l with
  | none => cases h
  | some l =>
    cases l with
    | nil => cases h
    | cons a r => cases h; exact ⟨r, rfl⟩
theorem prB_ok {K : Frag} {C p g : Addr} {f : Str} (h : prB K C p g f = true) : PropC K C f p g := by
  unfold prB at h
  rw [Bool.and_eq_true, Bool.and_eq_true, Bool.and_eq_true, beq_iff_eq, beq_iff_eq, beq_iff_eq] at h
  exact ⟨h.1.1.1, h.1.1.2, h.1.2, head_rest h.2⟩
def cmB (K : Frag) (C p g : Addr) (m : Str) : Bool := PySem.W.readsIn K C (.type "type") && specialIn K (.ref C) "__getattribute__" == some (some (.builtin "type.__getattribute__")) && PySem.W.fnIn K g && ((PySem.W.recIn K p "classmethod").map List.head? == some (some (.ref g)))
theorem cmB_ok {G : Glo} {c : Nat} {C p g : Addr} {m : Str} (hC : G.ca c = .ref C) (h0 : PySem.W.findCls G.K (.ref C) (.type "type") m = some (.get (.builtin "classmethod.__get__") (.ref p) .none (.ref C))) (h : cmB G.K C p g m = true) : CmC G c m g := by
  unfold cmB at h
  rw [Bool.and_eq_true, Bool.and_eq_true, Bool.and_eq_true, beq_iff_eq] at h
  exact ⟨⟨C, .type "type", p, hC, ⟨h.1.1.1, h.1.1.2⟩, ⟨h0, head_rest h.2, h.1.2⟩⟩⟩
def mkB (K : Frag) (C g : Addr) : Bool := PySem.W.makesIn K C && findIn K (.ref C) "__init__" == some (some (.ref g)) && PySem.W.isFn K (.ref g) && keepIn K (.ref C)
theorem mkB_ok {K : Frag} {C g : Addr} (h : mkB K C g = true) : Mk K C g := by
  unfold mkB at h
  simp only [Bool.and_eq_true, beq_iff_eq] at h
  exact ⟨h.1.1.1, h.1.1.2, h.1.2, h.2⟩
/-- a class's def for a binary operator -/
structure BoF (K : Frag) (C g : Addr) (op : Operator) : Prop where
  sf : PySem.W.selfFirst K C = true
  at_ : findIn K (.ref C) (PySem.dunder op.info.2) = some (some (.ref g))
  fn : PySem.W.isFn K (.ref g) = true
  rv : findIn K (.ref C) (dunderR op.info.2) = some none
  it : ∃ fo ro, findIn K (.type "int") (PySem.dunder op.info.2) = some fo ∧ findIn K (.type "int") (dunderR op.info.2) = some ro
  sb : subIn K (.type "int") (.ref C) = some false
def boB (K : Frag) (C g : Addr) (op : Operator) : Bool := PySem.W.selfFirst K C && findIn K (.ref C) (PySem.dunder op.info.2) == some (some (.ref g)) && PySem.W.isFn K (.ref g) && findIn K (.ref C) (dunderR op.info.2) == some none &&
  (findIn K (.type "int") (PySem.dunder op.info.2)).isSome && (findIn K (.type "int") (dunderR op.info.2)).isSome && subIn K (.type "int") (.ref C) == some false
theorem boB_ok {K : Frag} {C g : Addr} {op : Operator} (h : boB K C g op = true) : BoF K C g op := by
  unfold boB at h
  simp only [Bool.and_eq_true, beq_iff_eq] at h
  obtain ⟨⟨⟨⟨⟨⟨h1, h2⟩, h3⟩, h4⟩, h5⟩, h6⟩, h7⟩ := h
  obtain ⟨fo, e1⟩ := Option.isSome_iff_exists.mp h5
  obtain ⟨ro, e2⟩ := Option.isSome_iff_exists.mp h6
  exact ⟨h1, h2, h3, h4, ⟨fo, ro, e1, e2⟩, h7⟩
structure EqF (K : Frag) (ca : Nat → Value) (C g : Addr) (ts : List Nat) : Prop where
  at_ : findIn K (.ref C) "__eq__" = some (some (.ref g))
  fn : PySem.W.isFn K (.ref g) = true
  ne : findIn K (.ref C) "__ne__" = some (some (.builtin "object.__ne__"))
  mr : mroIn K C (.type "object") = some true
  nf : ∀ t ∈ ts, PySem.W.notFirst K C (ca t) = true
def eqB (K : Frag) (ca : Nat → Value) (C g : Addr) (ts : List Nat) : Bool := findIn K (.ref C) "__eq__" == some (some (.ref g)) && PySem.W.isFn K (.ref g) && findIn K (.ref C) "__ne__" == some (some (.builtin "object.__ne__")) && mroIn K C (.type "object") == some true && ts.all fun t => PySem.W.notFirst K C (ca t)
theorem eqB_ok {K : Frag} {ca : Nat → Value} {C g : Addr} {ts : List Nat} (h : eqB K ca C g ts = true) : EqF K ca C g ts := by
  unfold eqB at h
  simp only [Bool.and_eq_true, beq_iff_eq, List.all_eq_true] at h
  exact ⟨h.1.1.1.1, h.1.1.1.2, h.1.1.2, h.1.2, h.2⟩
section
variable {G : Glo} {X : Cx}
theorem boOk {op : Operator} {c : Nat} {C g : Addr} {f : MF} (hC : G.ca c = .ref C) (b : BoF G.K C g op) (h : CallM G X (.ref g) f) : BoOk G X op c f := ⟨C, g, hC, b.sf, b.at_, b.fn, b.rv, b.it, b.sb, h⟩
theorem eqOk {c k : Nat} {C g : Addr} {f : MF} {ts : List Nat} (hC : G.ca c = .ref C) (b : EqF G.K G.ca C g ts) (F : FnG G X.prog X.w X.mg X.base k g f) (hr : Room (k + 1) X.A) (hg : X.A.guards = some []) : EqOk G X ts c f := ⟨C, g, k, hC, b.at_, b.fn, b.ne, b.mr, b.nf, F, hr, hg⟩
theorem ngOk {c : Nat} {C g : Addr} {f : MF} (hC : G.ca c = .ref C) (b : Meth G.K C "__neg__" g) (h : CallM G X (.ref g) f) : NgOk G X c f := ⟨C, g, hC, b.at_, b.fn, h⟩
theorem giOk {c k : Nat} {C g : Addr} {f : MF} (hC : G.ca c = .ref C) (b : Meth G.K C "__getitem__" g) (fi : PySem.W.fnIn G.K g = true) (F : FnG G X.prog X.w X.mg X.base k g f) (hr : Room (k + 1) X.A) (hg : X.A.guards = some []) : GiOk G X c f := ⟨C, g, k, hC, b.at_, b.fn, fi, F, hr, hg⟩
theorem soOk {c k : Nat} {C g : Addr} {f : MF} (hC : G.ca c = .ref C) (b : Meth G.K C "__str__" g) (F : FnG G X.prog X.w X.mg X.base k g f) (hr : Room (k + 2) X.A) (hg : X.A.guards = some []) : SoOk G X c f := ⟨C, g, k, hC, b.at_, b.fn, F, hr, hg⟩
theorem meOk {m : Str} {c : Nat} {C g : Addr} {f : MF} (hC : G.ca c = .ref C) (sc : SlX.SCls G.K C) (b : Meth G.K C m g) (h : CallM G X (.ref g) f) : MeOk G X m c f := ⟨C, g, hC, sc, b, h⟩
theorem atSl {f : Str} {c i : Nat} {C p : Addr} (hC : G.ca c = .ref C) (sc : SlX.SCls G.K C) (b : SlX.Slot1 G.K C f p i) : AtOk G X f c (.slot i) := ⟨C, p, hC, sc, b⟩
theorem atPr {f : Str} {c k : Nat} {C p g : Addr} {m : MF} (hC : G.ca c = .ref C) (sc : SlX.SCls G.K C) (b : PropC G.K C f p g) (F : FnG G X.prog X.w X.mg X.base k g m) (hr : Room (k + 1) X.A) (hg : X.A.guards = some []) : AtOk G X f c (.prop m) := ⟨C, p, g, k, hC, sc, b, F, hr, hg⟩
theorem stSl {f : Str} {c i : Nat} {C p : Addr} (hC : G.ca c = .ref C) (sc : SlX.SCls G.K C) (b : SlX.Slot1 G.K C f p i) : ∃ C p, G.ca c = .ref C ∧ SlX.SCls G.K C ∧ SlX.Slot1 G.K C f p i := ⟨C, p, hC, sc, b⟩
end
/-! ### bindings -/
theorem Fun_d {K : Frag} {x qual : Str} {st : Stmt} {f : Addr} {fd : FuncData} (F : Fun K x qual st f fd) : FunD K x qual (defArgs st) (defBody st) (defScope st) [] [] f fd := by
  obtain ⟨oc, od, kV, doc, pm, an, cdv, ct, osl, e, lk, hcd⟩ := F.ex
  exact ⟨⟨oc, od, .none, kV, doc, pm, an, cdv, ct, osl, e, lk, hcd, .inl ⟨rfl, rfl⟩, .inl rfl⟩, F.kp⟩
section
variable {G : Glo} {fd : FuncData} {ps : List Str}
theorem bnd_all (hb : Binds G.K fd ps []) : BnD G fd ps ps.length [] (fun ds _ => ds) := fun s us ws vs zs hK hn hz r rz => by
  have := hb s us hK (by rw [List.append_nil, ← r.length]; exact hn)
  rw [List.append_nil] at this
  cases rz with
  | nil => exact ⟨us, vs, this, r, fun _ _ _ _ h _ => h⟩
  | cons _ _ => cases hz
theorem RelDs.app {ρ : Rho} {H : Hp} {l m : List D} {xs ys : List V} (h : RelDs G ρ H l xs) (h2 : RelDs G ρ H m ys) : RelDs G ρ H (l ++ m) (xs ++ ys) := h.append h2
/-- the defaults stand behind -/
theorem bnd_dfl {n : Nat} {dvs : List V} (hx : ∃ ds, Vals dvs ds ∧ Binds G.K fd ps ds) (hn : n + dvs.length = ps.length) (cs : List D) (hc : ∀ ρ H, RelDs G ρ H cs dvs) : BnD G fd ps n [] (fun ds _ => ds ++ cs) := fun s us ws vs zs hK hl hz r rz => by
  obtain ⟨ds, rv, hb⟩ := hx
  have := hb s us hK (by rw [List.length_append, ← r.length, ← rv.length, hl]; exact hn)
  cases rz with
  | nil => exact ⟨us ++ ds, vs ++ dvs, this, r.append rv, fun ρ H _ _ h _ => h.append (hc ρ H)⟩
  | cons _ _ => cases hz
theorem bnd_kw {n : Nat} {ks : List Str} {g : List Value → List Value → List Value} {gV : List V → List V → List V} {gd : List D → List D → List D} (hb : KBn G.K fd ps n ks g gV) (hr : ∀ ρ H ds es vs zs, vs.length = n → zs.length = ks.length → RelDs G ρ H ds vs → RelDs G ρ H es zs → RelDs G ρ H (gd ds es) (gV vs zs)) : BnD G fd ps n ks gd := fun s us ws vs zs hK hl hz r rz =>
  ⟨g us ws, gV vs zs, hb.to s us ws hK (by rw [← r.length]; exact hl) (by rw [← rz.length]; exact hz), hb.rel r rz, fun ρ H ds es h h2 => hr ρ H ds es vs zs hl hz h h2⟩
end
theorem FnB.g' {G : Glo} {P : Program} {w : World} {mg : Str → Option Value} {base : Heap} {k n np : Nat} {f : Addr} {fd : FuncData} {ps : List Str} {b : MS} (F : FnB G P w mg base k f fd ps (mkF n np b)) (hb : Binds G.K fd ps []) (hp : ps.length = np) : FnG G P w mg base k f (mkF n np b) := F.g hb fun ds S h => by rw [mkF_len ds S h, hp]
/-- a module's text -/
theorem glob_str {K : Frag} {h : Heap} {mg : Str → Option Value} {G : Glo} {x : Str} {l : List Nat} {t : Tok} {y : Str} (X : K.In h) (Gn : h.Ns mainGlobals mg) (e : PySem.W.nsIn K mainGlobals x = some (some (.str y t))) (hy : y = ⟨l.toArray⟩) : ∃ u v, mg x = some u ∧ RelV v u ∧ ∀ ρ H, RelD G ρ H (.str l) v :=
  ⟨_, .str y, PySem.W.mg_of X Gn e, ⟨t, rfl⟩, fun _ _ => by simp only [RelD, hy]⟩
theorem loose_str {lv : List (Str × PySem.W.WData)} {mg : Str → Option Value} {h : Heap} {G : Glo} {x y : Str} {l : List Nat} (L : PySem.W.LooseAre lv mg h) (hm : (x, PySem.W.WData.str y) ∈ lv) (hy : y = ⟨l.toArray⟩) : ∃ u v, mg x = some u ∧ RelV v u ∧ ∀ ρ H, RelD G ρ H (.str l) v := by
  obtain ⟨v, a, b⟩ := L.val _ hm
  cases b
  exact ⟨_, .str y, a, ⟨_, rfl⟩, fun _ _ => by simp only [RelD, hy]⟩
/-- a def with keyword-only defaults -/
theorem funD_kw {K : Frag} {x qual : Str} {st : Stmt} {f : Addr} {kws : List (Str × V)} {oc kV doc pm cdv ct : Value} {od an : Option Addr} {osl : Array (Option Value)} (l : K.lookup f = some ⟨oc, od, .func (PySem.W.fnOf x qual (defArgs st) (defBody st) (defScope st) .none kV doc pm an cdv ct), osl⟩) (c : PySem.W.codeIn K cdv qual = true) (q : keepIn K (.ref f) = true) (hk : KwdV K kV kws) :
    FunD K x qual (defArgs st) (defBody st) (defScope st) [] kws f (PySem.W.fnOf x qual (defArgs st) (defBody st) (defScope st) .none kV doc pm an cdv ct) :=
  ⟨⟨oc, od, .none, kV, doc, pm, an, cdv, ct, osl, rfl, l, c, .inl ⟨rfl, rfl⟩, hk⟩, q⟩
theorem kwd_one {K : Frag} {D : Addr} {x : Str} {v : V} {u : Value} (h : PySem.W.nsIn K D x = some (some u)) (r : RelV v u) : KwdV K (.ref D) [(x, v)] := .inr ⟨D, rfl, fun q hq => by
  have e : q = (x, v) := by simpa using hq
  subst e
  exact ⟨u, h, r⟩⟩
end Y

/-! Zb: % and // by any divisor, a, b, c = x, y, z, list(d.values()), min/max with default=, classmethods with keywords, try. -/
namespace Y
open PySem PySem.Spec PyProof.Rows L2
def bModG : D → D → Sto → Res D
  | .int i, .int j, S => if j ≠ 0 then .ok (.int (i.fmod j)) S else .stuck
  | _, _, _ => .stuck
def bDivG : D → D → Sto → Res D
  | .int i, .int j, S => if j ≠ 0 ∧ j.natAbs.log2 < 9000 then .ok (.int (i.fdiv j)) S else .stuck
  | _, _, _ => .stuck
section
variable {G : Glo} {X : Cx} {ρ : Rho} {H : Hp}
theorem om_modG : OpM G X (binaryOp .Mod) bModG := .of op_modN fun kk ρ H S x y d e Q W rp rd re q => by
  unfold bModG at q
  split at q
  · rename_i i j
    simp only [RelD] at rd re
    split at q
    · rename_i h
      exact ⟨i, j, rd, re, h, q.ok rp rel_int⟩
    · exact q.elim
  · exact q.elim
theorem op_fdivWN : OpR X (binaryOp .FloorDiv) (rI (fun _ j => j ≠ 0 ∧ j.natAbs.log2 < 9000) fun i j => .int (i.fdiv j)) := opI fun i j _ _ _ _ _ hc q => floordiv_int hc.1 q (.inl (PyProof.noPylong_of_log2 hc.2))
theorem om_divG : OpM G X (binaryOp .FloorDiv) bDivG := .of op_fdivWN fun kk ρ H S x y d e Q W rp rd re q => by
  unfold bDivG at q
  split at q
  · rename_i i j
    simp only [RelD] at rd re
    split at q
    · rename_i h
      exact ⟨i, j, rd, re, h, q.ok rp rel_int⟩
    · exact q.elim
  · exact q.elim
def sPar3 (i j l : Nat) (m : MA) : MS := fun sd S => bindS (m sd S) sd fun ds S1 => match ds with
  | [d, e, f] => .nx (((sd.set i (some d)).set j (some e)).set l (some f)) S1
  | _ => .stuck
theorem ps_par3m {i j l : Nat} {tp t2 : Expr} {es : List Expr} {m : MA} {pos : Pos} (h : ∀ t : TA, PA X es t → PS X (.Assign [tp] t2 pos) (tPar3 i j l t)) (ha : PAm G X es m) : PSm G X (.Assign [tp] t2 pos) (sPar3 i j l m) := fun W ok => PS_imp (h _ (ha W ok)) fun E σ H ⟨sd, S, ρ, hs, hr, h⟩ =>
  ⟨sd, S, ρ, hs, hr, AftS.bind h hs fun ρ1 H1 v d S1 le r1 rd h1 => by
    match d, rd, h1 with
    | [], rd, h1 => exact h1.elim
    | [_], rd, h1 => exact h1.elim
    | [_, _], rd, h1 => exact h1.elim
    | [d, e, f], rd, h1 =>
      simp only [RelDs] at rd
      obtain ⟨v1, _, rfl, r2, v2, _, rfl, r3, v3, _, rfl, r4, rfl⟩ := rd
      exact ⟨v1, v2, v3, rfl, h1 ρ1 H1 _ Le.refl r1 ((((hs.mono le).set r2 i).set r3 j).set r4 l)⟩
    | _ :: _ :: _ :: _ :: _, rd, h1 => exact h1.elim⟩
/-! ### list(d.values()) -/
theorem pe_listValues {e : Expr} {te : TE} {p apos cpos pos : Pos} (hc : X.calm = true) (he : PE X e te) (hg : Gl X "list") (hm : X.mg "list" = none) (hv : bootBuiltins "list" = some (.type "list")) (hbase : attributeBase e "values" X.env (eval e X.env) = eval e X.env := by rfl) (hline : (apos.endLine == cpos.line) = true := by rfl)
    (hs : starEach [.Call (.Attribute e "values" apos) [] [] cpos] X.env = (false, eval (.Call (.Attribute e "values" apos) [] [] cpos) X.env) :: starEach [] X.env := by rfl) :
    PE X (.Call (.Name "list" p) [.Call (.Attribute e "values" apos) [] [] cpos] [] pos) (fun σ H Q => te σ H fun x H1 => ∃ (d : Addr) (kvs : List (Key × V)), x = .ref d ∧ H1 d = some (.dK kvs) ∧ ∀ q, H1 q = none → Q (.ref q) (L2.upd H1 q (.lst (kvs.map (·.2))))) := by
  refine ⟨fun pins s σ H Q I hq => ?_⟩
  refine wpAny_Call_Name_kw (ld_blt I hg hm hv ?_)
  refine PyProof.Rows.callWith_type1 ?_ hs rfl
  rw [hs]
  show wpAny _ _ (spliced ((false, eval (.Call (.Attribute e "values" apos) [] [] cpos) X.env) :: backTo pos (starEach [] X.env))) _ _ s
  refine Calls.spliced_cons ?_
  refine wpAny_Call_method (T := "dict") (id := "dict.values") hbase rfl hline PySem.F.plainAttrs_dict PySem.F.slot_dict_values PySem.F.type_dict_values (thn (he.run pins s σ H _ I hq) fun u s1 ⟨x, H1, I1, rx, d, kvs, ex, hd, q⟩ => ?_)
  subst ex
  obtain rfl : u = Value.ref d := rx
  obtain ⟨hz, hs0, vs, kv, hdo⟩ := I1.hok d _ hd
  obtain ⟨ep, hat⟩ := hdo.dictAt
  have lk : kvs.length = vs.length := Paired.length kv
  have I2 : Inv X pins σ H1 { s1 with heap := s1.heap.push { cls := .type "dict_values", data := .fields #[.ref d] } } := I1.kept (t' := s1.toks) fun b ob q => Heap.get?_push_of_some _ q
  refine ⟨hdo.typeIs, hdo.mapOf.noDict, ?_⟩
  show wpAny _ _ (callWith cpos (.builtin "dict.values") [.ref d] [] []) _ X.xe s1
  refine method_meetsIn PySem.F.slot_dict_values PySem.F.entry_dict_values rfl (PySem.evalArgs_none ⟨rfl, hdo.typeIs, PySem.F.args_dict_values_1 _, _, meets_dict_values (mixKind X.prog X.w) d hs0, ⟨vs, hdo⟩, ?_⟩)
  refine Calls.spliced_nil ?_
  refine PySem.W.kdl_call (PySem.W.kdl_values (knd := mixKind X.prog X.w) (d := d) (kvs := vs) (ep := ep)) (I1.ok.hd hc) ⟨⟨_, Heap.get?_push_size _ rfl, rfl, rfl⟩, hat.push _⟩ (by omega) fun h' tk acc' c' hkeep hS hacc => ?_
  refine ⟨.ref _, L2.upd H1 _ (.lst (kvs.map (·.2))), I2.laid hkeep (Nat.le_refl _) (show ObjOk X.prog X.w _ _ _ (.lst (kvs.map (·.2))) from ⟨?_, acc'.toList, c', ?_, ?_⟩), rfl, q _ (I2.hok.fresh (Nat.le_refl _))⟩
  · rw [List.length_map]; exact hz
  · have el : acc'.toList.length = acc'.size := by simp
    refine vals_of_at (by rw [List.length_map, el, hacc.1, lk]) fun j x w h1 h2 => ?_
    obtain ⟨k, hky⟩ := hacc.2 j w (by rw [← Array.getElem?_toList]; exact h2)
    rw [List.getElem?_map] at h1
    obtain ⟨q1, e1, e2⟩ := Option.map_eq_some_iff.mp h1
    obtain ⟨qv, g1, g2, g3⟩ := LiI.paired_get kv e1
    rw [hky] at g1
    cases g1
    rw [← e2]
    exact g3
  · rw [Array.toArray_toList]; exact hS
def fValues (d : D) (S : Sto) : Res D := match d with
  | .loc n => (match S.get n with
    | some (.dct 0 l) => if isK l then .ok (.loc S.n) (S.new (.lst (l.map (·.2)))) else .stuck
    | _ => .stuck)
  | _ => .stuck
theorem vals_relD : ∀ {l : List (D × D)} {kvs : List (Key × V)}, PairK keyD G ρ H l kvs → RelDs G ρ H (l.map (·.2)) (kvs.map (·.2))
  | [], kvs, h => by cases h; simp only [List.map_nil, RelDs]
  | p :: r, kvs, h => by
    obtain ⟨k, v, zs, rfl, h1, h2, h3⟩ := h
    exact .cons h2 (vals_relD h3)
theorem pm_listValues {e : Expr} {m : ME} {p pos apos cpos : Pos} (hc : X.calm = true) (he : PEm G X e m) (hg : Gl X "list") (hm : X.mg "list" = none) (hv : bootBuiltins "list" = some (.type "list") := by decide +kernel) (hbase : attributeBase e "values" X.env (eval e X.env) = eval e X.env := by rfl) (hline : (apos.endLine == cpos.line) = true := by rfl)
    (hs : starEach [.Call (.Attribute e "values" apos) [] [] cpos] X.env = (false, eval (.Call (.Attribute e "values" apos) [] [] cpos) X.env) :: starEach [] X.env := by rfl) :
    PEm G X (.Call (.Name "list" p) [.Call (.Attribute e "values" apos) [] [] cpos] [] pos) (mUn fValues m) := fun W ok => PE_imp (pe_listValues hc (he W ok) hg hm hv hbase hline hs) fun σ H Q ⟨sd, S, ρ, hs, hr, h⟩ =>
  ⟨sd, S, ρ, hs, hr, Aft.bind h fun ρ1 H1 x d S1 le1 r1 rd h1 => by
    unfold fValues at h1
    split at h1
    · rename_i n
      split at h1
      · rename_i l el
        split at h1
        · rename_i hk
          simp only [RelD] at rd
          obtain ⟨a, en, rfl⟩ := rd
          obtain ⟨kvs, hH, pk⟩ := dct0_at r1 el en hk
          refine ⟨a, kvs, rfl, hH, fun q hq => ?_⟩
          have le : Le G ρ1 H1 (ext ρ1 S1.n q) (L2.upd H1 q (.lst (kvs.map (·.2)))) := (Le.ext (r1.top _ (Nat.le_refl _))).trans (Le.same (same_new hq))
          exact h1 _ _ _ le (r1.new hq ⟨_, upd_same, vals_relD (pk.mono le)⟩) (RelD.loc' ext_same)
        · exact h1.elim
      · exact h1.elim
    · exact h1.elim⟩
/-! ### min(d, default=x), max(d, default=x) -/
theorem moved_one {s s' : Shared} {o : Obj} (m : Moved [s.heap.objs.size] (fun a b => b = a) { s with heap := s.heap.push o } s') : ∃ h' tk, s' = { s with heap := h', toks := tk } ∧ ∀ b u, s.heap.get? b = some u → h'.get? b = some u := by
  have k : ∀ b u, s.heap.get? b = some u → s'.heap.get? b = some u := fun b u e => m.heap b u (fun hb => by
    have e1 := List.mem_singleton.mp hb
    have e2 := Heap.lt_size e
    rw [e1] at e2
    exact Nat.lt_irrefl _ e2) (Heap.get?_push_of_some _ e)
  have h1 := m.gens
  have h2 := m.drawn
  have h3 := m.os
  cases s'
  cases h1
  cases h2
  cases h3
  exact ⟨_, _, rfl, k⟩
theorem call_minKD (hc : X.calm = true) : CallRK X (.builtin "min") [Str.ofString "default"] (fun vs zs H Q => ∃ (a : Addr) (kvs : List (Key × V)) (is : List Int) (z : V), vs = [V.ref a] ∧ zs = [z] ∧ H a = some (.dK kvs) ∧ kvs.map (·.1) = is.map Sum.inl ∧ (is = [] → Q z H) ∧ (is ≠ [] → ∀ m, m ∈ is → (∀ j ∈ is, m ≤ j) → Q (.int m) H)) := by
  intro pins s σ H vs zs us ws Q I r rz h
  obtain ⟨a, kvs, is, z, rfl, rfl, ha, hv, q0, q⟩ := h
  rw [Vals.ref1 r]
  obtain ⟨w1, rfl, rw1⟩ := vals1 rz
  obtain ⟨_, hsys, vs, rel, dof⟩ := dk_of I.hok ha
  obtain ⟨ep, dat⟩ := dof.dictAt
  obtain ⟨ob, es, ho, hex, hdat, hko, hpr, hnd⟩ := id dat
  have hlt : a < s.heap.objs.size := Heap.lt_size ho
  have hkeys : vs.map (·.1) = is.map Sum.inl := (KV.keys rel).symm.trans hv
  have hlv : vs.length = is.length := by simpa using congrArg List.length hkeys
  have hval : ∀ (i : Nat) (v : Value), (∃ k x, vs[i]? = some (k, x) ∧ (mixKind X.prog X.w).is k v = true) → ∃ t, v = Value.int (is.getD i 0) t := fun i v ⟨k, x, hk, hkey⟩ => by
    have e1 : (vs.map (·.1))[i]? = some k := by rw [List.getElem?_map, hk] <;> rfl
    rw [hkeys, List.getElem?_map] at e1
    obtain ⟨j, hj, e2⟩ := Option.map_eq_some_iff.mp e1
    subst e2
    obtain ⟨t, e3⟩ := Value.isInt_shape (k := j) (v := v) (show Value.isInt j v = true from hkey)
    exact ⟨t, by rw [e3, List.getD_eq_getElem?_getD, hj] <;> rfl⟩
  have none0 : ∀ (b : Addr) (o : Obj), (⟨#[], {}⟩ : Heap).get? b = some o → False := fun b o e => absurd (Heap.lt_size e) (Nat.not_lt_zero _)
  refine call_min_walkD (wpAny_pyIter_dict (knd := mixKind X.prog X.w) hsys dat ?_)
  refine ⟨_, _, _, _, _, _, _, ⟨#[], {}⟩, _, rfl, Walks.toS (Walks.dictKeys (knd := mixKind X.prog X.w) (A := X.A.in1) (I.ok.hd hc) s.heap.objs.size a (Nat.ne_of_lt hlt) vs ep),
    ⟨⟨_, Heap.get?_push_size _ rfl, rfl, rfl⟩, dat.keep fun b u e => Heap.get?_push_of_some _ e⟩, fun b hb => ?_, fun b o e => (none0 b o e).elim, fun b o e => (none0 b o e).elim, fun hz s' m => ?_, fun hp => ⟨fun i j vi vj s1 Q E _ h1 h2 h3 => CmpOf.ints_lt (fun i => is.getD i 0) hval i j vi vj s1 Q E h1 h2 h3, fun v s' hP m => ?_⟩⟩
  · show b < (s.heap.push _).objs.size
    rw [Heap.size_push]
    rcases List.mem_cons.mp hb with e | hb
    · rw [e]; exact Nat.lt_succ_self _
    · rw [List.mem_singleton.mp hb]; exact Nat.lt_succ_of_lt hlt
  · obtain ⟨h', tk, rfl, hk'⟩ := moved_one m
    exact ⟨z, H, I.kept (t' := tk) hk', rw1, q0 (List.eq_nil_of_length_eq_zero (by omega))⟩
  · obtain ⟨h', tk, rfl, hk'⟩ := moved_one m
    obtain ⟨t, rfl⟩ := hval _ v hP
    obtain ⟨b1, b2⟩ := argBest_lt (fun i => is.getD i 0) (vs.length - 1)
    have hne : is ≠ [] := fun z => by rw [z] at hlv; rw [hlv] at hp; exact absurd hp (Nat.lt_irrefl _)
    have hpos : 0 < is.length := List.length_pos_iff.mpr hne
    refine ⟨.int _, H, I.kept (t' := tk) hk', ⟨t, rfl⟩, q hne _ ?_ fun j hj => ?_⟩
    · have hb : argBest (fun i j => decide (is.getD i 0 < is.getD j 0)) (vs.length - 1) < is.length := by omega
      rw [List.getD_eq_getElem?_getD, List.getElem?_eq_getElem hb]
      exact List.getElem_mem hb
    · obtain ⟨i, hi, e⟩ := List.mem_iff_getElem.mp hj
      have e2 : is.getD i 0 = j := by rw [List.getD_eq_getElem?_getD, List.getElem?_eq_getElem hi, ← e] <;> rfl
      rw [← e2]
      exact b2 i (by omega)
theorem call_maxKD (hc : X.calm = true) : CallRK X (.builtin "max") [Str.ofString "default"] (fun vs zs H Q => ∃ (a : Addr) (kvs : List (Key × V)) (is : List Int) (z : V), vs = [V.ref a] ∧ zs = [z] ∧ H a = some (.dK kvs) ∧ kvs.map (·.1) = is.map Sum.inl ∧ (is = [] → Q z H) ∧ (is ≠ [] → ∀ m, m ∈ is → (∀ j ∈ is, j ≤ m) → Q (.int m) H)) := by
  intro pins s σ H vs zs us ws Q I r rz h
  obtain ⟨a, kvs, is, z, rfl, rfl, ha, hv, q0, q⟩ := h
  rw [Vals.ref1 r]
  obtain ⟨w1, rfl, rw1⟩ := vals1 rz
  obtain ⟨_, hsys, vs, rel, dof⟩ := dk_of I.hok ha
  obtain ⟨ep, dat⟩ := dof.dictAt
  obtain ⟨ob, es, ho, hex, hdat, hko, hpr, hnd⟩ := id dat
  have hlt : a < s.heap.objs.size := Heap.lt_size ho
  have hkeys : vs.map (·.1) = is.map Sum.inl := (KV.keys rel).symm.trans hv
  have hlv : vs.length = is.length := by simpa using congrArg List.length hkeys
  have hval : ∀ (i : Nat) (v : Value), (∃ k x, vs[i]? = some (k, x) ∧ (mixKind X.prog X.w).is k v = true) → ∃ t, v = Value.int (is.getD i 0) t := fun i v ⟨k, x, hk, hkey⟩ => by
    have e1 : (vs.map (·.1))[i]? = some k := by rw [List.getElem?_map, hk] <;> rfl
    rw [hkeys, List.getElem?_map] at e1
    obtain ⟨j, hj, e2⟩ := Option.map_eq_some_iff.mp e1
    subst e2
    obtain ⟨t, e3⟩ := Value.isInt_shape (k := j) (v := v) (show Value.isInt j v = true from hkey)
    exact ⟨t, by rw [e3, List.getD_eq_getElem?_getD, hj] <;> rfl⟩
  have none0 : ∀ (b : Addr) (o : Obj), (⟨#[], {}⟩ : Heap).get? b = some o → False := fun b o e => absurd (Heap.lt_size e) (Nat.not_lt_zero _)
  refine call_max_walkD (wpAny_pyIter_dict (knd := mixKind X.prog X.w) hsys dat ?_)
  refine ⟨_, _, _, _, _, _, _, ⟨#[], {}⟩, _, rfl, Walks.toS (Walks.dictKeys (knd := mixKind X.prog X.w) (A := X.A.in1) (I.ok.hd hc) s.heap.objs.size a (Nat.ne_of_lt hlt) vs ep),
    ⟨⟨_, Heap.get?_push_size _ rfl, rfl, rfl⟩, dat.keep fun b u e => Heap.get?_push_of_some _ e⟩, fun b hb => ?_, fun b o e => (none0 b o e).elim, fun b o e => (none0 b o e).elim, fun hz s' m => ?_, fun hp => ⟨fun i j vi vj s1 Q E _ h1 h2 h3 => CmpOf.ints_gt (fun i => is.getD i 0) hval i j vi vj s1 Q E h1 h2 h3, fun v s' hP m => ?_⟩⟩
  · show b < (s.heap.push _).objs.size
    rw [Heap.size_push]
    rcases List.mem_cons.mp hb with e | hb
    · rw [e]; exact Nat.lt_succ_self _
    · rw [List.mem_singleton.mp hb]; exact Nat.lt_succ_of_lt hlt
  · obtain ⟨h', tk, rfl, hk'⟩ := moved_one m
    exact ⟨z, H, I.kept (t' := tk) hk', rw1, q0 (List.eq_nil_of_length_eq_zero (by omega))⟩
  · obtain ⟨h', tk, rfl, hk'⟩ := moved_one m
    obtain ⟨t, rfl⟩ := hval _ v hP
    obtain ⟨b1, b2⟩ := argBest_gt (fun i => is.getD i 0) (vs.length - 1)
    have hne : is ≠ [] := fun z => by rw [z] at hlv; rw [hlv] at hp; exact absurd hp (Nat.lt_irrefl _)
    have hpos : 0 < is.length := List.length_pos_iff.mpr hne
    refine ⟨.int _, H, I.kept (t' := tk) hk', ⟨t, rfl⟩, q hne _ ?_ fun j hj => ?_⟩
    · have hb : argBest (fun i j => decide (is.getD i 0 > is.getD j 0)) (vs.length - 1) < is.length := by omega
      rw [List.getD_eq_getElem?_getD, List.getElem?_eq_getElem hb]
      exact List.getElem_mem hb
    · obtain ⟨i, hi, e⟩ := List.mem_iff_getElem.mp hj
      have e2 : is.getD i 0 = j := by rw [List.getD_eq_getElem?_getD, List.getElem?_eq_getElem hi, ← e] <;> rfl
      rw [← e2]
      exact b2 i (by omega)
def fMinD (ds es : List D) (S : Sto) : Res D := match ds, es with
  | [.loc n], [e] => (match S.get n with
    | some (.dct 0 l) => (match intKeys l with
      | some [] => .ok e S
      | some (x :: r) => .ok (.int (minI (x :: r))) S
      | none => .stuck)
    | _ => .stuck)
  | _, _ => .stuck
theorem pm_minD {e k : Expr} {m mk : ME} {kp : Pos} {p pos : Pos} (hc : X.calm = true) (he : PEm G X e m) (hk : PEm G X k mk) (hg : Gl X "min") (hm : X.mg "min" = none) (hv : bootBuiltins "min" = some (.builtin "min") := by decide +kernel)
    (h1 : starEach [e] X.env = (false, eval e X.env) :: starEach [] X.env := by rfl)
    (h2 : backTo pos (starEach [e] X.env) = (false, eval e X.env) :: backTo pos (starEach [] X.env) := by rfl) (hpl : (backTo pos (starEach [e] X.env)).any (·.1) = false := by rfl)
    (hall : (backToKw pos (keywordEach [⟨some "default", k, kp⟩] X.env)).all (·.1.isSome) = true := by rfl) (hnone : (backToKw pos (keywordEach [⟨some "default", k, kp⟩] X.env)).any (·.1.isNone) = false := by rfl) (hks : (backToKw pos (keywordEach [⟨some "default", k, kp⟩] X.env)).filterMap (·.1) = [Str.ofString "default"] := by rfl) :
    PEm G X (.Call (.Name "min" p) [e] [⟨some "default", k, kp⟩] pos) (mCallK fMinD (mCons m mNil) (mCons mk mNil)) := fun W ok => PE_imp (pe_callBK (call_minKD hc) hg hm hv (pa_consm he pa_nilm h1 W ok) (pk_consm hk pk_nilm W ok) (by decide) (by decide) h2 hpl hall hnone hks) fun σ H Q ⟨sd, S, ρ, hs, hr, h⟩ =>
  ⟨sd, S, ρ, hs, hr, Aft.bind h fun ρ1 H1 xs ds S1 le1 r1 rd h1 => ⟨sd, S1, ρ1, hs.mono le1, r1, Aft.bind h1 fun ρ2 H2 ys es S2 le2 r2 re h2 => by
    have rd := RelDs.mono le2 rd
    unfold fMinD at h2
    split at h2
    · rename_i n e
      simp only [RelDs] at rd re
      obtain ⟨v, _, rfl, rd, rfl⟩ := rd
      obtain ⟨z, _, rfl, re, rfl⟩ := re
      split at h2
      · rename_i l el
        simp only [RelD] at rd
        obtain ⟨a, en, rfl⟩ := rd
        split at h2
        · rename_i ek
          obtain ⟨kvs, hH, pk⟩ := dct0_at r2 el en (intKeys_isK ek)
          exact ⟨a, kvs, [], z, rfl, rfl, hH, intKeys_rel ek pk, fun _ => h2.ok r2 re, fun z => absurd rfl z⟩
        · rename_i x r' ek
          obtain ⟨kvs, hH, pk⟩ := dct0_at r2 el en (intKeys_isK ek)
          refine ⟨a, kvs, x :: r', z, rfl, rfl, hH, intKeys_rel ek pk, fun z => by simp at z, fun _ m h1 h3 => ?_⟩
          obtain ⟨k1, k2⟩ := minI_ok (l := x :: r') (by simp)
          have e2 : m = minI (x :: r') := by
            have a1 := h3 _ k1
            have a2 := k2 _ h1
            omega
          rw [e2]
          exact h2.ok r2 rel_int
        · exact h2.elim
      · exact h2.elim
    · exact h2.elim⟩⟩
def fMaxD (ds es : List D) (S : Sto) : Res D := match ds, es with
  | [.loc n], [e] => (match S.get n with
    | some (.dct 0 l) => (match intKeys l with
      | some [] => .ok e S
      | some (x :: r) => .ok (.int (maxI (x :: r))) S
      | none => .stuck)
    | _ => .stuck)
  | _, _ => .stuck
theorem pm_maxD {e k : Expr} {m mk : ME} {kp : Pos} {p pos : Pos} (hc : X.calm = true) (he : PEm G X e m) (hk : PEm G X k mk) (hg : Gl X "max") (hm : X.mg "max" = none) (hv : bootBuiltins "max" = some (.builtin "max") := by decide +kernel)
    (h1 : starEach [e] X.env = (false, eval e X.env) :: starEach [] X.env := by rfl)
    (h2 : backTo pos (starEach [e] X.env) = (false, eval e X.env) :: backTo pos (starEach [] X.env) := by rfl) (hpl : (backTo pos (starEach [e] X.env)).any (·.1) = false := by rfl)
    (hall : (backToKw pos (keywordEach [⟨some "default", k, kp⟩] X.env)).all (·.1.isSome) = true := by rfl) (hnone : (backToKw pos (keywordEach [⟨some "default", k, kp⟩] X.env)).any (·.1.isNone) = false := by rfl) (hks : (backToKw pos (keywordEach [⟨some "default", k, kp⟩] X.env)).filterMap (·.1) = [Str.ofString "default"] := by rfl) :
    PEm G X (.Call (.Name "max" p) [e] [⟨some "default", k, kp⟩] pos) (mCallK fMaxD (mCons m mNil) (mCons mk mNil)) := fun W ok => PE_imp (pe_callBK (call_maxKD hc) hg hm hv (pa_consm he pa_nilm h1 W ok) (pk_consm hk pk_nilm W ok) (by decide) (by decide) h2 hpl hall hnone hks) fun σ H Q ⟨sd, S, ρ, hs, hr, h⟩ =>
  ⟨sd, S, ρ, hs, hr, Aft.bind h fun ρ1 H1 xs ds S1 le1 r1 rd h1 => ⟨sd, S1, ρ1, hs.mono le1, r1, Aft.bind h1 fun ρ2 H2 ys es S2 le2 r2 re h2 => by
    have rd := RelDs.mono le2 rd
    unfold fMaxD at h2
    split at h2
    · rename_i n e
      simp only [RelDs] at rd re
      obtain ⟨v, _, rfl, rd, rfl⟩ := rd
      obtain ⟨z, _, rfl, re, rfl⟩ := re
      split at h2
      · rename_i l el
        simp only [RelD] at rd
        obtain ⟨a, en, rfl⟩ := rd
        split at h2
        · rename_i ek
          obtain ⟨kvs, hH, pk⟩ := dct0_at r2 el en (intKeys_isK ek)
          exact ⟨a, kvs, [], z, rfl, rfl, hH, intKeys_rel ek pk, fun _ => h2.ok r2 re, fun z => absurd rfl z⟩
        · rename_i x r' ek
          obtain ⟨kvs, hH, pk⟩ := dct0_at r2 el en (intKeys_isK ek)
          refine ⟨a, kvs, x :: r', z, rfl, rfl, hH, intKeys_rel ek pk, fun z => by simp at z, fun _ m h1 h3 => ?_⟩
          obtain ⟨k1, k2⟩ := maxI_ok (l := x :: r') (by simp)
          have e2 : m = maxI (x :: r') := by
            have a1 := h3 _ k1
            have a2 := k2 _ h1
            omega
          rw [e2]
          exact h2.ok r2 rel_int
        · exact h2.elim
      · exact h2.elim
    · exact h2.elim⟩⟩
end
end Y

/-! Zc: classmethods with keywords, try .. except C: .. -/
namespace Y
open PySem PySem.Spec PyProof.Rows L2
section
variable {G : Glo} {X : Cx} {ρ : Rho} {H : Hp}
def mCmethK (c : Nat) (f : MK) (a k : MA) : ME := fun sd S => (a sd S).bind fun ds S1 => (k sd S1).bind fun es S2 => f (.cls c :: ds) es S2
theorem pm_cmethK {x m : Str} {g C : Addr} {c k n : Nat} {fd : FuncData} {ps : List Str} {gd : List D → List D → List D} {f : MF} {e : Expr} {es : List Expr} {kws : List Keyword} {ks : List Str} {ma mk : MA} {np apos pos : Pos} {pl : Sem Bool} (hC : G.ca c = .ref C) (hx : Gl X x) (hm : X.mg x = some (.ref C)) (cm : CmC G c m g) (F : FnB G X.prog X.w X.mg X.base k g fd ps f) (B : BnD G fd ps n ks gd) (hr : Room k X.A) (hg : X.A.guards = some []) (ha : PAm G X (e :: es) ma) (hkw : PKm G X kws mk)
    (hdb : (x == ("__debug__" : Str)) = false := by decide) (hst : starEach (e :: es) X.env = (false, eval e X.env) :: starEach es X.env := by rfl)
    (hpl : ((backTo pos (starEach (e :: es) X.env)).any (·.1) || (backToKw pos (keywordEach kws X.env)).any (·.1.isNone)) = false := by rfl)
    (hall : (backToKw pos (keywordEach kws X.env)).all (·.1.isSome) = true := by rfl) (hks : (backToKw pos (keywordEach kws X.env)).filterMap (·.1) = ks := by rfl)
    (hv : eval (.Call (.Attribute (.Name x np) m apos) (e :: es) kws pos) X.env = (do
      let ov ← eval (.Name x np) X.env
      standAt apos.atName
      let (f, first) ← holding [ov] (getMethod ov m pl)
      callWith pos f first (backTo pos (starEach (e :: es) X.env)) (backToKw pos (keywordEach kws X.env))) := by rfl) :
    PEm G X (.Call (.Attribute (.Name x np) m apos) (e :: es) kws pos) (mCmethK c (mkK n ks.length gd f) ma mk) := fun W ok => by
  refine ⟨fun pins s σ H Q I h => ?_⟩
  obtain ⟨sd, S, ρ, hs, hr', h⟩ := h
  obtain ⟨C', mc, p, hC', cr, ct⟩ := cm.ex
  rw [hC] at hC'
  cases hC'
  rw [ok.kk] at cr ct
  refine PySem.W.methodCall_KW (pl := pl) (thn ((pe_glob (v := .ref C) hx hm rfl hdb).run pins s σ H _ I (show tC (.ref C) σ H (fun v H1 => v = .ref C ∧ H1 = H) from ⟨rfl, rfl⟩)) fun u s1 ⟨v, H1, I1, rv, e1, e2⟩ => ?_) hv
  subst e1 e2
  cases rv
  refine ClX.getmethcm_ok I1 cr ct fun s2 I2 => ?_
  have t : ta G ma W σ H1 (fun xs H2 => ∃ ρ2 S2 ds, RelSt G ρ2 H2 sd σ ∧ Rep G ρ2 S2 H2 ∧ RelDs G ρ2 H2 ds xs ∧ Aft G (RelD G) ρ2 H2 ((mk sd S2).bind fun es S3 => mkK n ks.length gd f (.cls c :: ds) es S3) Q (fun c a H' => W c a σ H')) := ⟨sd, S, ρ, hs, hr', Aft.bind h fun ρ1 H1 x d S1 le1 r1 rd h1 => ⟨ρ1, S1, d, hs.mono le1, r1, rd, h1⟩⟩
  refine PySem.W.callWith_of (P := PySem.W.MethP X.K s1.heap.objs.size g (.ref C)) hpl (PySem.W.keeps_M ct.fi) (PyProof.Rows.evalArgs_kw2 hall (thn ((ha W ok).run pos _ s2 σ H1 _ I2 t) fun us s3 ⟨vs, H2, I3, rv, q2⟩ => ?_) hst)
  obtain ⟨ρ2, S2, ds, hs2, rp2, rd2, q2⟩ := q2
  have t2 : ta G mk W σ H2 (fun zs H3 => ∃ ρ3 S3 es, Rep G ρ3 S3 H3 ∧ RelDs G ρ3 H3 ds vs ∧ RelDs G ρ3 H3 es zs ∧ Aft G (RelD G) ρ3 H3 (mkK n ks.length gd f (.cls c :: ds) es S3) Q (fun c a H' => W c a σ H')) := ⟨sd, S2, ρ2, hs2, rp2, Aft.bind q2 fun ρ3 H3 x d S3 le3 r3 rd3 h3 => ⟨ρ3, S3, d, r3, rd2.mono le3, rd3, h3⟩⟩
  refine thn ((hkw W ok).run pos _ s3 σ H2 _ I3 t2) fun ws s4 ⟨zs, H3, I4, rz, q3⟩ => ⟨⟨ClX.pin_at I4, I4.kIn⟩, ?_⟩
  obtain ⟨ρ3, S3, es', rp3, rd3, re3, q3⟩ := q3
  rw [hks]
  exact run_cmK ok hC F B hr hg I4 rv rz rp3 rd3 re3 q3
/-! ### try -/
/-- which exceptions a class takes: by a table -/
structure ExOk (G : Glo) (kx : Nat → Nat → Option Bool) : Prop where
  ans : ∀ t c b, kx t c = some b → PySem.W.exmOne G.K (G.ca t) (G.ca c) = some b
def exB (K : PySem.W.Frag) (ca : Nat → Value) (ts cs : List Nat) (f : Nat → Nat → Bool) : Bool := ts.all fun t => cs.all fun c => PySem.W.exmOne K (ca t) (ca c) == some (f t c)
theorem exOk_of {ts cs : List Nat} {f : Nat → Nat → Bool} (h : exB G.K G.ca ts cs f = true) : ExOk G (kitOf ts cs f) := ⟨fun t c b e => by
  obtain ⟨h1, h2, h3⟩ := kit_has e
  have := List.all_eq_true.mp (List.all_eq_true.mp h t h1) c h2
  rw [beq_iff_eq] at this
  rw [this, h3]⟩
def noEx : SRes → SRes
  | .ex _ _ _ => .stuck
  | .pick t f => .pick t fun r => noEx (f r)
  | .nx sd S => .nx sd S
  | .rt d S => .rt d S
  | .bk sd S => .bk sd S
  | .ct sd S => .ct sd S
  | .stuck => .stuck
def catch1 (kx : Nat → Nat → Option Bool) (c : Nat) (h : MS) : SRes → SRes
  | .ex x sd S => (match kx x.cls c with
    | some true => noEx (h sd S)
    | some false => .ex x sd S
    | none => .stuck)
  | .pick t f => .pick t fun r => catch1 kx c h (f r)
  | .nx sd S => .nx sd S
  | .rt d S => .rt d S
  | .bk sd S => .bk sd S
  | .ct sd S => .ct sd S
  | .stuck => .stuck
def sTry1 (kx : Nat → Nat → Option Bool) (c : Nat) (m h : MS) : MS := fun sd S => catch1 kx c h (m sd S)
theorem AftS.noex {r : SRes} {E : Ends} {W : WX} (h : AftS G ρ H (noEx r) E W) : AftS G ρ H r E Wno := by
  induction r with
  | nx sd S => exact h
  | rt d S => exact h
  | bk sd S => exact h
  | ct sd S => exact h
  | ex x sd S => exact h.elim
  | stuck => exact h
  | pick t f ih => exact fun r hr => ih r (h r hr)
theorem AftS.catch1 {kx : Nat → Nat → Option Bool} {c : Nat} {h : MS} {r : SRes} {D : Ends} {W : WX} (kk : ExOk G kx) (a : AftS G ρ H (catch1 kx c h r) D W) : AftS G ρ H r D (wOnly G.K (G.ca c) (fun _ _ _ => ts G h Wno) W D) := by
  induction r with
  | nx sd S => exact a
  | rt d S => exact a
  | bk sd S => exact a
  | ct sd S => exact a
  | stuck => exact a
  | pick t f ih => exact fun r hr => ih r (a r hr)
  | ex x sd S =>
    intro ρ' H' σ' cls dd le rp rs rx
    have a' : AftS G ρ H (match kx x.cls c with
      | some true => noEx (h sd S)
      | some false => .ex x sd S
      | none => .stuck) D W := a
    cases e : kx x.cls c with
    | none => rw [e] at a'; exact a'.elim
    | some b =>
      rw [e] at a'
      refine ⟨b, by rw [rx.1]; exact kk.ans _ _ _ e, fun hb _ _ => ?_, fun hb => ?_⟩
      · subst hb
        exact ⟨sd, S, ρ', rs, rp, (a'.le le).noex⟩
      · subst hb
        exact a' ρ' H' σ' cls dd le rp rs rx
theorem ps_try1 {x : Str} {c : Nat} {kx : Nat → Nat → Option Bool} {body suite : List Stmt} {b₀ : Stmt} {m h : MS} {np pos pos' : Pos} (kk : ExOk G kx) (hs : X.stack = X.env :: X.outer) (hf : X.env.frame = some X.env.locals) (hc : Names X x (G.ca c))
    (hb : ∀ pn xe, PSsm G (X.tr pn xe) body m) (hsu : ∀ a pn, PSsm G (X.suite a pn) (b₀ :: suite) h) : PSm G X (.Try body [.ExceptHandler (some (.Name x np)) none (b₀ :: suite) pos'] [] [] pos) (sTry1 kx c m h) := fun W ok =>
  PS_imp (ps_try_only (tb := fun W => ts G m W) (ts := fun _ _ _ => ts G h Wno) hs hf hc ok.tk (fun W pn xe tk own => hb pn xe W ⟨tk, own, ok.kk⟩) (fun a oe cls d pn _ _ => hsu a _ Wno ⟨fun u s' ⟨_, _, _, _, _, _, _, _, _, _, _, _, _, _, _, _, w⟩ => w, PassesOwn.never, ok.kk⟩))
    fun E σ H ⟨sd, S, ρ, rs, rp, a⟩ => ⟨sd, S, ρ, rs, rp, by rw [← ok.kk]; exact a.catch1 kk⟩
end
end Y

/-! Zd: try with several clauses, some with a name. -/
namespace Y
open PySem PySem.Spec PyProof.Rows L2
/-- a clause: its class, the slot of its name, what its suite asks -/
structure Cls where
  c : Value
  i : Option Nat
  ts : Addr → Value → Option Addr → TS
/-- the ends of a suite whose name goes -/
def endsX (D : Ends) : Option Nat → Ends
  | none => D
  | some i => ⟨fun σ H => D.nx (σ.set i none) H, D.rt, fun σ H => D.bk (σ.set i none) H, fun σ H => D.ct (σ.set i none) H⟩
def stX (σ : L2.St) (a : Addr) : Option Nat → L2.St
  | none => σ
  | some i => σ.set i (some (.ref a))
def wClauses (K : PySem.W.Frag) (Wout : WX) (D : Ends) : List Cls → WX
  | [] => Wout
  | k :: r => fun cls d σ H => ∃ b, PySem.W.exmOne K cls k.c = some b ∧ (b = true → ∀ a, H a = none → k.ts a cls d (endsX D k.i) (stX σ a k.i) H) ∧ (b = false → wClauses K Wout D r cls d σ H)
inductive ClausesOk (X : Cx) : List ExceptHandler → List Cls → Prop
  | nil : ClausesOk X [] []
  | plain {x : Str} {c : Value} {ts : Addr → Value → Option Addr → TS} {b0 : Stmt} {su : List Stmt} {p1 p2 : Pos} {hs : List ExceptHandler} {l : List Cls} (hc : Names X x c)
      (hsu : ∀ (a : Addr) (oe : Obj) (cls : Value) (d : Option Addr) (pn : List (Addr × Obj)), Zc cls d oe → (∃ vs, oe.data = .fields vs) → PSs (X.suite a ((a, oe) :: pn)) (b0 :: su) (ts a cls d)) (r : ClausesOk X hs l) :
      ClausesOk X (.ExceptHandler (some (.Name x p1)) none (b0 :: su) p2 :: hs) (⟨c, none, ts⟩ :: l)
  | named {x n : Str} {c : Value} {i : Nat} {ts : Addr → Value → Option Addr → TS} {b0 : Stmt} {su : List Stmt} {p1 p2 : Pos} {hs : List ExceptHandler} {l : List Cls} (hc : Names X x c) (hi : X.N[i]? = some n) (hl : X.env.kindOf n = some .local)
      (hsu : ∀ (a : Addr) (oe : Obj) (cls : Value) (d : Option Addr) (pn : List (Addr × Obj)), Zc cls d oe → (∃ vs, oe.data = .fields vs) → PSs (X.suite a ((a, oe) :: pn)) (b0 :: su) (ts a cls d)) (r : ClausesOk X hs l) :
      ClausesOk X (.ExceptHandler (some (.Name x p1)) (some n) (b0 :: su) p2 :: hs) (⟨c, some i, ts⟩ :: l)
section
variable {X : Cx} {body : List Stmt} {h0 : ExceptHandler} {hs : List ExceptHandler} {l : List Cls} {pos : Pos} {tb : WX → TS} {Wout : WX}
theorem ps_try_clauses (hst : X.stack = X.env :: X.outer) (hf : X.env.frame = some X.env.locals) (hN : X.N.Nodup) (tk : Takes X Wout)
    (hb : ∀ (W : WX) (pn : List (Addr × Obj)) (xe : Value → Shared → Prop), Takes (X.tr pn xe) W → PassesOwn (model X.prog X.w) X.A X.env xe → PSs (X.tr pn xe) body (tb W))
    (hh : ClausesOk X (h0 :: hs) l) : PS X (.Try body (h0 :: hs) [] [] pos) (fun D σ H => tb (wClauses X.K Wout D l) D σ H) := by
  refine ⟨fun pins s σ H D I h => ?_⟩
  have ok := I.ok
  have fr0 : X.A.frames = some (X.env :: X.outer) := ok.frames.trans (by rw [hst])
  refine wpAny_Try_except (wpAny_mono ((hb (wClauses X.K Wout D l) (X.pn ++ pins) (fun e s1 => wpAny (model X.prog X.w) X.A (noteFrame e X.env) (fun _ s2 => wpAny (model X.prog X.w) X.A (setFlight e none) (fun _ s3 => wpAny (model X.prog X.w) X.A (handleBy e X.env (h0 :: hs)) (SP X pins D) X.xe s3) X.xe s2) X.xe s1) (fun u s' xx => ?_) PassesOwn.looking).run [] s σ H D (I.toTry _) h) (fun f s1 hsp => ?_) (fun e s1 he => he))
  · obtain ⟨a, B, sI, pi2, σ2, H2, cls, d, rfl, JT, nb, up, sk, na, os, ag, w⟩ := xx
    have J : Inv X pins σ2 H2 sI := JT.ofTry ok
    show wpAny (model X.prog X.w) X.A (noteFrame (.ref a) X.env) _ _ _
    refine Sky.land Zc.steady fr0 hf (by rw [← hst]; exact sk) fun h3 fl up3 => ?_
    have J3 : Inv X pins σ2 H2 { s' with heap := h3 } := J.landed nb fl.1 (up.trans up3) os ag
    obtain ⟨o3, v3, g3, z3, d3⟩ := fl.there
    have notIn : a ∉ frs (X.env :: X.outer) := fun hm => by
      obtain ⟨_, o', e', hnf⟩ := fl.2.2.1.mem hm
      rw [g3] at e'
      cases e'
      exact hnf _ d3
    have nL : a ≠ X.env.locals := fun z => notIn (List.mem_filterMap.mpr ⟨X.env, List.mem_cons_self, hf.trans (by rw [z])⟩)
    have nF : a ∉ X.fs := fun hm => by
      obtain ⟨e, he, q⟩ := List.mem_filterMap.mp hm
      exact notIn (List.mem_filterMap.mpr ⟨e, List.mem_cons_of_mem _ he, q⟩)
    have S3 := J3.suite g3 d3 na nL nF
    /- the class's name is looked up, the exception's class is compared -/
    have look : ∀ {x : Str} {c : Value} {np : Pos} {Q : Value → Shared → Prop} {E : Value → Shared → Prop}, Names X x c → Q c { s' with heap := h3 } → wpAny (model X.prog X.w) (X.A.mark (some (.ref a))) (eval (.Name x np) X.env) Q E { s' with heap := h3 } := fun {x c np Q E} hc q => by
      obtain ⟨g1, g2, g4 | ⟨g4, g5, g6⟩⟩ := hc
      · exact ld_glob (X := X.suite a ((a, o3) :: (X.pn ++ pins))) S3 g1 g4 q g2
      · exact ld_blt (X := X.suite a ((a, o3) :: (X.pn ++ pins))) S3 g1 g4 g5 q g6 g2
    have isOf : ∀ {c : Value} {b : Bool}, PySem.W.exmOne X.K cls c = some b → _ := fun {c b} hb1 => PySem.W.exm_one (M := model X.prog X.w) (J3.kIn) (fun A Q E s k q => wpAny_typeOf_ref (k _ _ g3) (by rw [z3.1]; exact q)) hb1
    have go : ∀ {hs' : List ExceptHandler} {l' : List Cls}, ClausesOk X hs' l' → wClauses X.K Wout D l' cls d σ2 H2 → wpAny (model X.prog X.w) X.A (handleBy (.ref a) X.env hs') (SP X pins D) X.xe { s' with heap := h3 } := by
      intro hs' l' hk
      induction hk with
      | nil =>
        intro w
        refine wpAny_handleBy_nil ?_
        obtain ⟨k1, k2, k3, oe, vs, T, oT, tss, he, hz, hd, h1, hr⟩ := id fl
        unfold PySem.passOn
        refine wpAny_bind (wpAny_field he hd h1 ?_)
        rw [if_neg (show ¬ ((Value.ref T == Value.none) = true) from by simp)]
        have on : wpAny (model X.prog X.w) X.A (setFlight (.ref a) X.env.frame) (fun _ s4 => wpAny (model X.prog X.w) X.A (throw (.ref a) : Sem Flow) (SP X pins D) X.xe s4) X.xe { s' with heap := h3 } := by
          rw [hf]
          refine HandSPX.setFlight_upZ fl fun h4 hh4 up4 => wpAny_throw (tk _ _ ⟨a, B, sI, pins, σ2, H2, cls, d, rfl, J, nb, (up.trans up3).trans up4, .inr (.inr ?_), na, os, ag, w⟩)
          rw [hst]
          exact hh4
        first | exact wpAny_bind (wpAny_pure (wpAny_bind on)) | exact wpAny_bind on
      | @plain x c ts b0 su p1 p2 hs2 l2 hc hsu r ih =>
        rintro ⟨b, hb1, yes, no⟩
        refine wpAny_handleBy_cons (codeAny_handlers_test (look hc ((isOf hb1).here ?_))) (by intro q; cases q)
        cases b with
        | false =>
          show wpAny _ X.A (handleBy (.ref a) X.env hs2) _ _ _
          exact ih (no rfl)
        | true =>
          refine codeAny_handlers_suite (HandSPX.lands_againZ fl fun h4 fl4 up4 => ?_)
          have J4 : Inv X pins σ2 H2 { s' with heap := h4 } := J.landed nb fl4.1 ((up.trans up3).trans up4) os ag
          obtain ⟨o4, v4, g4, z4, d4⟩ := fl4.there
          refine wpAny_mono ((hsu a o4 cls d (X.pn ++ pins) z4 ⟨_, d4⟩).run [] _ _ H2 _ (J4.suite g4 d4 na nL nF) (yes rfl a na)) (fun f s6 hsp => ?_) (fun _ _ z => False.elim z)
          cases f with
          | ret u => exact let ⟨_, _, _, S6, r6, q6⟩ := hsp; ⟨_, _, _, S6.unsuite ok, r6, q6⟩
          | next => exact let ⟨_, _, S6, q6⟩ := hsp; ⟨_, _, S6.unsuite ok, q6⟩
          | brk => exact let ⟨_, _, S6, q6⟩ := hsp; ⟨_, _, S6.unsuite ok, q6⟩
          | cont => exact let ⟨_, _, S6, q6⟩ := hsp; ⟨_, _, S6.unsuite ok, q6⟩
      | @named x n c i ts b0 su p1 p2 hs2 l2 hc hi hln hsu r ih =>
        rintro ⟨b, hb1, yes, no⟩
        refine wpAny_handleBy_cons (codeAny_handlers_test (look hc ((isOf hb1).here ?_))) (by intro q; cases q)
        cases b with
        | false =>
          show wpAny _ X.A (handleBy (.ref a) X.env hs2) _ _ _
          exact ih (no rfl)
        | true =>
          refine codeAny_handlers_suite_as (HandSPX.lands_againZ fl fun h4 fl4 up4 => ?_)
          have J4 : Inv X pins σ2 H2 { s' with heap := h4 } := J.landed nb fl4.1 ((up.trans up3).trans up4) os ag
          obtain ⟨o4, v4, g4, z4, d4⟩ := fl4.there
          refine store_ok (X := X.suite a ((a, o4) :: (X.pn ++ pins))) (v := .ref a) (J4.suite g4 d4 na nL nF) hN hi (.inl hln) rfl (fun s5 S5 => ?_) (.inr hln)
          refine wpAny_mono ((hsu a o4 cls d (X.pn ++ pins) z4 ⟨_, d4⟩).run [] s5 _ H2 _ S5 (yes rfl a na)) (fun f s6 hsp => ?_) (fun _ _ z => False.elim z)
          have off : ∀ {σ6 : L2.St} {H6 : Hp} {Q : Shared → Prop}, Inv (X.suite a ((a, o4) :: (X.pn ++ pins))) [] σ6 H6 s6 → (∀ s7, Inv X pins (σ6.set i none) H6 s7 → Q s7) → wpAny (model X.prog X.w) X.A (do bindName X.env n .none; unbindBehindTheSuite X.env n p2) (fun _ s7 => Q s7) X.xe s6 := fun {σ6 H6 Q} S6 hq => gone_ok (S6.unsuite ok) hN hi hln hq
          cases f with
          | ret u => exact let ⟨_, _, _, S6, r6, q6⟩ := hsp; off S6 fun s7 J7 => ⟨_, _, _, J7, r6, q6⟩
          | next => exact let ⟨_, _, S6, q6⟩ := hsp; off S6 fun s7 J7 => ⟨_, _, J7, q6⟩
          | brk => exact let ⟨_, _, S6, q6⟩ := hsp; off S6 fun s7 J7 => ⟨_, _, J7, q6⟩
          | cont => exact let ⟨_, _, S6, q6⟩ := hsp; off S6 fun s7 J7 => ⟨_, _, J7, q6⟩
    exact go hh w
  · cases f with
    | ret u => exact let ⟨v, σ', H', J', r, q⟩ := hsp; ⟨v, σ', H', J'.ofTry ok, r, q⟩
    | next => exact let ⟨σ', H', J', q⟩ := hsp; wpAny_execs_nil ⟨σ', H', J'.ofTry ok, q⟩
    | brk => exact let ⟨σ', H', J', q⟩ := hsp; ⟨σ', H', J'.ofTry ok, q⟩
    | cont => exact let ⟨σ', H', J', q⟩ := hsp; ⟨σ', H', J'.ofTry ok, q⟩
end
end Y

/-! Ze: word(lambda: e), where word calls what it gets and tells its error. -/
namespace Y
open PySem PySem.Spec PyProof.Rows L2 LamX
section
variable {G : Glo} {X : Cx} {ρ : Rho} {H : Hp} {S : Sto} {pins : List (Addr × Obj)} {σ : L2.St} {s : Shared}
/-- the code object of a lambda is put into its maker's table -/
theorem rep_code {P c : Addr} {q : Str} {ps : Array Value} {pos : Pos} (rp : Rep G ρ S H) (hm : (P, q) ∈ G.tb) (hu : ∀ p ∈ G.tb, p.1 = P → p.2 = q) (hP : H P = some (.tbl ps)) (ht : TriplesOk ps.toList) (hc : H c = none) :
    Le G ρ H ρ (upd (upd H P (.tbl (ps ++ #[rawInt pos.line, rawInt pos.col, .ref c]))) c (CodeO c q)) ∧ Rep G ρ S (upd (upd H P (.tbl (ps ++ #[rawInt pos.line, rawInt pos.col, .ref c]))) c (CodeO c q)) ∧ ∀ i, ρ i ≠ some c := by
  have nPc : P ≠ c := fun z => by rw [z, hc] at hP; cases hP
  have nc : ∀ i, ρ i ≠ some c := fun i e => by
    obtain ⟨o, z⟩ := rp.dom i c e
    rw [hc] at z
    cases z
  have other : ∀ b o, H b = some o → b ≠ P → upd (upd H P (.tbl (ps ++ #[rawInt pos.line, rawInt pos.col, .ref c]))) c (CodeO c q) b = some o := fun b o e n => by
    rw [upd_ne (fun z => by rw [z, hc] at e; cases e), upd_ne n]
    exact e
  have nP : ∀ b o, H b = some o → (∀ qs, o ≠ .tbl qs) → b ≠ P := fun b o e n z => by
    rw [z, hP] at e
    cases e
    exact n _ rfl
  have le : Le G ρ H ρ (upd (upd H P (.tbl (ps ++ #[rawInt pos.line, rawInt pos.col, .ref c]))) c (CodeO c q)) := ⟨fun _ _ h => h, fun b xs e => other b _ e (nP b _ e fun _ z => by cases z), fun b o u e => other b _ e (nP b _ e fun _ z => by cases z)⟩
  have cellNe : ∀ i x a, S.get i = some x → ρ i = some a → CellOk G ρ H a x → a ≠ P := fun i x a e1 e2 q z => by
    rw [z] at q
    cases x with
    | lst l => obtain ⟨_, h, _⟩ := q; rw [hP] at h; cases h
    | dct lk l =>
      rcases q with ⟨_, h, _⟩ | ⟨_, _, h, _⟩
      · cases lk with
        | zero => rw [show H P = _ from h] at hP; cases hP
        | succ k => obtain ⟨_, h⟩ := h; rw [h] at hP; cases hP
      · cases lk with
        | zero => rw [show H P = _ from h] at hP; cases hP
        | succ k => obtain ⟨_, h⟩ := h; rw [h] at hP; cases hP
    | ins k l =>
      obtain ⟨_, _, _, _, h, _⟩ := q
      rcases h with ⟨h, _⟩ | ⟨h, _⟩
      · rw [h] at hP; cases hP
      · rw [h] at hP; unfold SlX.SlO at hP; cases hP
    | dice => obtain ⟨_, _, _, h⟩ := q; rw [hP] at h; cases h
    | exv k fs => obtain ⟨_, _, _, h, _⟩ := q; rw [h] at hP; unfold exo at hP; cases hP
    | raw l => obtain ⟨_, _, _, _, h, _⟩ := q; rw [h] at hP; unfold knownO at hP; cases hP
  refine ⟨le, ⟨fun i x e => ?_, rp.inj, rp.top, fun i a e => ?_, fun p hp => ?_⟩, nc⟩
  · obtain ⟨a, e1, q1⟩ := rp.cell i x e
    exact ⟨a, e1, q1.keep le (fun o h => other a o h (cellNe i x a e e1 q1)) fun dx gs h => other dx _ h (nP dx _ h fun _ z => by cases z)⟩
  · obtain ⟨o, z⟩ := rp.dom i a e
    by_cases h : a = P
    · exact ⟨_, by rw [h, upd_ne nPc]; exact upd_same⟩
    · exact ⟨o, other a o z h⟩
  · by_cases h : p.1 = P
    · rw [hu p hp h, h]
      obtain ⟨ps', a1, a2, a3⟩ := rp.tab p hp
      rw [h, hP] at a1
      cases a1
      rw [hu p hp h] at a3
      have eL : (ps ++ #[rawInt pos.line, rawInt pos.col, .ref c]).toList = ps.toList ++ [rawInt pos.line, rawInt pos.col, .ref c] := by simp
      refine ⟨ps ++ #[rawInt pos.line, rawInt pos.col, .ref c], by rw [upd_ne nPc]; exact upd_same, by rw [eL]; exact PySem.TriplesOk_snoc _ _ _ _ ht, fun p2 cv hcv => ?_⟩
      rw [eL] at hcv
      rcases among_app _ ht hcv with z | z
      · obtain ⟨c0, e1, e2, e3⟩ := a3 p2 cv z
        exact ⟨c0, e1, other c0 _ e2 (nP c0 _ e2 codeO_ne), e3⟩
      · exact ⟨c, z, upd_same, nc⟩
    · exact (rp.tab p hp).mono (fun qs e => other _ _ e h) fun c0 e1 e2 => ⟨other c0 _ e1 (nP c0 _ e1 codeO_ne), e2⟩
/-- the lambda is made -/
theorem lam_new {c P : Addr} {params : Arguments} {body : Expr} {scope : Scope} {pos : Pos} {E : Value → Shared → Prop} {Q : Value → Shared → Prop} (I : Inv X pins σ H s) (rp : Rep G ρ S H) (TB : TabB X.base X.mg c P) (hcode : X.env.code = .ref c)
    (hm : (P, X.env.qual ++ "<lambda>") ∈ G.tb) (hu : ∀ p ∈ G.tb, p.1 = P → p.2 = X.env.qual ++ "<lambda>") (hdef : defaultsOf params X.env = ([], [])) (hfree : ∀ y ∈ scope.names, y.2 = .free → ∃ c, X.env.cells.lookup y.1 = some c)
    (h : ∀ (f c' : Addr) (pm ctv : Value) (H1 : Hp) (s' : Shared), Inv X pins σ H1 s' → Le G ρ H ρ H1 → Rep G ρ S H1 →
      s'.heap.get? f = some (PySem.W.kla_obj "<lambda>" (X.env.qual ++ "<lambda>") params body scope (cloFrom X.env.cells scope.names []) pm c' ctv) → H1 f = none → f ∉ frs X.stack → H1 c' = some (CodeO c' (X.env.qual ++ "<lambda>")) → (∀ i, ρ i ≠ some c') → Q (.ref f) s') :
    wpAny (model X.prog X.w) X.A (eval (.Lambda params body scope pos) X.env) Q E s := by
  obtain ⟨ps, hP, ht, ha⟩ := rp.tab _ hm
  refine PySem.W.kla_eval hdef ?_
  have bP := TB.bm.keeps I.bk
  have gP : s.heap.get? P = some { cls := .none, data := .fields ps } := I.hok P _ hP
  have far : ∀ f, s.heap.objs.size ≤ f → f ∉ frs X.stack := fun f hf z => by
    rcases List.mem_cons.mp (I.stkSub _ z) with e | e
    · have h1 := I.lt
      rw [← e] at h1
      exact absurd (Nat.lt_of_lt_of_le h1 hf) (Nat.lt_irrefl _)
    · exact I.nofs hf e
  cases hc : codeAmong pos ps.toList with
  | some cv =>
    obtain ⟨c2, rfl, hco, hn⟩ := ha pos cv hc
    refine PySem.W.kla_makeFunctionHit (mg := X.mg) (c := c) (P := P) (ps := ps) (closure_ok hfree) I.ok.glob (I.mod.glob.keeps I.bk) hcode (TB.code.keeps I.bk) gP ht hc bP fun ctv h' tk hx hsz => ?_
    exact h h'.objs.size c2 ((X.mg "__name__").getD .none) ctv H _ (I.kept fun b o e => Heap.get?_push_of_some _ (hx b o e)) Le.refl rp (Heap.get?_push_size _ rfl) (I.hok.fresh hsz) (far _ hsz) hco hn
  | none =>
    refine PySem.W.kla_makeFunction (mg := X.mg) (c := c) (P := P) (ps := ps) (closure_ok hfree) I.ok.glob (I.mod.glob.keeps I.bk) hcode (TB.code.keeps I.bk) gP ht hc TB.gP bP fun c2 ctv h' tk hx hge hlt hrec htb => ?_
    obtain ⟨c3, oc, vs, t, e3, hoc, hd, hv⟩ := hrec
    cases e3
    have hsz : s.heap.objs.size ≤ h'.objs.size := Nat.le_trans hge (Nat.le_of_lt hlt)
    have hn : H c2 = none := I.hok.fresh hge
    obtain ⟨le, rp1, nc⟩ := rep_code (pos := pos) rp hm hu hP ht hn
    have I1 := inv_table (t' := tk) (more := #[rawInt pos.line, rawInt pos.col, .ref c2]) (h' := h'.push (PySem.W.kla_obj "<lambda>" (X.env.qual ++ "<lambda>") params body scope (cloFrom X.env.cells scope.names []) ((X.mg "__name__").getD .none) c2 ctv)) I hP
      (fun b o nb e => Heap.get?_push_of_some _ (hx b o nb e)) (Heap.get?_push_of_some _ htb) hge ⟨oc, vs, t, Heap.get?_push_of_some _ hoc, hd, hv⟩
    refine h h'.objs.size c2 ((X.mg "__name__").getD .none) ctv _ _ I1 le rp1 (Heap.get?_push_size _ rfl) ?_ (far _ hsz) upd_same nc
    rw [upd_ne (Nat.ne_of_gt hlt), upd_ne (Nat.ne_of_gt (Nat.lt_of_lt_of_le (Heap.lt_size gP) hsz))]
    exact I.hok.fresh hsz
/-- the lambda is called in the def that got it -/
theorem pe_run {Ng : List Str} {qg : Str} {sg : Scope} {g f c' : Addr} {cdg pm ctv : Value} {params : Arguments} {body : Expr} {scope : Scope} {k i : Nat} {a : Str} {pn : List (Addr × Obj)} {xe : Value → Shared → Prop} {W : WX} {E : XK} {tb : TE} {p1 p2 : Pos}
    (I : Inv X pins σ H s) (L : LamS X.env.scope scope) (hf : s.heap.get? f = some (PySem.W.kla_obj "<lambda>" (X.env.qual ++ "<lambda>") params body scope (cloFrom X.env.cells scope.names []) pm c' ctv)) (hfn : H f = none) (hfr : f ∉ frs X.stack)
    (hbind : bindArgs (PySem.W.kla_fn "<lambda>" (X.env.qual ++ "<lambda>") params body scope (cloFrom X.env.cells scope.names []) pm (.ref c') ctv) ⟨[], []⟩ = pure [])
    (tk : Takes ((cxOf C8.CX0 X.prog X.w X.K X.mg X.base Ng qg sg g cdg X.A X.stack s H C8.E0).tr pn xe) W) (hW : ∀ cls d σ' H', E cls d H' → W cls d σ' H') (hr : Room (k + 1) (X.A.deeper (envOfC qg sg s.heap.objs.size g cdg))) (hg : X.A.guards = some [])
    (hbody : ∀ (A : Around) (outer : List Env) (s : Shared) (H : Hp), Room k (A.deeper (lamEnv X scope s.heap.objs.size f c')) → A.guards = some [] → PE (lamCx X A outer s H E scope f c') body tb)
    (hN : Ng[i]? = some a) (hv : Vis sg a) (hd : (a == ("__debug__" : Str)) = false := by decide) (hcd : (a == ("__classdict__" : Str)) = false := by decide) :
    PE ((cxOf C8.CX0 X.prog X.w X.K X.mg X.base Ng qg sg g cdg X.A X.stack s H C8.E0).tr pn xe) (.Call (.Name a p1) [] [] p2) (fun σZ HZ Q => σZ[i]? = some (some (.ref f)) ∧ HZ c' = some (CodeO c' (X.env.qual ++ "<lambda>")) ∧ tb σ HZ Q) := by
  refine ⟨fun pz sz σz Hz Q Iz ⟨hs, hc, htb⟩ => ?_⟩
  refine wpAny_Call_Name_kw (thn ((pe_var (pos := p1) (i := i) hN hv hd hcd).run pz sz σz Hz (fun v H1 => v = .ref f ∧ H1 = Hz) Iz ⟨.ref f, hs, rfl, rfl⟩) fun u s1 ⟨v, H1, I1, r1, ev, eH⟩ => ?_)
  subst ev
  subst eH
  obtain rfl : u = Value.ref f := r1
  have of1 := I1.base.keep f _ hf hfn hfr (fun z => nomatch (show f ∈ ([] : List Addr) from z))
  refine PySem.W.callWith_F0 ⟨_, _, _, _, of1⟩ ?_
  obtain ⟨⟨oc, vs, t, hoc, hdc, hvc⟩, _, _⟩ := I1.hok c' _ hc
  have run : codeAny (model X.prog X.w) (X.A.deeper (envOfC qg sg s.heap.objs.size g cdg)) (.call (.ref f) ⟨[], []⟩) (CR (L2.CX X.prog X.w) (envOfC qg sg s.heap.objs.size g cdg :: X.stack) X.prog X.w H1 s1 Q E) s1 := by
    refine PySem.W.kla_callFunE hr.depth of1 rfl L.co L.gen rfl ⟨c', oc, vs, t, rfl, hoc, hdc, hvc⟩ ?_
    rw [hbind]
    refine wpAny_pure (wpAny_newFunctionEnv (fun y hy => (L.own y hy).2) (fun y hy => absurd hy (by simp)) (fun h1 hns hsb => ⟨I1.nolimit.fresh _ hsb, ?_⟩) L.kind)
    show codeAny _ _ (.expr body (lamEnv X scope s1.heap.objs.size f c')) _ _
    have J := lam_start2 (E := E) (tk := s1.toks + ([] : List (Str × Value)).length) (f := f) (c' := c') I L I1.env0 hr.hd I1.base hns (fun b o e => hsb.extBut b o (Nat.ne_of_lt (Heap.lt_size e)) (Heap.get?_push_of_some _ e))
    refine PySem.W.kla_codeExpr (wpAny_mono ((hbody _ _ s1 H1 (hr.deeper _) hg).run [] _ _ H1 Q J htb) (fun v s' hq => ?_) fun e s' hq => hq)
    obtain ⟨w', H', J', rv, q⟩ := hq
    exact ⟨w', H', J'.os, J'.bare, J'.base, J'.hok, rv, q⟩
  refine wpAny_call (codeAny_mono run fun r s' hq => ?_)
  cases r with
  | error e => exact passes_call tk hW pz σz H1 s1 e s' I1 hq
  | ok fl =>
    cases fl with
    | ret u => exact I1.after hq
    | next => exact False.elim hq
    | brk => exact False.elim hq
    | cont => exact False.elim hq
theorem lam_xok {A : Around} {outer : List Env} {E : XK} {scope : Scope} {f c' : Addr} (kk : G.K = X.K) : XOk G (lamCx X A outer s H E scope f c') (fun cls d _ H => E cls d H) := ⟨takes_of rfl rfl rfl rfl, passes_of rfl, kk⟩
/-! ### the words for errors -/
/-- except c: return w / except c as e: return w + repr(e.f) -/
structure Wd where
  c : Nat
  f : Option Str
  w : List Nat
def wordF (f : Str) (w : List Nat) (x : Ex) (S : Sto) : Res D := match x.fs.lookup f with
  | some d => (match fReprD [d] S with
    | .ok (.str t) S1 => (match bAdd (.str w) (.str t) S1 with
      | .ok y S2 => .ok y S2
      | _ => .stuck)
    | _ => .stuck)
  | none => .stuck
def wordK (kx : Nat → Nat → Option Bool) (x : Ex) (S : Sto) : List Wd → Res D
  | [] => .stuck
  | k :: r => match kx x.cls k.c with
    | some false => wordK kx x S r
    | some true => (match k.f with
      | none => .ok (.str k.w) S
      | some f => wordF f k.w x S)
    | none => .stuck
def wordR (kx : Nat → Nat → Option Bool) (ks : List Wd) (fine : List Nat) : Res D → Res D
  | .ok _ S => .ok (.str fine) S
  | .exc x S => wordK kx x S ks
  | .stuck => .stuck
  | .pick t f => .pick t fun r => wordR kx ks fine (f r)
def mWord (kx : Nat → Nat → Option Bool) (ks : List Wd) (fine : List Nat) (m : ME) : ME := fun sd S => wordR kx ks fine (m sd S)
theorem wordF_aft {f : Str} {w : List Nat} {x : Ex} {Q : VK} {W W' : XK} (h : Aft G (RelD G) ρ H (wordF f w x S) Q W) : Aft G (RelD G) ρ H (wordF f w x S) Q W' := by
  unfold wordF at h ⊢
  split
  · rename_i d e
    simp only [e] at h
    split
    · rename_i t S1 e1
      simp only [e1] at h
      split
      · rename_i y S2 e2
        simp only [e2] at h
        exact h
      · rename_i hn
        split at h
        · rename_i y S2 e2
          exact absurd e2 (hn y S2)
        · exact h.elim
    · rename_i hn
      split at h
      · rename_i t S1 e1
        exact absurd e1 (hn t S1)
      · exact h.elim
  · rename_i e
    simp only [e] at h
    exact h.elim
/-- what the suites ask -/
def tsW (G : Glo) (kx : Nat → Nat → Option Bool) (k : Wd) : Addr → Value → Option Addr → TS := fun a cls d D σ H => match k.f with
  | none => D.rt (.str ⟨k.w.toArray⟩) H
  | some f => (∃ σ0 : L2.St, σ = σ0.set 1 (some (.ref a))) ∧ ∃ (ρ : Rho) (S : Sto) (x : Ex), Rep G ρ S H ∧ RelX G ρ H x cls d ∧ kx x.cls k.c = some true ∧ Aft G (RelD G) ρ H (wordF f k.w x S) D.rt (fun _ _ _ => False)
def clW (G : Glo) (kx : Nat → Nat → Option Bool) (k : Wd) : Cls := ⟨G.ca k.c, k.f.map fun _ => 1, tsW G kx k⟩
/-- the clauses of the def that tells words -/
inductive WdOk (G : Glo) (mg : Str → Option Value) (kx : Nat → Nat → Option Bool) (Ng : List Str) (sg : Scope) : List ExceptHandler → List Wd → Prop
  | nil : WdOk G mg kx Ng sg [] []
  | plain {x z : Str} {c : Nat} {w : List Nat} {hs : List ExceptHandler} {ks : List Wd} {j} {p1 p2 p3 p4 : Pos} (hz : z = ⟨w.toArray⟩) (hx : sg.names.lookup x = some .globalImplicit) (hd : (x == ("__debug__" : Str)) = false) (hm : mg x = some (G.ca c)) (r : WdOk G mg kx Ng sg hs ks) :
      WdOk G mg kx Ng sg (.ExceptHandler (some (.Name x p1)) none [.Return (some (.Constant (.str z) j p3)) p4] p2 :: hs) (⟨c, none, w⟩ :: ks)
  | named {x n f z : Str} {c : Nat} {w : List Nat} {hs : List ExceptHandler} {ks : List Wd} {j} {p1 p2 p3 p4 p5 p6 p7 p8 p9 : Pos} (hz : z = ⟨w.toArray⟩) (hx : sg.names.lookup x = some .globalImplicit) (hd : (x == ("__debug__" : Str)) = false) (hm : mg x = some (G.ca c)) (hi : Ng[1]? = some n) (hl : sg.names.lookup n = some .local)
      (hn1 : (n == ("__debug__" : Str)) = false) (hn2 : (n == ("__classdict__" : Str)) = false) (hr : sg.names.lookup ("repr" : Str) = some .globalImplicit) (hmr : mg "repr" = none) (hxf : ∀ t, kx t c = some true → ∃ C, G.ca t = .ref C ∧ XfC G.K C ∧ PySem.W.findIn G.K (.ref C) f = some none)
      (r : WdOk G mg kx Ng sg hs ks) :
      WdOk G mg kx Ng sg (.ExceptHandler (some (.Name x p1)) (some n) [.Return (some (.BinOp (.Constant (.str z) j p3) .Add (.Call (.Name "repr" p5) [.Attribute (.Name n p6) f p7] [] p8) p9)) p4] p2 :: hs) (⟨c, some f, w⟩ :: ks)
theorem xf_of {ts cs : List Nat} {g : Nat → Nat → Bool} {c : Nat} {fld : Str} {l : List Nat} (hl : ts.filter (fun t => g t c) = l) (h : ∀ t ∈ l, ∃ C, G.ca t = .ref C ∧ XfC G.K C ∧ PySem.W.findIn G.K (.ref C) fld = some none) :
    ∀ t, kitOf ts cs g t c = some true → ∃ C, G.ca t = .ref C ∧ XfC G.K C ∧ PySem.W.findIn G.K (.ref C) fld = some none := fun t e => by
  obtain ⟨h1, h2, h3⟩ := kit_has e
  refine h t ?_
  rw [← hl]
  exact List.mem_filter.mpr ⟨h1, h3⟩
/-- return w + repr(e.f), in a suite -/
theorem pe_told {Z : Cx} {a : Addr} {oe : Obj} {cls : Value} {d : Option Addr} {pn : List (Addr × Obj)} {kx : Nat → Nat → Option Bool} {c : Nat} {w : List Nat} {n f : Str} {j} {p3 p5 p6 p7 p8 p9 : Pos} (kk : G.K = Z.K) (hg : Z.A.guards = some []) (hu : Z.A.units + 64 < cLine) (hz : Zc cls d oe) (hf : ∃ vs, oe.data = .fields vs)
    (hi : Z.N[1]? = some n) (hl : Z.env.scope.names.lookup n = some .local) (hlen : 1 < Z.N.length) (hn1 : (n == ("__debug__" : Str)) = false) (hn2 : (n == ("__classdict__" : Str)) = false) (hr : Z.env.scope.names.lookup ("repr" : Str) = some .globalImplicit) (hmr : Z.mg "repr" = none)
    (hxf : ∀ t, kx t c = some true → ∃ C, G.ca t = .ref C ∧ XfC G.K C ∧ PySem.W.findIn G.K (.ref C) f = some none) :
    PE (Z.suite a ((a, oe) :: pn)) (.BinOp (.Constant (.str ⟨w.toArray⟩) j p3) .Add (.Call (.Name "repr" p5) [.Attribute (.Name n p6) f p7] [] p8) p9)
      (fun σ H Q => (∃ σ0 : L2.St, σ = σ0.set 1 (some (.ref a))) ∧ ∃ (ρ : Rho) (S : Sto) (x : Ex), Rep G ρ S H ∧ RelX G ρ H x cls d ∧ kx x.cls c = some true ∧ Aft G (RelD G) ρ H (wordF f w x S) Q (fun _ _ _ => False)) := by
  refine ⟨fun pins s σ H Q I h => ?_⟩
  obtain ⟨⟨σ0, eσ⟩, ρ, S, x, rp, rx, ek, h⟩ := h
  obtain ⟨C, hC, T, hno⟩ := hxf _ ek
  rw [kk] at T hno
  have xk : XOk G (Z.suite a ((a, oe) :: pn)) Wno := ⟨fun u s' ⟨_, _, _, _, _, _, _, _, _, _, _, _, _, _, _, _, z⟩ => z, PassesOwn.never, kk⟩
  have slot : σ[1]? = some (some (.ref a)) := by
    have hl2 : σ.length = Z.N.length := I.len
    rw [eσ] at hl2 ⊢
    rw [List.length_set] at hl2
    exact List.getElem?_set_self (by omega)
  -- the field
  unfold wordF at h
  cases el : x.fs.lookup f with
  | none => simp only [el] at h; exact h.elim
  | some dv =>
    simp only [el] at h
    obtain ⟨rx1, rx2⟩ := rx
    have fld : ∃ dd gs v, d = some dd ∧ H dd = some (.xd gs) ∧ gs.lookup f = some v ∧ RelD G ρ H dv v := by
      revert rx2
      cases efs : x.fs with
      | nil => rw [efs] at el; cases el
      | cons y r =>
        intro rx2
        cases d with
        | none => exact rx2.elim
        | some dd =>
          obtain ⟨gs, e1, e2⟩ := rx2
          rw [efs] at el
          obtain ⟨v, e3, e4⟩ := e2 f dv el
          exact ⟨dd, gs, v, rfl, e1, e3, e4⟩
    obtain ⟨dd, gs, v, ed, e1, e2, e3⟩ := fld
    have at_ := pe_xf (pos := p7) (n := f) (X := Z) (a := a) (C := C) (oe := oe) (cls := cls) (d := d) (pn := pn) T hno hz hf (pe_var (X := Z.suite a ((a, oe) :: pn)) (pos := p6) (i := 1) hi (.inl hl) hn1 hn2)
    split at h
    · rename_i t S1 er
      split at h
      · rename_i y S2 eb
        refine wpAny_BinOp (thn ((pe_str (X := Z.suite a ((a, oe) :: pn)) (x := ⟨w.toArray⟩)).run pins s σ H (fun z H1 => z = .str ⟨w.toArray⟩ ∧ H1 = H) I ⟨rfl, rfl⟩) fun u1 s1 ⟨z1, H1, I1, r1, ez, eH⟩ => ?_)
        subst ez
        subst eH
        have told : wpAny (model (Z.suite a ((a, oe) :: pn)).prog (Z.suite a ((a, oe) :: pn)).w) (Z.suite a ((a, oe) :: pn)).A (eval (.Call (.Name "repr" p5) [.Attribute (.Name n p6) f p7] [] p8) (Z.suite a ((a, oe) :: pn)).env) (fun v s2 => ∃ H2 y2, Inv (Z.suite a ((a, oe) :: pn)) pins σ H2 s2 ∧ RelV y2 v ∧ ∃ ρ2, Le G ρ H1 ρ2 H2 ∧ Rep G ρ2 S1 H2 ∧ RelD G ρ2 H2 (.str t) y2) (Z.suite a ((a, oe) :: pn)).xe s1 := by
          refine wpAny_Call_Name_kw (ld_blt (u := .builtin "repr") I1 hr hmr (by decide +kernel) ?_ (by decide) (by decide))
          refine PyProof.Rows.callWith_builtin1 (thn ((pa_cons at_ pa_nil (by rfl)).run p8 pins s1 σ H1 (fun xs H2 => xs = [v] ∧ H2 = H1) I1 ⟨.ref a, slot, rfl, rx1.trans hC, dd, gs, v, ed, e1, e2, rfl, rfl⟩) fun us s2 ⟨vs, H2, I2, rv, ev, eH⟩ => ?_) (by rfl) (by rfl)
          subst ev
          subst eH
          exact thn (cm_reprD (G := G) (X := Z.suite a ((a, oe) :: pn)) hg hu Wno xk pins s2 σ H2 ρ S [v] us [dv] (fun y2 H3 => ∃ ρ2, Le G ρ H2 ρ2 H3 ∧ Rep G ρ2 S1 H3 ∧ RelD G ρ2 H3 (.str t) y2) I2 rv rp (.one e3) (by rw [er]; exact fun ρ' H' v' le rp' rd' => ⟨ρ', le, rp', rd'⟩)) fun u3 s3 ⟨y3, H3, I3, r3, q3⟩ => ⟨H3, y3, I3, r3, q3⟩
        refine thn told fun u2 s2 ⟨H2, y2, I2, r2, ρ2, le2, rp2, rd2⟩ => ?_
        · refine om_add (G := G) (X := Z.suite a ((a, oe) :: pn)) Wno xk pins s2 σ H2 ρ2 S1 (.str ⟨w.toArray⟩) y2 u1 u2 (.str w) (.str t) Q I2 r1 r2 rp2 rel_str rd2 ?_
          rw [eb]
          exact h.le le2
      · exact h.elim
    · exact h.elim
end
end Y

/-! Zf: word(lambda: e), joined. -/
namespace Y
open PySem PySem.Spec PyProof.Rows L2 LamX
section
variable {G : Glo} {X : Cx} {ρ : Rho} {H : Hp} {S : Sto} {pins : List (Addr × Obj)} {σ : L2.St} {s : Shared}
theorem word_clauses {mg : Str → Option Value} {kx : Nat → Nat → Option Bool} {Ng : List Str} {Z : Cx} {hs : List ExceptHandler} {ks : List Wd} (h : WdOk G mg kx Ng Z.env.scope hs ks) (hN : Z.N = Ng) (hm : Z.mg = mg) (kk : G.K = Z.K) (hg : Z.A.guards = some []) (hu : Z.A.units + 64 < cLine) : ClausesOk Z hs (ks.map (clW G kx)) := by
  subst hN
  subst hm
  induction h with
  | nil => exact .nil
  | @plain x z c w hs ks j p1 p2 p3 p4 hz hx hd hm r ih =>
    subst hz
    exact .plain ⟨hx, hd, .inl hm⟩ (fun a oe cls d pn _ _ => pss_one (ps_ret pe_str)) ih
  | @named x n f z c w hs ks j p1 p2 p3 p4 p5 p6 p7 p8 p9 hz hx hd hm hi hl hn1 hn2 hr hmr hxf r ih =>
    subst hz
    refine .named ⟨hx, hd, .inl hm⟩ hi hl (fun a oe cls d pn hz hf => ?_) ih
    have hlen : 1 < Z.N.length := (List.getElem?_eq_some_iff.mp hi).1
    exact pss_one (ps_ret (pe_told kk hg hu hz hf hi hl hlen hn1 hn2 hr hmr hxf))
/-- the clauses take what the lambda raises -/
theorem word_exc {mg : Str → Option Value} {kx : Nat → Nat → Option Bool} {Ng : List Str} {sg : Scope} {hs : List ExceptHandler} {ks : List Wd} {x : Ex} {cls : Value} {dd : Option Addr} {D : Ends} {W : XK} (kk : ExOk G kx) (h : WdOk G mg kx Ng sg hs ks) (rp : Rep G ρ S H) (rx : RelX G ρ H x cls dd) (a : Aft G (RelD G) ρ H (wordK kx x S ks) D.rt W) (σ' : L2.St) :
    wClauses G.K (fun _ _ _ _ => False) D (ks.map (clW G kx)) cls dd σ' H := by
  induction h with
  | nil => exact a.elim
  | @plain y z c w hs ks j p1 p2 p3 p4 hz hx hd hm r ih =>
    simp only [wordK] at a
    cases e : kx x.cls c with
    | none => simp only [e] at a; exact a.elim
    | some b =>
      refine ⟨b, by rw [rx.1]; exact kk.ans _ _ _ e, fun hb a' na => ?_, fun hb => ?_⟩
      · subst hb
        simp only [e] at a
        exact a ρ H (.str ⟨w.toArray⟩) Le.refl rp rel_str
      · subst hb
        simp only [e] at a
        exact ih a
  | @named y n f z c w hs ks j p1 p2 p3 p4 p5 p6 p7 p8 p9 hz hx hd hm hi hl hn1 hn2 hr hmr hxf r ih =>
    simp only [wordK] at a
    cases e : kx x.cls c with
    | none => simp only [e] at a; exact a.elim
    | some b =>
      refine ⟨b, by rw [rx.1]; exact kk.ans _ _ _ e, fun hb a' na => ?_, fun hb => ?_⟩
      · subst hb
        simp only [e] at a
        exact ⟨⟨σ', rfl⟩, ρ, S, x, rp, rx, e, wordF_aft a⟩
      · subst hb
        simp only [e] at a
        exact ih a
theorem word_aft {mg : Str → Option Value} {kx : Nat → Nat → Option Bool} {Ng : List Str} {sg : Scope} {hs : List ExceptHandler} {ks : List Wd} {fine : List Nat} {Q : VK} {W : XK} {De : Ends} (kk : ExOk G kx) (h : WdOk G mg kx Ng sg hs ks) (hD : De.rt = Q) (r : Res D) (a : Aft G (RelD G) ρ H (wordR kx ks fine r) Q W) :
    Aft G (RelD G) ρ H r (fun _ H' => Q (.str ⟨fine.toArray⟩) H') (fun cls d H' => ∀ σ', wClauses G.K (fun _ _ _ _ => False) De (ks.map (clW G kx)) cls d σ' H') := by
  induction r with
  | ok d S1 => exact fun ρ' H' v le rp _ => a ρ' H' _ le rp rel_str
  | exc x S1 => exact fun ρ' H' cls dd le rp rx σ' => word_exc kk h rp rx (by rw [hD]; exact Aft.le (r := wordK kx x S1 ks) a le) σ'
  | stuck => exact a
  | pick t f ih => exact fun i hi => ih i (a i hi)
/-- word(lambda: body) -/
theorem pm_word {kx : Nat → Nat → Option Bool} {ks : List Wd} {fine : List Nat} {x a z : Str} {g c P : Addr} {k : Nat} {st : Stmt} {fd : FuncData} {Ng : List Str} {h0 : ExceptHandler} {hds : List ExceptHandler} {params : Arguments} {body : Expr} {scope : Scope} {m : ME} {j} {p lpos pos p1 p2 p3 p4 p5 p6 : Pos}
    (km : ExOk G kx) (hgx : Gl X x) (hmx : X.mg x = some (.ref g)) (F : Fun G.K x x st g fd) (Sg : FnScope Ng [a] (defScope st)) (hb : L2.Binds G.K fd [a] [])
    (hbody : defBody st = [.Try [.Expr (.Call (.Name a p1) [] [] p2) p3] (h0 :: hds) [] [] p4, .Return (some (.Constant (.str z) j p5)) p6]) (hz : z = ⟨fine.toArray⟩) (hw : WdOk G X.mg kx Ng (defScope st) (h0 :: hds) ks)
    (TB : TabB X.base X.mg c P) (hcode : X.env.code = .ref c) (hmT : (P, X.env.qual ++ "<lambda>") ∈ G.tb) (hu : ∀ p ∈ G.tb, p.1 = P → p.2 = X.env.qual ++ "<lambda>") (hr : Room (k + 2) X.A) (hg : X.A.guards = some []) (L : LamS X.env.scope scope) (hdef : defaultsOf params X.env = ([], []))
    (hbind : ∀ (q : Str) (cl : List (Str × Addr)) (pm cv ctv : Value), bindArgs (PySem.W.kla_fn "<lambda>" q params body scope cl pm cv ctv) ⟨[], []⟩ = pure [])
    (he : ∀ (A : Around) (outer : List Env) (s : Shared) (H : Hp) (E : XK) (f c' : Addr), Room k (A.deeper (lamEnv X scope s.heap.objs.size f c')) → A.guards = some [] → PEm G (lamCx X A outer s H E scope f c') body m)
    (hNg : Ng[0]? = some a) (hva : Vis (defScope st) a) (hsw : ∀ env, swapsWith (.Call (.Name a p1) [] [] p2) none p3.line env = pure false := by intro _; rfl)
    (hdb : (x == ("__debug__" : Str)) = false := by decide) (hd : (a == ("__debug__" : Str)) = false := by decide) (hcd : (a == ("__classdict__" : Str)) = false := by decide) :
    PEm G X (.Call (.Name x p) [.Lambda params body scope lpos] [] pos) (mWord kx ks fine m) := fun W ok => by
  refine ⟨fun pins s σ H Q I h => ?_⟩
  obtain ⟨sd, S, ρ, hs, rp, h⟩ := h
  subst hz
  have hk := F.kp
  obtain ⟨oc, od, kV, doc, pm0, an, cdv, ct, osl, rfl, lk, hcdv⟩ := F.ex
  rw [ok.kk] at lk hcdv hk hb
  refine wpAny_Call_Name_kw (ld_glob I hgx hmx ?_ hdb)
  refine PySem.W.callWith_K (h₀ := X.base) I.ok.mod.kin hk ?_ (by rfl) (by rfl)
  show wpAny _ _ (spliced ((false, eval (.Lambda params body scope lpos) X.env) :: backTo pos (starEach [] X.env))) _ _ s
  refine Calls.spliced_cons (lam_new I rp TB hcode hmT hu hdef (L.has I.ok) fun f c' pm' ctv H1 s' I1 le1 rp1 hf hfn hfr hco hnc => ?_)
  refine Calls.spliced_nil ⟨I1.kIn, ?_⟩
  have run : codeAny (model X.prog X.w) X.A (.call (.ref g) ⟨[.ref f], []⟩) (CR C8.CX0 X.stack X.prog X.w H1 s' Q C8.E0) s' := by
    refine run_ofS (N := Ng) (ps := [a]) (us := [.ref f]) (vs := [.ref f]) lk hcdv Sg hr I1.env0 (hb s' [.ref f] I1.kIn rfl) (.cons rfl .nil) rfl fun hr2 => ?_
    rw [hbody]
    refine ⟨_, (pss_cons (ps_try_clauses (X := (cxOf C8.CX0 X.prog X.w X.K X.mg X.base Ng x (defScope st) g cdv X.A X.stack s' H1 C8.E0).nox) (Wout := fun _ _ _ _ => False) (l := ks.map (clW G kx))
      (tb := fun W D σz Hz => ∃ Ech : XK, (∀ cls d σ' H', Ech cls d H' → W cls d σ' H') ∧ σz[0]? = some (some (.ref f)) ∧ Hz c' = some (CodeO c' (X.env.qual ++ "<lambda>")) ∧ te G m (fun cls d _ H => Ech cls d H) σ Hz (fun _ H' => D.nx σz H'))
      rfl rfl Sg.nd L2.takes0 (fun W pn xe tk _ => ?_) (word_clauses hw rfl rfl ok.kk hg hr2.units)) (pss_one (ps_ret pe_str))).nox, ?_⟩
    · refine ⟨fun pz sz σz Hz D Iz ⟨Ech, hW, z1, z2, z3⟩ => ?_⟩
      have act := pe_run (i := 0) (p1 := p1) (p2 := p2) I1 L hf hfn hfr (hbind _ _ _ _ _) tk hW hr2 hg (fun A outer s H hr3 hg3 => he A outer s H Ech f c' hr3 hg3 _ (lam_xok ok.kk)) hNg hva hd hcd
      exact (pss_one (ps_expr (pos := p3) act (hsw _))).run pz sz σz Hz D Iz ⟨z1, z2, z3⟩
    · have st0 : (L2.start Ng [V.ref f])[0]? = some (some (V.ref f)) := by
        have hl : 0 < Ng.length := (List.getElem?_eq_some_iff.mp hNg).1
        unfold L2.start
        cases Ng with
        | nil => simp at hl
        | cons y r => rfl
      refine ⟨fun cls d H' => ∀ σ', wClauses G.K (fun _ _ _ _ => False) { nx := fun _ H' => Q (.str ⟨fine.toArray⟩) H', rt := Q } (ks.map (clW G kx)) cls d σ' H', fun cls d σ' H' z => ?_, st0, hco, sd, S, ρ, hs.mono le1, rp1, ?_⟩
      · rw [← ok.kk]
        exact z σ'
      · have h1 : Aft G (RelD G) ρ H1 (wordR kx ks fine (m sd S)) Q (fun c a H' => W c a σ H') := h.le le1
        exact word_aft (De := { nx := fun _ H' => Q (.str ⟨fine.toArray⟩) H', rt := Q }) km hw rfl (m sd S) h1
  refine wpAny_call (codeAny_mono run fun r s2 hq => ?_)
  cases r with
  | error e => exact (show False from hq).elim
  | ok fl =>
    cases fl with
    | ret u => exact I1.after hq
    | next => exact False.elim hq
    | brk => exact False.elim hq
    | cont => exact False.elim hq
end
end Y

/-! Zg: chains, comprehensions of two clauses, stars, ranges as lists. -/
namespace Y
open PySem PySem.Spec PyProof.Rows L2
section
variable {G : Glo} {X : Cx} {ρ : Rho} {H : Hp} {S : Sto}
theorem Aft.wk {α β : Type} {RL : Rho → Hp → α → β → Prop} {r : Res α} {Q : β → Hp → Prop} {W W' : XK} (h : Aft G RL ρ H r Q W) (f : ∀ c a H, W c a H → W' c a H) : Aft G RL ρ H r Q W' := by
  induction r with
  | ok d S => exact h
  | exc x S => exact fun ρ' H' c d le rp rx => f _ _ _ (h ρ' H' c d le rp rx)
  | stuck => exact h
  | pick t g ih => exact fun r hr => ih r (h r hr)
/-! ### a < b < c -/
def mChain (f g : D → D → Sto → Res D) (a b c : ME) : ME := fun sd S => (a sd S).bind fun x S1 => (b sd S1).bind fun y S2 => (f x y S2).bindX fun z S3 => match z with
  | .bl true => (c sd S3).bind fun w S4 => (g y w S4).bindX fun u S5 => .ok u S5
  | .bl false => .ok (.bl false) S3
  | _ => .stuck
def rOf (G : Glo) (f : D → D → Sto → Res D) (x y : V) (H : Hp) (Q : VK) : Prop := ∃ ρ S d e, Rep G ρ S H ∧ RelD G ρ H d x ∧ RelD G ρ H e y ∧ Aft G (RelD G) ρ H (f d e S) Q (fun _ _ _ => False)
theorem opR_of {F : Value → Value → Sem Value} {f : D → D → Sto → Res D} {W : WX} (ok : XOk G X W) (h : OpM G X F f) : OpR X F (rOf G f) := fun pins s σ H x y v u Q I rx ry ⟨ρ, S, d, e, rp, rd, re, a⟩ => h W ok pins s σ H ρ S x y v u d e Q I rx ry rp rd re (a.wk fun _ _ _ z => z.elim)
theorem chain_read {f g : D → D → Sto → Res D} {ma mb mc : ME} {W : WX} {σ : L2.St} {Q : VK} (h : te G (mChain f g ma mb mc) W σ H Q) : tChain (rOf G f) (rOf G g) (te G ma W) (te G mb W) (te G mc W) σ H Q := by
  obtain ⟨sd, S, ρ, hs, rp, h⟩ := h
  refine ⟨sd, S, ρ, hs, rp, Aft.bind h fun ρ1 H1 x d S1 le1 r1 rd h1 => ⟨sd, S1, ρ1, hs.mono le1, r1, Aft.bind h1 fun ρ2 H2 y e S2 le2 r2 re h2 => ?_⟩⟩
  refine ⟨ρ2, S2, d, e, r2, rd.mono le2, re, Aft.bindX h2 fun ρ3 H3 z dz S3 le3 r3 rz h3 => ?_⟩
  cases dz with
  | bl k =>
    simp only [RelD] at rz
    refine ⟨k, rz, ?_⟩
    cases k with
    | true =>
      rw [if_pos rfl]
      refine ⟨sd, S3, ρ3, hs.mono ((le1.trans le2).trans le3), r3, Aft.bind h3 fun ρ4 H4 w dw S4 le4 r4 rw_ h4 => ?_⟩
      exact ⟨ρ4, S4, e, dw, r4, re.mono (le3.trans le4), rw_, Aft.bindX h4 fun ρ5 H5 u du S5 le5 r5 ru h5 => h5.ok r5 ru⟩
    | false =>
      rw [if_neg (by decide)]
      exact h3.ok r3 (by simp only [RelD])
  | _ => exact h3.elim
theorem pm_chain {op op' : CmpOp} {f g : D → D → Sto → Res D} {a b c : Expr} {ma mb mc : ME} {pos : Pos} (ho : OpM G X (compareOp op) f) (ho' : OpM G X (compareOp op') g) (ha : PEm G X a ma) (hb : PEm G X b mb) (hc : PEm G X c mc) (hm : lastMarks [op, op'] [b, c] = false := by rfl) : PEm G X (.Compare a [op, op'] [b, c] pos) (mChain f g ma mb mc) := fun W ok =>
  PE_imp (pe_chain (opR_of ok ho) (opR_of ok ho') (ha W ok) (hb W ok) (hc W ok) hm) fun σ H Q h => chain_read h
def mTruB (m : ME) : MT := fun sd S => (m sd S).bindX fun d S1 => match d with
  | .bl k => .ok k S1
  | _ => .stuck
theorem pt_chainm {op op' : CmpOp} {f g : D → D → Sto → Res D} {a b c : Expr} {ma mb mc : ME} {pos : Pos} (ho : OpM G X (compareOp op) f) (ho' : OpM G X (compareOp op') g) (ha : PEm G X a ma) (hb : PEm G X b mb) (hc : PEm G X c mc) (hm : lastMarks [op, op'] [b, c] = false := by rfl) : PTm G X (.Compare a [op, op'] [b, c] pos) (mTruB (mChain f g ma mb mc)) := fun W ok =>
  PT_imp (pt_chain (opR_of ok ho) (opR_of ok ho') (ha W ok) (hb W ok) (hc W ok) hm) fun σ H Q h => by
    obtain ⟨sd, S, ρ, hs, rp, h⟩ := h
    refine chain_read ⟨sd, S, ρ, hs, rp, ?_⟩
    refine (Aft.bindX (W' := fun _ _ _ => False) h fun ρ1 H1 v d S1 le r1 rd h1 => ?_).wk fun _ _ _ z => z.elim
    cases d with
    | bl k =>
      simp only [RelD] at rd
      exact ⟨k, rd, h1.ok r1 rfl⟩
    | _ => exact h1.elim
/-! ### comprehensions of two clauses -/
/-- the inner clause: adds to the list at dl -/
def lcIn (it : ItD) (t : Tg) (q : MT) (e : ME) (sd : SD) (dl : Nat) : Nat → Nat → Sto → Res Unit
  | 0, _, _ => .stuck
  | n + 1, i, S => match itNext it i S with
    | none => .stuck
    | some none => .ok () S
    | some (some d) => match asg t d sd with
      | none => .stuck
      | some sd1 => (q sd1 S).bindX fun k S1 => if k then (e sd1 S1).bindX fun y S2 => (match S2.get dl with
          | some (.lst acc) => if acc.length < 16777216 then lcIn it t q e sd dl n (i + 1) (S2.set dl (.lst (acc ++ [y]))) else .stuck
          | _ => .stuck) else lcIn it t q e sd dl n (i + 1) S1
def lcOut (it : ItD) (t : Tg) (q : MT) (mi1 : MI) (t1 : Tg) (q1 : MT) (e : ME) (sd : SD) (vs1 : List Nat) (dl : Nat) : Nat → Nat → Sto → Res D
  | 0, _, _ => .stuck
  | n + 1, i, S => match itNext it i S with
    | none => .stuck
    | some none => .ok (.loc dl) S
    | some (some d) => match asg t d sd with
      | none => .stuck
      | some sd1 => (q sd1 S).bindX fun k S1 => if k then (mi1 sd1 S1).bindX fun it1 S2 => (lcIn it1 t1 q1 e (wipeD sd1 vs1) dl (itLen it1 S2 + 1) 0 S2).bindX fun _ S3 => lcOut it t q mi1 t1 q1 e sd vs1 dl n (i + 1) S3 else lcOut it t q mi1 t1 q1 e sd vs1 dl n (i + 1) S1
def mLc2 (mi : MI) (t : Tg) (q : MT) (mi1 : MI) (t1 : Tg) (q1 : MT) (e : ME) (vs vs1 : List Nat) : ME := fun sd S => (mi sd S).bind fun it S1 => lcOut it t q mi1 t1 q1 e (wipeD sd vs) vs1 S1.n (itLen it S1 + 1) 0 (S1.new (.lst []))
theorem lc2_read {mi mi1 : MI} {t t1 : Tg} {q q1 : MT} {m : ME} {W : WX} {vs vs1 : List Nat} (kk : G.K = X.K) (hv : ∀ j ∈ t.slots, j ∈ vs) (hv1 : ∀ j ∈ t1.slots, j ∈ vs1) {σ : L2.St} {Q : VK} (h : te G (mLc2 mi t q mi1 t1 q1 m vs vs1) W σ H Q) : tLc2 (ti G mi W) (gOf X.K t) (tt G q Wno) (ti G mi1 Wno) (gOf X.K t1) (tt G q1 Wno) (te G m Wno) vs vs1 σ H Q := by
  obtain ⟨sd, S, ρ, hs, hr, h⟩ := h
  refine ⟨sd, S, ρ, hs, hr, Aft.bind h fun ρ1 H1 J it S1 le1 r1 ij h1 => fun Dd hD => ?_⟩
  have leD : Le G ρ1 H1 (ext ρ1 S1.n Dd) (upd H1 Dd (.lst [])) := (Le.ext (r1.top _ (Nat.le_refl _))).trans (Le.same (same_new hD))
  have hs1 := hs.mono (le1.trans leD)
  refine ⟨fun i m2 H => ∃ S ρ, Le G (ext ρ1 S1.n Dd) (upd H1 Dd (.lst [])) ρ H ∧ Rep G ρ S H ∧ Aft G (RelD G) ρ H (lcOut it t q mi1 t1 q1 m (wipeD sd vs) vs1 S1.n m2 i S) Q (fun c d H' => W c d σ H'),
    ⟨_, _, _, Le.refl, r1.new (c := .lst []) hD ⟨[], upd_same, .nil⟩, h1.le leD⟩, fun i m2 H2 ⟨S2, ρ2, le2, r2, h2⟩ => ?_⟩
  have hsw : RelSt G ρ2 H2 (wipeD sd vs) (L2.wipe σ vs) := (hs1.mono le2).wipe vs
  have hρD : ρ2 S1.n = some Dd := le2.rho _ _ ext_same
  cases m2 with
  | zero => exact h2.elim
  | succ m2 =>
    have ij2 := ij i ρ2 H2 S2 (leD.trans le2) r2
    simp only [lcOut] at h2
    split at h2
    · exact h2.elim
    · rename_i en
      rw [en] at ij2
      exact .inl ⟨ij2, h2.ok r2 (RelD.loc' hρD)⟩
    · rename_i d en
      rw [en] at ij2
      obtain ⟨hgo, hy⟩ := ij2
      refine .inr ⟨hgo, _, fun H' hn => ⟨m2, Nat.lt_succ_self m2, hn⟩, fun x H3 hx => ?_⟩
      obtain ⟨l3, r3, rd⟩ := hy x H3 hx
      split at h2
      · exact h2.elim
      · rename_i sd1 ea
        refine gOf_ok kk rd (hsw.mono l3) ea fun σ2 s2 k2 => ?_
        refine ⟨(wipe_eq k2 hv).trans wipe_twice, sd1, S2, ρ2, s2, r3, ?_⟩
        refine Aft.bindX (h2.le l3) fun ρ4 H4 b k S4 l4 r4 eb h4 => ?_
        have eb : k = b := eb
        subst eb
        cases k with
        | false =>
          rw [if_neg (by decide)]
          exact ⟨S4, ρ4, (le2.trans l3).trans l4, r4, h4⟩
        | true =>
          rw [if_pos rfl]
          refine ⟨sd1, S4, ρ4, s2.mono l4, r4, Aft.bindX h4 fun ρ5 H5 J1 it1 S5 l5 r5 ij1 h5 => ?_⟩
          have base5 : Le G (ext ρ1 S1.n Dd) (upd H1 Dd (.lst [])) ρ5 H5 := ((le2.trans l3).trans l4).trans l5
          refine ⟨fun j k H => ∃ S ρ, Le G ρ5 H5 ρ H ∧ Rep G ρ S H ∧ Aft G (RelD G) ρ H ((lcIn it1 t1 q1 m (wipeD sd1 vs1) S1.n k j S).bindX fun _ S3 => lcOut it t q mi1 t1 q1 m (wipeD sd vs) vs1 S1.n m2 (i + 1) S3) Q (fun c d H' => W c d σ H'), ⟨_, S5, ρ5, Le.refl, r5, h5⟩, fun j k H6 ⟨S6, ρ6, l6, r6, h6⟩ => ?_⟩
          have hs6 : RelSt G ρ6 H6 (wipeD sd1 vs1) (L2.wipe σ2 vs1) := (s2.mono ((l4.trans l5).trans l6)).wipe vs1
          have hρ6 : ρ6 S1.n = some Dd := (base5.trans l6).rho _ _ ext_same
          cases k with
          | zero => exact h6.elim
          | succ k =>
            have ij6 := ij1 j ρ6 H6 S6 l6 r6
            simp only [lcIn] at h6
            cases en1 : itNext it1 j S6 with
            | none => simp only [en1] at h6; exact h6.elim
            | some o =>
              cases o with
              | none =>
                simp only [en1] at h6
                rw [en1] at ij6
                exact .inl ⟨ij6, S6, ρ6, base5.trans l6, r6, h6⟩
              | some d1 =>
                simp only [en1] at h6
                rw [en1] at ij6
                obtain ⟨hgo1, hy1⟩ := ij6
                refine .inr ⟨hgo1, _, fun H' hn => ⟨k, Nat.lt_succ_self k, hn⟩, fun x1 H7 hx1 => ?_⟩
                obtain ⟨l7, r7, rd1⟩ := hy1 x1 H7 hx1
                cases ea1 : asg t1 d1 (wipeD sd1 vs1) with
                | none => simp only [ea1] at h6; exact h6.elim
                | some sd2 =>
                  simp only [ea1] at h6
                  refine gOf_ok kk rd1 (hs6.mono l7) ea1 fun σ3 s3 k3 => ?_
                  refine ⟨(wipe_eq k3 hv1).trans wipe_twice, sd2, S6, ρ6, s3, r7, ?_⟩
                  have asc : ∀ {α β γ : Type} (r : Res α) (f : α → Sto → Res β) (g : β → Sto → Res γ), (r.bindX f).bindX g = r.bindX fun a S => (f a S).bindX g := fun r f g => by
                    induction r with
                    | ok a S => rfl
                    | exc x S => rfl
                    | stuck => rfl
                    | pick t h ih => simp only [Res.bindX]; congr 1; funext i; exact ih i
                  rw [asc] at h6
                  refine Aft.bindX (h6.le l7) fun ρ8 H8 b1 kb S8 l8 r8 eb1 h8 => ?_
                  have eb1 : kb = b1 := eb1
                  subst eb1
                  cases kb with
                  | false =>
                    rw [if_neg (by decide)]
                    exact ⟨S8, ρ8, (l6.trans l7).trans l8, r8, h8⟩
                  | true =>
                    rw [if_pos rfl]
                    simp only [if_true] at h8
                    rw [asc] at h8
                    refine ⟨sd2, S8, ρ8, s3.mono l8, r8, Aft.bindX h8 fun ρ9 H9 v y S9 l9 r9 rv h9 => ?_⟩
                    have hρ9 : ρ9 S1.n = some Dd := ((l7.trans l8).trans l9).rho _ _ hρ6
                    cases eacc : S9.get S1.n with
                    | none => simp only [eacc] at h9; exact h9.elim
                    | some cc =>
                      cases cc with
                      | lst acc =>
                        simp only [eacc] at h9
                        by_cases hlen : acc.length < 16777216
                        · rw [if_pos hlen] at h9
                          obtain ⟨a, xs, ea2, _, hH, hrel⟩ := r9.list eacc (RelD.loc' hρ9)
                          cases ea2
                          have w : Wr1 (H9 Dd) := by rw [hH]; exact trivial
                          have lw := Le.upd (G := G) (ρ := ρ9) (o := .lst (xs ++ [v])) w.wr
                          exact ⟨xs, hH, by rw [← hrel.length, sizeLine_eq]; exact hlen, _, ρ9, (((l6.trans l7).trans l8).trans l9).trans lw, r9.set (c' := .lst (acc ++ [y])) eacc hρ9 w ⟨_, upd_same, (hrel.mono lw).append (.one (rv.mono lw))⟩, h9.le lw⟩
                        · rw [if_neg hlen] at h9
                          exact h9.elim
                      | _ => simp only [eacc] at h9; exact h9.elim
theorem pm_lc2 {elt tg iter tg1 iter1 : Expr} {ifs ifs1 : List Expr} {scope : Scope} {own : List (Str × Nat)} {vs1 : List Nat} {pos : Pos} {mi mi1 : MI} {t t1 : Tg} {q q1 : MT} {m : ME} (hc : X.calm = true) (hN : X.N.Nodup) (hi : PIm G X tg iter mi) (ok : BlkOk X.N X.env.scope scope own)
    (hg : ∀ (s : Shared) (H : Hp) (C : Addr) (cl : List (Str × Addr)) (fp : List Addr), PG (X.blk s H scope (compEnvC scope cl C X.env) fp) tg (gOf X.K t)) (ht : ∀ (s : Shared) (H : Hp) (C : Addr) (cl : List (Str × Addr)) (fp : List Addr), PTsm G (X.blk s H scope (compEnvC scope cl C X.env) fp) ifs q)
    (hi1 : ∀ (s : Shared) (H : Hp) (C : Addr) (cl : List (Str × Addr)) (fp : List Addr), PIm G (X.blk s H scope (compEnvC scope cl C X.env) fp) tg1 iter1 mi1)
    (hg1 : ∀ (s : Shared) (H : Hp) (C : Addr) (cl : List (Str × Addr)) (fp : List Addr), PG (X.blk s H scope (compEnvC scope cl C X.env) fp) tg1 (gOf X.K t1)) (ht1 : ∀ (s : Shared) (H : Hp) (C : Addr) (cl : List (Str × Addr)) (fp : List Addr), PTsm G (X.blk s H scope (compEnvC scope cl C X.env) fp) ifs1 q1)
    (he : ∀ (s : Shared) (H : Hp) (C : Addr) (cl : List (Str × Addr)) (fp : List Addr), PEm G (X.blk s H scope (compEnvC scope cl C X.env) fp) elt m) (hv : ∀ j ∈ t.slots, j ∈ own.map (·.2) := by decide) (hv1 : ∀ j ∈ t1.slots, j ∈ vs1 := by decide) (hv2 : ∀ i ∈ vs1, i ∈ own.map (·.2) := by decide) (hs : ∀ x, foldedSetIterable iter X.env x = pure x := by intro _; rfl) (hs1 : ∀ env x, foldedSetIterable iter1 env x = pure x := by intro _ _; rfl) :
    PEm G X (.ListComp elt [⟨tg, iter, ifs, 0⟩, ⟨tg1, iter1, ifs1, 0⟩] scope pos) (mLc2 mi t q mi1 t1 q1 m (own.map (·.2)) vs1) := fun W xk =>
  PE_imp (pe_lc2 hc hN (hi W xk) ok hv2 hg (fun s H C cl fp => ht s H C cl fp Wno (blk_ok xk.kk)) (fun s H C cl fp => hi1 s H C cl fp Wno (blk_ok xk.kk)) hg1 (fun s H C cl fp => ht1 s H C cl fp Wno (blk_ok xk.kk)) (fun s H C cl fp => he s H C cl fp Wno (blk_ok xk.kk)) hs hs1) fun σ H Q h => lc2_read xk.kk hv hv1 h
theorem ps_setLc2m {i : Nat} {y : Str} {py spos : Pos} {elt tg iter tg1 iter1 : Expr} {ifs ifs1 : List Expr} {scope : Scope} {own : List (Str × Nat)} {vs1 : List Nat} {pos : Pos} {mi mi1 : MI} {t t1 : Tg} {q q1 : MT} {m : ME} (hc : X.calm = true) (hN : X.N.Nodup) (hi : PIm G X tg iter mi) (ok : BlkOk X.N X.env.scope scope own)
    (hg : ∀ (s : Shared) (H : Hp) (C : Addr) (cl : List (Str × Addr)) (fp : List Addr), PG (X.blk s H scope (compEnvC scope cl C X.env) fp) tg (gOf X.K t)) (ht : ∀ (s : Shared) (H : Hp) (C : Addr) (cl : List (Str × Addr)) (fp : List Addr), PTsm G (X.blk s H scope (compEnvC scope cl C X.env) fp) ifs q)
    (hi1 : ∀ (s : Shared) (H : Hp) (C : Addr) (cl : List (Str × Addr)) (fp : List Addr), PIm G (X.blk s H scope (compEnvC scope cl C X.env) fp) tg1 iter1 mi1)
    (hg1 : ∀ (s : Shared) (H : Hp) (C : Addr) (cl : List (Str × Addr)) (fp : List Addr), PG (X.blk s H scope (compEnvC scope cl C X.env) fp) tg1 (gOf X.K t1)) (ht1 : ∀ (s : Shared) (H : Hp) (C : Addr) (cl : List (Str × Addr)) (fp : List Addr), PTsm G (X.blk s H scope (compEnvC scope cl C X.env) fp) ifs1 q1)
    (he : ∀ (s : Shared) (H : Hp) (C : Addr) (cl : List (Str × Addr)) (fp : List Addr), PEm G (X.blk s H scope (compEnvC scope cl C X.env) fp) elt m) (hv : ∀ j ∈ t.slots, j ∈ own.map (·.2) := by decide) (hv1 : ∀ j ∈ t1.slots, j ∈ vs1 := by decide) (hv2 : ∀ i ∈ vs1, i ∈ own.map (·.2) := by decide) (hs : ∀ x, foldedSetIterable iter X.env x = pure x := by intro _; rfl) (hs1 : ∀ env x, foldedSetIterable iter1 env x = pure x := by intro _ _; rfl)
    (hy : X.N[i]? = some y := by rfl) (hyl : X.env.scope.names.lookup y = some .local := by rfl) (hsw : swapsWith (.ListComp elt [⟨tg, iter, ifs, 0⟩, ⟨tg1, iter1, ifs1, 0⟩] scope pos) (some (.Name y py)) spos.line X.env = pure true := by exact sw_true rfl rfl rfl (by decide +kernel)) :
    PSm G X (.Assign [.Name y py] (.ListComp elt [⟨tg, iter, ifs, 0⟩, ⟨tg1, iter1, ifs1, 0⟩] scope pos) spos) (sSet i (mLc2 mi t q mi1 t1 q1 m (own.map (·.2)) vs1)) := fun W xk =>
  PS_imp (ps_setLc2 hc hN hy hyl hsw (hi W xk) ok hv2 hg (fun s H C cl fp => ht s H C cl fp Wno (blk_ok xk.kk)) (fun s H C cl fp => hi1 s H C cl fp Wno (blk_ok xk.kk)) hg1 (fun s H C cl fp => ht1 s H C cl fp Wno (blk_ok xk.kk)) (fun s H C cl fp => he s H C cl fp Wno (blk_ok xk.kk)) hs hs1) fun E σ H ⟨sd, S, ρ, hs, hr, h⟩ =>
    lc2_read xk.kk hv hv1 ⟨sd, S, ρ, hs, hr, AftS.bind h hs fun ρ1 H1 v d S1 le r1 rd h1 => h1 ρ1 H1 _ Le.refl r1 ((hs.mono le).set rd i)⟩
/-! ### stars -/
def seqOf (d : D) (S : Sto) : Option (List D) := match d with
  | .tup l => some l
  | .loc n => (match S.get n with
    | some (.lst l) => some l
    | _ => none)
  | _ => none
def mStar (a : ME) (r : MA) : MA := fun sd S => (a sd S).bind fun d S1 => match seqOf d S1 with
  | some l => (r sd S1).bind fun ys S2 => .ok (l ++ ys) S2
  | none => .stuck
theorem pa_starm {e : Expr} {es : List Expr} {m : ME} {r : MA} {p : Pos} (ha : PEm G X e m) (hr : PAm G X es r) (hs : starEach (.Starred e p :: es) X.env = (true, eval e X.env) :: starEach es X.env := by rfl) : PAm G X (.Starred e p :: es) (mStar m r) := fun W ok =>
  PA_imp (StX.pa_star (ha W ok) (hr W ok) hs) fun σ H Q ⟨sd, S, ρ, hs, hr, h⟩ => ⟨sd, S, ρ, hs, hr, Aft.bind h fun ρ1 H1 x d S1 le1 r1 rd h1 => by
    cases d with
    | tup l =>
      simp only [seqOf] at h1
      simp only [RelD] at rd
      obtain ⟨a, xs, rfl, hq, ht⟩ := rd
      exact ⟨a, xs, rfl, .inl (.inl (.inl hq)), sd, S1, ρ1, hs.mono le1, r1, Aft.bind h1 fun ρ2 H2 y ds S2 le2 r2 re h2 => h2.ok r2 ((ht.mono le2).append re)⟩
    | loc n =>
      simp only [seqOf] at h1
      cases e : S1.get n with
      | none => simp only [e] at h1; exact h1.elim
      | some cc =>
        cases cc with
        | lst l =>
          simp only [e] at h1
          obtain ⟨a, xs, rfl, e1, hH, ht⟩ := r1.list e rd
          exact ⟨a, xs, rfl, .inr (.inl (.inl hH)), sd, S1, ρ1, hs.mono le1, r1, Aft.bind h1 fun ρ2 H2 y ds S2 le2 r2 re h2 => h2.ok r2 ((ht.mono le2).append re)⟩
        | _ => simp only [e] at h1; exact h1.elim
    | _ => exact h1.elim⟩
/-! ### ranges -/
def rgD (a b : Int) : List D := (List.range (b - a).toNat).map fun i => D.int (a + (i : Nat))
def rgOk (a b : Int) : Bool := decide (-4611686018427387904 ≤ a ∧ a < 4611686018427387904 ∧ -4611686018427387904 ≤ b ∧ b < 4611686018427387904 ∧ (b - a).toNat ≤ 16777216)
theorem rgD_rel {a b : Int} : RelDs G ρ H (rgD a b) (rgV a b) := by
  unfold rgD rgV
  generalize List.range (b - a).toNat = l
  induction l with
  | nil => exact .nil
  | cons x r ih => exact .cons (by simp only [RelD]) ih
theorem rgOk_of {a b : Int} (h : rgOk a b = true) : RgOk a b := by
  unfold rgOk at h
  have := of_decide_eq_true h
  exact this
/-- range(n), range(i, j) as an argument -/
abbrev MR := SD → Sto → Res (Int × Int)
def tr (G : Glo) (m : MR) (W : WX) : L2.St → Hp → (Int → Int → Hp → Prop) → Prop := fun σ H Q => ∃ sd S ρ, RelSt G ρ H sd σ ∧ Rep G ρ S H ∧ Aft G (fun _ _ (a : Int × Int) (b : Int × Int) => a = b) ρ H (m sd S) (fun ab H' => Q ab.1 ab.2 H') (fun c d H' => W c d σ H')
def PRm (G : Glo) (X : Cx) (e : Expr) (m : MR) : Prop := ∀ W, XOk G X W → PRg X e (tr G m W)
def mRg1 (a : ME) : MR := fun sd S => (a sd S).bind fun d S1 => match d with
  | .int n => .ok (0, n) S1
  | _ => .stuck
def mRg2 (a b : ME) : MR := fun sd S => (a sd S).bind fun d S1 => (b sd S1).bind fun e S2 => match d, e with
  | .int i, .int j => .ok (i, j) S2
  | _, _ => .stuck
theorem PRg_imp {e : Expr} {t t' : L2.St → Hp → (Int → Int → Hp → Prop) → Prop} (h : PRg X e t) (f : ∀ σ H Q, t' σ H Q → t σ H Q) : PRg X e t' := fun pins s σ H Q I q => h pins s σ H Q I (f σ H Q q)
theorem pr_1 {a : Expr} {ma : ME} {p pos : Pos} (hg : Gl X "range") (hm : X.mg "range" = none) (ha : PEm G X a ma) (na : starEach [a] X.env = (false, eval a X.env) :: starEach [] X.env := by rfl) : PRm G X (.Call (.Name "range" p) [a] [] pos) (mRg1 ma) := fun W ok =>
  PRg_imp (prg_1 hg hm (ha W ok) na) fun σ H Q ⟨sd, S, ρ, hs, hr, h⟩ => ⟨sd, S, ρ, hs, hr, Aft.bind h fun ρ1 H1 x d S1 le1 r1 rd h1 => by
    cases d with
    | int n =>
      simp only [RelD] at rd
      exact ⟨n, rd, h1 ρ1 H1 (0, n) Le.refl r1 rfl⟩
    | _ => exact h1.elim⟩
theorem pr_2 {a b : Expr} {ma mb : ME} {p pos : Pos} (hg : Gl X "range") (hm : X.mg "range" = none) (ha : PEm G X a ma) (hb : PEm G X b mb) (na : starEach [a, b] X.env = (false, eval a X.env) :: starEach [b] X.env := by rfl)
    (nb : starEach [b] X.env = (false, eval b X.env) :: starEach [] X.env := by rfl) (hp : (backTo pos (starEach [b] X.env)).any (·.1) = false := by rfl) : PRm G X (.Call (.Name "range" p) [a, b] [] pos) (mRg2 ma mb) := fun W ok =>
  PRg_imp (prg_2 hg hm (ha W ok) (hb W ok) na nb hp) fun σ H Q ⟨sd, S, ρ, hs, hr, h⟩ => ⟨sd, S, ρ, hs, hr, Aft.bind h fun ρ1 H1 x d S1 le1 r1 rd h1 => ⟨sd, S1, ρ1, hs.mono le1, r1, Aft.bind h1 fun ρ2 H2 y e S2 le2 r2 re h2 => by
    cases d with
    | int i =>
      cases e with
      | int j =>
        simp only [RelD] at rd re
        exact ⟨i, j, rd, re, h2 ρ2 H2 (i, j) Le.refl r2 rfl⟩
      | _ => exact h2.elim
    | _ => exact h2.elim⟩⟩
def mLstRg (m : MR) : ME := fun sd S => (m sd S).bind fun ab S1 => if rgOk ab.1 ab.2 then .ok (.loc S1.n) (S1.new (.lst (rgD ab.1 ab.2))) else .stuck
def mTupRg (m : MR) : ME := fun sd S => (m sd S).bind fun ab S1 => if rgOk ab.1 ab.2 then .ok (.tup (rgD ab.1 ab.2)) S1 else .stuck
theorem pm_listRg {e : Expr} {m : MR} {p pos : Pos} (hc : X.calm = true) (hg : Gl X "list") (hm : X.mg "list" = none) (he : PRm G X e m) (na : starEach [e] X.env = (false, eval e X.env) :: starEach [] X.env := by rfl) : PEm G X (.Call (.Name "list" p) [e] [] pos) (mLstRg m) := fun W ok =>
  PE_imp (pe_listRg hc hg hm (he W ok) na) fun σ H Q ⟨sd, S, ρ, hs, hr, h⟩ => ⟨sd, S, ρ, hs, hr, Aft.bind h fun ρ1 H1 ab ab' S1 le1 r1 rd h1 => by
    have rd : ab' = ab := rd
    subst rd
    split at h1
    · rename_i hk
      refine ⟨rgOk_of hk, fun q hq => ?_⟩
      have le : Le G ρ1 H1 (ext ρ1 S1.n q) (upd H1 q (.lst (rgV ab'.1 ab'.2))) := (Le.ext (r1.top _ (Nat.le_refl _))).trans (Le.same (same_new hq))
      exact h1 _ _ _ le (r1.new hq ⟨_, upd_same, rgD_rel⟩) (RelD.loc' ext_same)
    · exact h1.elim⟩
theorem pm_tupRg {e : Expr} {m : MR} {p pos : Pos} (hc : X.calm = true) (hg : Gl X "tuple") (hm : X.mg "tuple" = none) (he : PRm G X e m) (na : starEach [e] X.env = (false, eval e X.env) :: starEach [] X.env := by rfl) : PEm G X (.Call (.Name "tuple" p) [e] [] pos) (mTupRg m) := fun W ok =>
  PE_imp (pe_tupRg hc hg hm (he W ok) na) fun σ H Q ⟨sd, S, ρ, hs, hr, h⟩ => ⟨sd, S, ρ, hs, hr, Aft.bind h fun ρ1 H1 ab ab' S1 le1 r1 rd h1 => by
    have rd : ab' = ab := rd
    subst rd
    split at h1
    · rename_i hk
      refine ⟨rgOk_of hk, fun q hq => ?_⟩
      have s := same_new (o := .tup (rgV ab'.1 ab'.2)) hq
      exact h1 ρ1 _ _ (Le.same s) (r1.same s) (RelD.tup' upd_same rgD_rel)
    · exact h1.elim⟩
/-- *range(..) -/
def mStarR (m : MR) (r : MA) : MA := fun sd S => (m sd S).bind fun ab S1 => if rgOk ab.1 ab.2 then (r sd S1).bind fun ys S2 => .ok (rgD ab.1 ab.2 ++ ys) S2 else .stuck
theorem star_rng {pins : List (Addr × Obj)} {s : Shared} {σ : L2.St} {r : Addr} {a b : Int} {t u v : Tok} {E : Value → Shared → Prop} {Q : List Value → Shared → Prop} (hc : X.calm = true) (I : Inv X pins σ H s) (hr : IsRange s.heap r a b 1 t u v) (ok : RgOk a b) (hQ : ∀ us s', Inv X pins σ H s' → Vals (rgV a b) us → Q us s') : PySem.W.StarOf (model X.prog X.w) X.A E (.ref r) Q s := by
  obtain ⟨b1, b2, b3, b4, b5⟩ := ok
  have hT : s.TypeIs (.ref r) "range" := ⟨_, hr, rfl⟩
  have z : wpAny (model X.prog X.w) X.A (collect (.ref r)) Q E s := collect_range (n := (b - a).toNat) (I.ok.hd hc) hr (small_one b1 b2 b3 b4) (rangeSize_nat a b) b5 fun h' tk acc hk hi => hQ _ _ (I.kept hk) (vals_rg hi)
  unfold PySem.W.StarOf notIterableAtAll
  exact wpAny_bind (wpAny_specialOf hT PySem.F.slot_range_iter.lookup (wpAny_pure ⟨rfl, z⟩))
theorem pa_starRm {e : Expr} {es : List Expr} {m : MR} {r : MA} {p : Pos} (hc : X.calm = true) (he : PRm G X e m) (hr : PAm G X es r) (hs : starEach (.Starred e p :: es) X.env = (true, eval e X.env) :: starEach es X.env := by rfl) : PAm G X (.Starred e p :: es) (mStarR m r) := fun W ok => by
  refine ⟨fun pos pins s σ H Q I h => ?_⟩
  obtain ⟨sd, S, ρ, hst, rp, h⟩ := h
  have t : tr G m W σ H (fun a b H1 => RgOk a b ∧ ∃ S1 ρ1, RelSt G ρ1 H1 sd σ ∧ Rep G ρ1 S1 H1 ∧ Aft G (RelDs G) ρ1 H1 ((r sd S1).bind fun ys S2 => .ok (rgD a b ++ ys) S2) Q (fun c d H' => W c d σ H')) := ⟨sd, S, ρ, hst, rp, Aft.bind h fun ρ1 H1 ab ab' S1 le1 r1 rd h1 => by
    have rd : ab' = ab := rd
    subst rd
    split at h1
    · rename_i hk
      exact ⟨rgOk_of hk, S1, ρ1, hst.mono le1, r1, h1⟩
    · exact h1.elim⟩
  refine PySem.W.items_star (thn (he W ok pins s σ H _ I t) fun x s1 ⟨q, a, b, t1, t2, t3, H1, ex, hr1, I1, rk, S1, ρ1, hs1, rp1, h1⟩ => ?_) hs
  subst ex
  refine star_rng hc I1 hr1 rk fun us s2 I2 rv => ?_
  have t2 : ta G r W σ H1 (fun ys H2 => Q (rgV a b ++ ys) H2) := ⟨sd, S1, ρ1, hs1, rp1, Aft.bind h1 fun ρ2 H2 ys ds S2 le2 r2 re h2 => h2.ok r2 (rgD_rel.append re)⟩
  exact thn ((hr W ok).run pos pins s2 σ H1 _ I2 t2) fun ws s3 ⟨vs, H3, I3, r3, q3⟩ => ⟨rgV a b ++ vs, H3, I3, rv.append r3, q3⟩
end
end Y

/-! Zh: pop, extend, insert, setdefault; slices; two subscripts stored at once. -/
namespace Y
open PySem PySem.Spec PyProof.Rows L2
section
variable {G : Glo} {X : Cx} {ρ : Rho} {H : Hp} {S : Sto}
/-! ### methods of lists that answer and leave another list -/
def fLm (fm : Sto → List D → List D → Option (D × List D)) (o : D) (as : List D) (S : Sto) : Res D := match o with
  | .loc n => (match S.get n with
    | some (.lst l) => (match fm S l as with
      | some (r, l') => .ok r (S.set n (.lst l'))
      | none => .stuck)
    | _ => .stuck)
  | _ => .stuck
/-- a method's reading takes what the mirror tells -/
def LmOk (G : Glo) (r : V → List V → Hp → VK → Prop) (fm : Sto → List D → List D → Option (D × List D)) : Prop := ∀ (ρ : Rho) (H : Hp) (S : Sto) (p : Addr) (n : Nat) (l ds l' : List D) (xs vs : List V) (rd : D) (Q : VK),
  Rep G ρ S H → S.get n = some (.lst l) → ρ n = some p → H p = some (.lst xs) → RelDs G ρ H l xs → RelDs G ρ H ds vs → fm S l ds = some (rd, l') → (∀ y xs', RelD G ρ H rd y → RelDs G ρ H l' xs' → Q y (upd H p (.lst xs'))) → r (.ref p) vs H Q
theorem lm_read {r : V → List V → Hp → VK → Prop} {fm : Sto → List D → List D → Option (D × List D)} (hl : LmOk G r fm) {p : Addr} {o : D} {ds : List D} {vs : List V} {Q : VK} {W : XK} (rp : Rep G ρ S H) (rd : RelD G ρ H o (.ref p)) (rds : RelDs G ρ H ds vs) (h : Aft G (RelD G) ρ H (fLm fm o ds S) Q W) : r (.ref p) vs H Q := by
  unfold fLm at h
  split at h
  · rename_i n
    split at h
    · rename_i l el
      split at h
      · rename_i y l' ef
        obtain ⟨p2, xs, ep, e6, hH, ht⟩ := rp.list el rd
        cases ep
        refine hl ρ H S p n l ds l' xs vs y Q rp el e6 hH ht rds ef fun z xs' rz rx => ?_
        have w : Wr1 (H p) := by rw [hH]; exact trivial
        have lw := Le.upd (G := G) (ρ := ρ) (o := .lst xs') w.wr
        exact h ρ _ z lw (rp.set (c' := .lst l') el e6 w ⟨_, upd_same, rx.mono lw⟩) (rz.mono lw)
      · exact h.elim
    · exact h.elim
  · exact h.elim
theorem isLst_ref {o : D} {v : V} (rp : Rep G ρ S H) (rd : RelD G ρ H o v) (h : isLst o S = true) : ∃ p xs, v = .ref p ∧ H p = some (.lst xs) := by
  unfold isLst at h
  split at h
  · rename_i n
    split at h
    · rename_i l el
      obtain ⟨p, xs, e1, e2, e3, _⟩ := rp.list el rd
      exact ⟨p, xs, e1, e3⟩
    · cases h
  · cases h
theorem pm_lm0 {o : Expr} {mo : ME} {name : Str} {id : String} {r : V → List V → Hp → VK → Prop} {fm : Sto → List D → List D → Option (D × List D)} {apos cpos : Pos} (slot : Slot "list" name id) (hty : typeOf (.builtin id) = pure (.type "method_descriptor")) (hm : MtR X id r) (hl : LmOk G r fm) (ho : PEm G X o mo)
    (hbase : attributeBase o name X.env (eval o X.env) = eval o X.env := by rfl) (hline : (apos.endLine == cpos.line) = true := by rfl) : PEm G X (.Call (.Attribute o name apos) [] [] cpos) (mMeth isLst (fLm fm) mo mNil) := fun W ok =>
  PE_imp (pe_bm0 PySem.F.plainAttrs_list slot hty hm (ho W ok) hbase hline) fun σ H Q ⟨sd, S, ρ, hs, hr, h⟩ => ⟨sd, S, ρ, hs, hr, Aft.bind h fun ρ1 H1 v d S1 le1 r1 rd h1 => by
    split at h1
    · rename_i hi
      obtain ⟨p, xs, rfl, hH⟩ := isLst_ref r1 rd hi
      exact ⟨.inl ⟨rfl, xs, .inl (.inl hH)⟩, lm_read hl r1 rd .nil h1⟩
    · exact h1.elim⟩
theorem pm_lm {o e : Expr} {es : List Expr} {mo : ME} {ma : MA} {name : Str} {id : String} {r : V → List V → Hp → VK → Prop} {fm : Sto → List D → List D → Option (D × List D)} {apos cpos : Pos} (slot : Slot "list" name id) (hty : typeOf (.builtin id) = pure (.type "method_descriptor")) (hm : MtR X id r) (hl : LmOk G r fm) (ho : PEm G X o mo) (ha : PAm G X (e :: es) ma)
    (hbase : attributeBase o name X.env (eval o X.env) = eval o X.env := by rfl)
    (hfew : ((backTo cpos (starEach (e :: es) X.env)).all (fun x => !x.1) && (backToKw cpos (keywordEach [] X.env)).all (fun x => x.1.isSome) && decide ((e :: es).length + ([] : List Keyword).length + (if ([] : List Keyword).isEmpty then 0 else 1) < 30)) = true := by rfl)
    (hline : (apos.endLine == cpos.line) = true := by rfl) (hs : starEach (e :: es) X.env = (false, eval e X.env) :: starEach es X.env := by rfl) (hplain : (backTo cpos (starEach es X.env)).any (·.1) = false := by rfl) :
    PEm G X (.Call (.Attribute o name apos) (e :: es) [] cpos) (mMeth isLst (fLm fm) mo ma) := fun W ok =>
  PE_imp (pe_bm PySem.F.plainAttrs_list slot hty hm (ho W ok) (ha W ok) hbase hfew hline hs hplain) fun σ H Q ⟨sd, S, ρ, hs, hr, h⟩ => ⟨sd, S, ρ, hs, hr, Aft.bind h fun ρ1 H1 v d S1 le1 r1 rd h1 => by
    split at h1
    · rename_i hi
      obtain ⟨p, xs, rfl, hH⟩ := isLst_ref r1 rd hi
      exact ⟨.inl ⟨rfl, xs, .inl (.inl hH)⟩, sd, S1, ρ1, hs.mono le1, r1, Aft.bind h1 fun ρ2 H2 vs ds S2 le2 r2 rds h2 => lm_read hl r2 (rd.mono le2) rds h2⟩
    · exact h1.elim⟩
theorem RelDs.dropLast : ∀ {l : List D} {xs : List V}, RelDs G ρ H l xs → RelDs G ρ H l.dropLast xs.dropLast := fun {l xs} h => by
  rw [List.dropLast_eq_take, List.dropLast_eq_take, h.length]
  exact h.take _
theorem RelDs.eraseIdx (k : Nat) : ∀ {l : List D} {xs : List V}, RelDs G ρ H l xs → RelDs G ρ H (l.eraseIdx k) (xs.eraseIdx k) := fun {l xs} h => by
  rw [List.eraseIdx_eq_take_drop_succ, List.eraseIdx_eq_take_drop_succ]
  exact (h.take _).append (h.drop _)
def lmPop (_ : Sto) (l as : List D) : Option (D × List D) := match as with
  | [] => l.getLast?.map fun y => (y, l.dropLast)
  | _ => none
theorem lm_pop : LmOk G rPop lmPop := fun ρ H S p n l ds l' xs vs rd Q rp el ep hH ht rds ef k => by
  unfold lmPop at ef
  split at ef
  · simp only [RelDs] at rds
    subst rds
    rw [Option.map_eq_some_iff] at ef
    obtain ⟨y, e1, e2⟩ := ef
    cases e2
    rw [List.getLast?_eq_getElem?] at e1
    obtain ⟨v, e3, rv⟩ := ht.get e1
    rw [ht.length] at e3
    exact ⟨p, xs, v, rfl, rfl, hH, e3, k v _ rv ht.dropLast⟩
  · cases ef
theorem pm_pop {o : Expr} {mo : ME} {apos cpos : Pos} (ho : PEm G X o mo) (hbase : attributeBase o "pop" X.env (eval o X.env) = eval o X.env := by rfl) (hline : (apos.endLine == cpos.line) = true := by rfl) : PEm G X (.Call (.Attribute o "pop" apos) [] [] cpos) (mMeth isLst (fLm lmPop) mo mNil) :=
  pm_lm0 PySem.F.slot_list_pop PySem.F.type_list_pop mt_pop lm_pop ho hbase hline
def lmPopAt (_ : Sto) (l as : List D) : Option (D × List D) := match as with
  | [.int i] => if -9223372036854775808 ≤ i ∧ i < 9223372036854775808 then (match seqIndex? i l.length with
    | some k => l[k]?.map fun y => (y, l.eraseIdx k)
    | none => none) else none
  | _ => none
theorem lm_popAt : LmOk G rPopAt lmPopAt := fun ρ H S p n l ds l' xs vs rd Q rp el ep hH ht rds ef k => by
  unfold lmPopAt at ef
  split at ef
  · rename_i i
    simp only [RelDs, RelD] at rds
    obtain ⟨v, _, rfl, rfl, rfl⟩ := rds
    split at ef
    · rename_i hb
      split at ef
      · rename_i j ej
        rw [Option.map_eq_some_iff] at ef
        obtain ⟨y, e1, e2⟩ := ef
        cases e2
        obtain ⟨w, e3, rw_⟩ := ht.get e1
        exact ⟨p, xs, i, j, w, rfl, rfl, hH, hb.1, hb.2, by rw [← ht.length]; exact ej, e3, k w _ rw_ (ht.eraseIdx j)⟩
      · cases ef
    · cases ef
  · cases ef
theorem pm_popAt {o e : Expr} {mo me : ME} {apos cpos : Pos} (ho : PEm G X o mo) (he : PEm G X e me) (hbase : attributeBase o "pop" X.env (eval o X.env) = eval o X.env := by rfl)
    (hfew : ((backTo cpos (starEach [e] X.env)).all (fun x => !x.1) && (backToKw cpos (keywordEach [] X.env)).all (fun x => x.1.isSome) && decide (([e] : List Expr).length + ([] : List Keyword).length + (if ([] : List Keyword).isEmpty then 0 else 1) < 30)) = true := by rfl)
    (hline : (apos.endLine == cpos.line) = true := by rfl) (hs : starEach [e] X.env = (false, eval e X.env) :: starEach [] X.env := by rfl) (hplain : (backTo cpos (starEach [] X.env)).any (·.1) = false := by rfl) :
    PEm G X (.Call (.Attribute o "pop" apos) [e] [] cpos) (mMeth isLst (fLm lmPopAt) mo (mCons me mNil)) := pm_lm PySem.F.slot_list_pop PySem.F.type_list_pop mt_popAt lm_popAt ho (pa_consm he pa_nilm hs) hbase hfew hline hs hplain
def lmExtend (S : Sto) (l as : List D) : Option (D × List D) := match as with
  | [.loc m] => (match S.get m with
    | some (.lst l2) => if l.length + l2.length ≤ 16777216 then some (.non, l ++ l2) else none
    | _ => none)
  | _ => none
theorem lm_extend : LmOk G rExtend lmExtend := fun ρ H S p n l ds l' xs vs rd Q rp el ep hH ht rds ef k => by
  unfold lmExtend at ef
  split at ef
  · rename_i m
    simp only [RelDs] at rds
    obtain ⟨v, _, rfl, rv, rfl⟩ := rds
    split at ef
    · rename_i l2 el2
      split at ef
      · rename_i hlen
        cases ef
        obtain ⟨q, zs, rfl, _, hQ, hz⟩ := rp.list el2 rv
        exact ⟨p, q, xs, zs, rfl, rfl, hH, hQ, by rw [← ht.length, ← hz.length, sizeLine_eq]; exact hlen, k .non _ rel_non (ht.append hz)⟩
      · cases ef
    · cases ef
  · cases ef
theorem pm_extend {o e : Expr} {mo me : ME} {apos cpos : Pos} (ho : PEm G X o mo) (he : PEm G X e me) (hbase : attributeBase o "extend" X.env (eval o X.env) = eval o X.env := by rfl)
    (hfew : ((backTo cpos (starEach [e] X.env)).all (fun x => !x.1) && (backToKw cpos (keywordEach [] X.env)).all (fun x => x.1.isSome) && decide (([e] : List Expr).length + ([] : List Keyword).length + (if ([] : List Keyword).isEmpty then 0 else 1) < 30)) = true := by rfl)
    (hline : (apos.endLine == cpos.line) = true := by rfl) (hs : starEach [e] X.env = (false, eval e X.env) :: starEach [] X.env := by rfl) (hplain : (backTo cpos (starEach [] X.env)).any (·.1) = false := by rfl) :
    PEm G X (.Call (.Attribute o "extend" apos) [e] [] cpos) (mMeth isLst (fLm lmExtend) mo (mCons me mNil)) := pm_lm PySem.F.slot_list_extend PySem.F.type_list_extend mt_extend lm_extend ho (pa_consm he pa_nilm hs) hbase hfew hline hs hplain
def lmInsert (_ : Sto) (l as : List D) : Option (D × List D) := match as with
  | [.int i, y] => if l.length < 16777216 ∧ 0 ≤ i ∧ i < 9223372036854775808 then some (.non, l.take i.toNat ++ [y] ++ l.drop i.toNat) else none
  | _ => none
theorem lm_insert : LmOk G (fun x vs H Q => ∃ (l : Addr) (xs : List V) (i : Int) (y : V), x = .ref l ∧ vs = [.int i, y] ∧ H l = some (.lst xs) ∧ xs.length < sizeLine ∧ 0 ≤ i ∧ i < 2 ^ 63 ∧ Q .non (upd H l (.lst (xs.take i.toNat ++ [y] ++ xs.drop i.toNat)))) lmInsert := fun ρ H S p n l ds l' xs vs rd Q rp el ep hH ht rds ef k => by
  unfold lmInsert at ef
  split at ef
  · rename_i i y
    simp only [RelDs, RelD] at rds
    obtain ⟨v, _, rfl, rfl, w, _, rfl, rw_, rfl⟩ := rds
    split at ef
    · rename_i hb
      cases ef
      exact ⟨p, xs, i, w, rfl, rfl, hH, by rw [← ht.length, sizeLine_eq]; exact hb.1, hb.2.1, hb.2.2, k .non _ rel_non (((ht.take _).append (.one rw_)).append (ht.drop _))⟩
    · cases ef
  · cases ef
theorem pm_insert {o e f : Expr} {mo me mf : ME} {apos cpos : Pos} (ho : PEm G X o mo) (he : PEm G X e me) (hf : PEm G X f mf) (hbase : attributeBase o "insert" X.env (eval o X.env) = eval o X.env := by rfl)
    (hfew : ((backTo cpos (starEach [e, f] X.env)).all (fun x => !x.1) && (backToKw cpos (keywordEach [] X.env)).all (fun x => x.1.isSome) && decide (([e, f] : List Expr).length + ([] : List Keyword).length + (if ([] : List Keyword).isEmpty then 0 else 1) < 30)) = true := by rfl)
    (hline : (apos.endLine == cpos.line) = true := by rfl) (hs : starEach [e, f] X.env = (false, eval e X.env) :: starEach [f] X.env := by rfl) (hs2 : starEach [f] X.env = (false, eval f X.env) :: starEach [] X.env := by rfl) (hplain : (backTo cpos (starEach [f] X.env)).any (·.1) = false := by rfl) :
    PEm G X (.Call (.Attribute o "insert" apos) [e, f] [] cpos) (mMeth isLst (fLm lmInsert) mo (mCons me (mCons mf mNil))) := pm_lm PySem.F.slot_list_insert PySem.F.type_list_insert mt_insert lm_insert ho (pa_consm he (pa_consm hf pa_nilm hs2) hs) hbase hfew hline hs hplain
/-! ### two subscripts stored at once -/
def sSt2 (f : D → D → D → Sto → Option Sto) (o1 i1 o2 i2 : ME) (m : MA) : MS := fun sd S => bindS (m sd S) sd fun l S1 => match l with
  | [d, e] => bindS (o1 sd S1) sd fun od S2 => bindS (i1 sd S2) sd fun id S3 => (match f od id d S3 with
    | some S4 => bindS (o2 sd S4) sd fun od2 S5 => bindS (i2 sd S5) sd fun id2 S6 => (match f od2 id2 e S6 with
      | some S7 => .nx sd S7
      | none => .stuck)
    | none => .stuck)
  | _ => .stuck
theorem ps_st2 {f : D → D → D → Sto → Option Sto} {o1 i1 o2 i2 : Expr} {es : List Expr} {k1 k2 : Nat} {mo1 mi1 mo2 mi2 : ME} {ma : MA} {pos p1 p2 p3 p4 : Pos} (hc : X.calm = true) (hf : SetM G X f) (h1 : PEm G X o1 mo1) (h2 : PEm G X i1 mi1) (h3 : PEm G X o2 mo2) (h4 : PEm G X i2 mi2) (he : PAm G X es ma)
    (hs : swapsWithSole [.Tuple [.Subscript o1 i1 p1, .Subscript o2 i2 p2] k1 p3] (.Tuple es k2 p4) pos.line X.env = pure false := by rfl) (hw : swappedStores [.Tuple [.Subscript o1 i1 p1, .Subscript o2 i2 p2] k1 p3] (.Tuple es k2 p4) X.env = pure none := by rfl)
    (hx : (assignEach [.Tuple [.Subscript o1 i1 p1, .Subscript o2 i2 p2] k1 p3] X.env).map (·.2) = [assign (.Tuple [.Subscript o1 i1 p1, .Subscript o2 i2 p2] k1 p3) X.env] := by rfl)
    (ha1 : ∀ v, assign (.Subscript o1 i1 p1) X.env v = (do
      let ov ← holding [v] (eval o1 X.env)
      let iv ← holding [v, ov] (eval i1 X.env)
      standAt p1
      holding [v, ov, iv] (setItem ov iv v)
      release [v, ov, iv] []) := by intro _; rfl)
    (ha2 : ∀ v, assign (.Subscript o2 i2 p2) X.env v = (do
      let ov ← holding [v] (eval o2 X.env)
      let iv ← holding [v, ov] (eval i2 X.env)
      standAt p2
      holding [v, ov, iv] (setItem ov iv v)
      release [v, ov, iv] []) := by intro _; rfl)
    (hn : (assignEach [.Subscript o1 i1 p1, .Subscript o2 i2 p2] X.env).length = 2 := by rfl) (hst : (assignEach [.Subscript o1 i1 p1, .Subscript o2 i2 p2] X.env).findIdx? (·.1) = none := by rfl)
    (hm1 : (assignEach [.Subscript o1 i1 p1, .Subscript o2 i2 p2] X.env).map (·.2) = assign (.Subscript o1 i1 p1) X.env :: (assignEach [.Subscript o2 i2 p2] X.env).map (·.2) := by rfl) (hm2 : (assignEach [.Subscript o2 i2 p2] X.env).map (·.2) = assign (.Subscript o2 i2 p2) X.env :: (assignEach [] X.env).map (·.2) := by rfl) :
    PSm G X (.Assign [.Tuple [.Subscript o1 i1 p1, .Subscript o2 i2 p2] k1 p3] (.Tuple es k2 p4) pos) (sSt2 f mo1 mi1 mo2 mi2 ma) := fun W ok => by
  let T : TSet := fun x y z H Q => ∃ ρ S S' od id vd, Rep G ρ S H ∧ RelD G ρ H od x ∧ RelD G ρ H id y ∧ RelD G ρ H vd z ∧ f od id vd S = some S' ∧ ∀ H', Le G ρ H ρ H' → Rep G ρ S' H' → Q H'
  have ps : PSet X T := fun pins s σ H x y z ov iv u Q I ro ri rv ⟨ρ, S, S', od, id, vd, rp, r1, r2, r3, e, k⟩ =>
    wpAny_mono (hf ok.kk pins s σ H ρ S S' x y z ov iv u od id vd I ro ri rv rp r1 r2 r3 e) (fun _ s' ⟨H', I', le, rp'⟩ => ⟨H', I', k H' le rp'⟩) fun _ _ h => h
  refine PS_imp (ps_asg (pm_tup (x1 := k2) (pos := p4) he W ok) (pg_tup hc (pgs_cons (pg_sub (h1 W ok) (h2 W ok) ps ha1) (pgs_cons (pg_sub (h3 W ok) (h4 W ok) ps ha2) pgs_nil hm2) hm1) hn hst) hs hw hx) fun E σ H ⟨sd, S, ρ, hsd, hr, h⟩ => ?_
  refine ⟨sd, S, ρ, hsd, hr, ?_⟩
  have key : ∀ r : Res (List D), AftS G ρ H (bindS r sd fun l S1 => match l with
      | [d, e] => bindS (mo1 sd S1) sd fun od S2 => bindS (mi1 sd S2) sd fun id S3 => (match f od id d S3 with
        | some S4 => bindS (mo2 sd S4) sd fun od2 S5 => bindS (mi2 sd S5) sd fun id2 S6 => (match f od2 id2 e S6 with
          | some S7 => .nx sd S7
          | none => .stuck)
        | none => .stuck)
      | _ => .stuck) E W → Aft G (RelD G) ρ H (r.bind fun l S1 => if l.length ≤ 16777216 then .ok (.tup l) S1 else .stuck) (fun v H' => gTup X.K 2 (gCons (gSub (te G mo1 W) (te G mi1 W) T) (gCons (gSub (te G mo2 W) (te G mi2 W) T) gNil)) v σ H' E.nx) (fun c d H' => W c d σ H') := fun r h => by
    induction r with
    | exc x S1 => exact fun ρ1 H1 c d le rp rx => h ρ1 H1 σ c d le rp (hsd.mono le) rx
    | stuck => exact h.elim
    | pick t g ih => exact fun i hi => ih i (h i hi)
    | ok l S1 =>
      match l, h with
      | [], h => exact h.elim
      | [_], h => exact h.elim
      | _ :: _ :: _ :: _, h => exact h.elim
      | [d, e], h =>
        show Aft G (RelD G) ρ H (.ok (.tup [d, e]) S1) _ _
        intro ρ1 H1 v le1 r1 rd
        simp only [RelD] at rd
        obtain ⟨a, xs, rfl, hq, ht⟩ := rd
        simp only [RelDs] at ht
        obtain ⟨v1, _, rfl, rv1, v2, _, rfl, rv2, rfl⟩ := ht
        refine ⟨a, _, rfl, .inl (.inl hq), rfl, v1, _, rfl, ?_⟩
        have h1 : AftS G ρ1 H1 (bindS (mo1 sd S1) sd fun od S2 => bindS (mi1 sd S2) sd fun id S3 => (match f od id d S3 with
          | some S4 => bindS (mo2 sd S4) sd fun od2 S5 => bindS (mi2 sd S5) sd fun id2 S6 => (match f od2 id2 e S6 with
            | some S7 => .nx sd S7
            | none => .stuck)
          | none => .stuck)) E W := AftS.le h le1
        refine ⟨sd, S1, ρ1, hsd.mono le1, r1, AftS.bind h1 (hsd.mono le1) fun ρ2 H2 ov od S2 le2 r2 rod h2 => ?_⟩
        refine ⟨sd, S2, ρ2, (hsd.mono le1).mono le2, r2, AftS.bind h2 ((hsd.mono le1).mono le2) fun ρ3 H3 iv id S3 le3 r3 rid h3 => ?_⟩
        cases ef : f od id d S3 with
        | none => simp only [ef] at h3; exact h3.elim
        | some S4 =>
          simp only [ef] at h3
          refine ⟨ρ3, S3, S4, od, id, d, r3, rod.mono le3, rid, (rv1.mono le2).mono le3, ef, fun H4 le4 rp4 => ?_⟩
          have hs4 := (((hsd.mono le1).mono le2).mono le3).mono le4
          refine ⟨v2, [], rfl, ?_⟩
          refine ⟨sd, S4, ρ3, hs4, rp4, AftS.bind (h3.le le4) hs4 fun ρ5 H5 ov2 od2 S5 le5 r5 rod2 h5 => ?_⟩
          refine ⟨sd, S5, ρ5, hs4.mono le5, r5, AftS.bind h5 (hs4.mono le5) fun ρ6 H6 iv2 id2 S6 le6 r6 rid2 h6 => ?_⟩
          cases ef2 : f od2 id2 e S6 with
          | none => simp only [ef2] at h6; exact h6.elim
          | some S7 =>
            simp only [ef2] at h6
            exact ⟨ρ6, S6, S7, od2, id2, e, r6, rod2.mono le6, rid2, (((((rv2.mono le2).mono le3).mono le4).mono le5).mono le6), ef2, fun H7 le7 rp7 => ⟨rfl, h6 ρ6 H7 σ le7 rp7 (((hs4.mono le5).mono le6).mono le7)⟩⟩
  exact key _ h
end
end Y

/-! Zi: slices, setdefault. -/
namespace Y
open PySem PySem.Spec PyProof.Rows L2
section
variable {G : Glo} {X : Cx} {ρ : Rho} {H : Hp} {S : Sto}
/-! ### slices -/
abbrev MO := SD → Sto → Res (Option Int)
def to (G : Glo) (m : MO) (W : WX) : TO := fun σ H Q => ∃ sd S ρ, RelSt G ρ H sd σ ∧ Rep G ρ S H ∧ Aft G (fun _ _ (a b : Option Int) => a = b) ρ H (m sd S) Q (fun c d H' => W c d σ H')
def POm (G : Glo) (X : Cx) (e : Option Expr) (m : MO) : Prop := ∀ W, XOk G X W → PO X e (to G m W)
theorem PO_imp {e : Option Expr} {t t' : TO} (h : PO X e t) (f : ∀ σ H Q, t' σ H Q → t σ H Q) : PO X e t' := ⟨fun pins s σ H Q I q => h.run pins s σ H Q I (f σ H Q q)⟩
def mNoPart : MO := fun _ S => .ok none S
def mPart (m : ME) : MO := fun sd S => (m sd S).bind fun d S1 => match d with
  | .int i => .ok (some i) S1
  | _ => .stuck
theorem po_nonem : POm G X none mNoPart := fun W ok => PO_imp po_none fun σ H Q ⟨sd, S, ρ, hs, hr, h⟩ => h ρ H none Le.refl hr rfl
theorem po_somem {e : Expr} {m : ME} (he : PEm G X e m) : POm G X (some e) (mPart m) := fun W ok => PO_imp (po_some (he W ok)) fun σ H Q ⟨sd, S, ρ, hs, hr, h⟩ => ⟨sd, S, ρ, hs, hr, Aft.bind h fun ρ1 H1 v d S1 le r1 rd h1 => by
  cases d with
  | int i =>
    simp only [RelD] at rd
    exact ⟨i, rd, h1 ρ1 H1 (some i) Le.refl r1 rfl⟩
  | _ => exact h1.elim⟩
def cutL {α : Type} (l : List α) (lo hi : Option Int) : List α := (l.drop (HT.sIx l.length 0 lo)).take (HT.sIx l.length l.length hi - HT.sIx l.length 0 lo)
theorem cut_rel {l : List D} {xs : List V} {lo hi : Option Int} (h : RelDs G ρ H l xs) : RelDs G ρ H (cutL l lo hi) (cutV xs lo hi) := by
  unfold cutL cutV
  rw [h.length]
  exact (h.drop _).take _
theorem cut_all {α : Type} {l : List α} {lo hi : Option Int} (h1 : HT.sIx l.length 0 lo = 0) (h2 : HT.sIx l.length l.length hi = l.length) : cutL l lo hi = l := by
  unfold cutL
  rw [h1, h2]
  simp
def slD (d : D) (lo hi : Option Int) (S : Sto) : Res D := match d with
  | .tup l => .ok (.tup (cutL l lo hi)) S
  | .str x => if x.length ≤ 16777216 then .ok (.str (cutL x lo hi)) S else .stuck
  | .loc n => (match S.get n with
    | some (.lst l) => .ok (.loc S.n) (S.new (.lst (cutL l lo hi)))
    | _ => .stuck)
  | _ => .stuck
def mSl (e : ME) (lo hi : MO) : ME := fun sd S => (e sd S).bind fun d S1 => (lo sd S1).bind fun a S2 => (hi sd S2).bind fun b S3 => slD d a b S3
theorem pm_slice {e : Expr} {lo hi : Option Expr} {m : ME} {ml mh : MO} {p2 pos : Pos} (he : PEm G X e m) (hl : POm G X lo ml) (hh : POm G X hi mh) : PEm G X (.Subscript e (.Slice lo hi none p2) pos) (mSl m ml mh) := fun W ok =>
  PE_imp (pe_slice (SlR.or sl_tupA (SlR.or sl_list sl_str)) (he W ok) (hl W ok) (hh W ok)) fun σ H Q ⟨sd, S, ρ, hs, hr, h⟩ => ⟨sd, S, ρ, hs, hr, Aft.bind h fun ρ1 H1 v d S1 le1 r1 rd h1 => ⟨sd, S1, ρ1, hs.mono le1, r1, Aft.bind h1 fun ρ2 H2 a a' S2 le2 r2 ea h2 => ⟨sd, S2, ρ2, (hs.mono le1).mono le2, r2, Aft.bind h2 fun ρ3 H3 b b' S3 le3 r3 eb h3 => by
    have ea : a' = a := ea
    have eb : b' = b := eb
    subst ea
    subst eb
    have rd := (rd.mono le2).mono le3
    cases d with
    | tup l =>
      simp only [RelD] at rd
      obtain ⟨p, xs, rfl, hq, ht⟩ := rd
      have hlen := ht.length
      refine .inl ⟨p, xs, rfl, .inl (.inl hq), fun ⟨e1, e2⟩ => ?_, fun _ q hq2 => ?_⟩
      · rw [← hlen] at e1 e2
        have h3 : Aft G (RelD G) ρ3 H3 (.ok (.tup (cutL l a' b')) S3) Q (fun c d H' => W c d σ H') := h3
        rw [cut_all e1 e2] at h3
        exact h3.ok r3 (RelD.tup' hq ht)
      · have s := same_new (o := .tup (cutV xs a' b')) hq2
        exact h3 ρ3 _ _ (Le.same s) (r3.same s) (RelD.tup' upd_same ((cut_rel ht).mono (Le.same s)))
    | str x =>
      simp only [RelD] at rd
      simp only [slD] at h3
      split at h3
      · rename_i hx
        have el : (⟨x.toArray⟩ : Str).length = x.length := by show x.toArray.size = x.length; simp
        refine .inr (.inr ⟨⟨x.toArray⟩, rd, by rw [el, sizeLine_eq]; exact hx, ?_⟩)
        have es : cutS ⟨x.toArray⟩ a' b' = ⟨(cutL x a' b').toArray⟩ := by
          unfold cutS cutL
          rw [el]
        rw [es]
        exact h3.ok r3 rel_str
      · exact h3.elim
    | loc n =>
      simp only [slD] at h3
      split at h3
      · rename_i l el
        obtain ⟨p, xs, rfl, e1, hH, ht⟩ := r3.list el rd
        refine .inr (.inl ⟨p, xs, rfl, .inl (.inl hH), fun q hq => ?_⟩)
        have le : Le G ρ3 H3 (ext ρ3 S3.n q) (upd H3 q (.lst (cutV xs a' b'))) := (Le.ext (r3.top _ (Nat.le_refl _))).trans (Le.same (same_new hq))
        exact h3 _ _ _ le (r3.new hq ⟨_, upd_same, (cut_rel ht).mono le⟩) (RelD.loc' ext_same)
      · exact h3.elim
    | _ => exact h3.elim⟩⟩⟩
/-! ### setdefault -/
def mSetd (o k x : ME) : ME := fun sd S => (o sd S).bind fun od S1 => if isDct od S1 then (k sd S1).bind fun kd S2 => (x sd S2).bind fun xd S3 => match od with
  | .loc n => (match S3.get n with
    | some (.dct 0 l) => if isK l && atomB kd && decide (l.length < 16777216) then (match getKD l kd with
      | some v => .ok v S3
      | none => .ok xd (S3.set n (.dct 0 (putKD l kd xd)))) else .stuck
    | _ => .stuck)
  | _ => .stuck else .stuck
theorem atom_key {kd : D} {y : V} {k : Key} (ha : atomB kd = true) (e : keyD kd = some k) (r : RelD G ρ H kd y) : y = kV k := by
  have := keyD_rel (G := G) (ρ := ρ) (H := H) e
  cases kd with
  | int i => simp only [RelD] at this r; rw [r, this]
  | str i => simp only [RelD] at this r; rw [r, this]
  | _ => cases ha
theorem PairK.len {κ : Type} {kf : D → Option κ} : ∀ {l : List (D × D)} {kvs : List (κ × V)}, PairK kf G ρ H l kvs → l.length = kvs.length
  | [], kvs, h => by cases h; rfl
  | p :: r, kvs, h => by
    obtain ⟨k, v, zs, rfl, _, _, h3⟩ := h
    simp [PairK.len h3]
theorem pm_setd {o e f : Expr} {mo me mf : ME} {apos cpos : Pos} (ho : PEm G X o mo) (he : PEm G X e me) (hf : PEm G X f mf) (m : M2 X o "setdefault" apos e f cpos) : PEm G X (.Call (.Attribute o "setdefault" apos) [e, f] [] cpos) (mSetd mo me mf) := fun W ok =>
  PE_imp (pe_dsetd (ho W ok) (he W ok) (hf W ok) m) fun σ H Q ⟨sd, S, ρ, hs, hr, h⟩ => ⟨sd, S, ρ, hs, hr, Aft.bind h fun ρ1 H1 x d S1 le1 r1 rd h1 => by
    split at h1
    · rename_i hd
      obtain ⟨a, rfl, isd⟩ := isDct_at r1 rd hd
      refine ⟨a, rfl, isd, sd, S1, ρ1, hs.mono le1, r1, Aft.bind h1 fun ρ2 H2 y kd S2 le2 r2 rk h2 => ⟨sd, S2, ρ2, (hs.mono le1).mono le2, r2, Aft.bind h2 fun ρ3 H3 z xd S3 le3 r3 rx h3 => ?_⟩⟩
      have rd3 := (rd.mono le2).mono le3
      clear rd hd
      have rk := rk.mono le3
      split at h3
      · rename_i n
        split at h3
        · rename_i l el
          split at h3
          · rename_i hc
            simp only [Bool.and_eq_true, decide_eq_true_eq] at hc
            obtain ⟨⟨c1, c2⟩, c3⟩ := hc
            obtain ⟨k, ek⟩ := keyD_atom c2
            simp only [RelD] at rd3
            obtain ⟨b, eb, e1⟩ := rd3
            cases e1
            obtain ⟨b2, eb2, c⟩ := r3.cell n _ el
            rw [eb] at eb2
            cases eb2
            have isk : ∃ kvs, H3 a = some (.dK kvs) ∧ PairK keyD G ρ3 H3 l kvs := by
              rcases c with ⟨kvs, hd, pk⟩ | ⟨hne, kvs, hd, pk⟩
              · exact ⟨kvs, hd, pk⟩
              · rw [isK_pair hne pk] at c1
                cases c1
            obtain ⟨kvs, hK, pk⟩ := isk
            obtain ⟨v1, v2⟩ := pk.val keq_k ek
            refine ⟨kvs, k, hK, atom_key c2 ek rk, by rw [← pk.len, sizeLine_eq]; exact c3, fun v hv => ?_, fun hv => ?_⟩
            · cases hg : getKD l kd with
              | none => rw [v2 hg] at hv; cases hv
              | some d' =>
                obtain ⟨v', e1, e2⟩ := v1 d' hg
                rw [hv] at e1
                cases e1
                simp only [hg] at h3
                exact h3.ok r3 e2
            · cases hg : getKD l kd with
              | some d' =>
                obtain ⟨v', e1, e2⟩ := v1 d' hg
                rw [hv] at e1
                cases e1
              | none =>
                simp only [hg] at h3
                have w : Wr1 (H3 a) := by rw [hK]; exact trivial
                have lw := Le.upd (G := G) (ρ := ρ3) (o := .dK (putK kvs k z)) w.wr
                exact h3 ρ3 _ z lw (r3.set (c' := .dct 0 (putKD l kd xd)) el eb w (.inl ⟨_, upd_same, (pk.put keq_k ek rx).mono lw⟩)) (rx.mono lw)
          · exact h3.elim
        · exact h3.elim
      · exact h3.elim
    · exact h1.elim⟩
end
end Y

/-! Zj: defs that make lambdas; tables; len of own objects. -/
namespace Y
open PySem PySem.Spec PyProof.Rows L2
/-- no two tables at one place -/
def tbUniq (l : List (Addr × Str)) : Bool := l.all fun p => l.all fun q => !(p.1 == q.1) || decide (p.2 = q.2)
theorem tbUniq_ok {l : List (Addr × Str)} {P : Addr} {q : Str} (h : tbUniq l = true) (hm : (P, q) ∈ l) : ∀ p ∈ l, p.1 = P → p.2 = q := fun p hp e => by
  have h1 := List.all_eq_true.mp (List.all_eq_true.mp h p hp) (P, q) hm
  simp only [e, beq_self_eq_true, Bool.not_true, Bool.false_or, decide_eq_true_eq] at h1
  exact h1
def tabB (K : PySem.W.Frag) (ts : List Addr) (cs : List (Addr × Addr)) : Bool := cs.all fun p => ts.contains p.2 && (K.lookup p.2).isNone && PySem.W.codeHdIn K p.1 p.2
theorem tabH_of {K : PySem.W.Frag} {h : Heap} {ts : List Addr} {cs : List (Addr × Addr)} (KX : K.In h) (KT : ∀ P ∈ ts, h.get? P = some (PySem.W.tabObj #[])) (e : tabB K ts cs = true) : TabH K h cs := by
  have key : ∀ p ∈ cs, p.2 ∈ ts ∧ K.lookup p.2 = none ∧ PySem.W.codeHdIn K p.1 p.2 = true := fun p hp => by
    have h1 := List.all_eq_true.mp e p hp
    simp only [Bool.and_eq_true, Option.isNone_iff_eq_none, List.contains_iff_mem] at h1
    exact ⟨h1.1.1, h1.1.2, h1.2⟩
  exact ⟨fun p hp => KT _ (key p hp).1, fun p hp => (key p hp).2.1, fun p hp => PySem.W.codeHd_of_K KX (key p hp).2.2⟩
theorem tabH_nil {K : PySem.W.Frag} {h : Heap} : TabH K h [] := ⟨fun p hp => (by cases hp), fun p hp => (by cases hp), fun p hp => (by cases hp)⟩
section
variable {G : Glo} {X : Cx} {P : Program} {w : World} {mg : Str → Option Value} {base : Heap}
/-- a def whose code object is known -/
theorem fn_okC {x qual : Str} {st : Stmt} {f c : Addr} {fd : FuncData} {N ps : List Str} {k n np : Nat} {b : MS} (F : Fun G.K x qual st f fd) (Sc : FnScope N ps (defScope st)) (hn : N.length = n) (hp : ps.length = np) (hb : Binds G.K fd ps []) (hc : fd.code = .ref c)
    (body : ∀ (A : Around) (outer : List Env) (s : Shared) (H : Hp) (E : XK), Room k (A.deeper (envOfC qual (defScope st) s.heap.objs.size f (.ref c))) → (A.deeper (envOfC qual (defScope st) s.heap.objs.size f (.ref c))).guards = some [] →
      PSsm G (cxOf (L2.CX P w) P w G.K mg base N qual (defScope st) f (.ref c) A outer s H E) (defBody st) b) :
    FnG G P w mg base (k + 1) f (mkF n np b) := by
  intro A outer s H us vs Q E hr hg e0 r h
  obtain ⟨oc, od, kV, doc, pm, an, cdv, ct, osl, rfl, lk, hcd⟩ := F.ex
  obtain rfl : cdv = .ref c := hc
  obtain ⟨ds, S, ρ, rd, rp, q⟩ := h
  unfold mkF at q
  split at q
  · rename_i hl
    have hlen : vs.length = ps.length := by rw [← rd.length, hl, hp]
    have hus : (us ++ []).length = ps.length := by rw [List.append_nil, ← r.length, hlen]
    have hbb := hb s us (e0.mod.kin.keeps fun b o e => (e0.bs b o e).1) hus
    rw [List.append_nil] at hbb
    refine LamX.run_ofS (N := N) lk hcd Sc hr e0 hbb r hlen fun hr2 => ?_
    refine ⟨_, body A outer s H E hr2 hg (fun cls d _ H => E cls d H) ⟨takes_of rfl rfl rfl rfl, passes_of rfl, rfl⟩, stD n ds, S, ρ, by rw [← hn]; exact stD_rel rd, rp, ?_⟩
    generalize b (stD n ds) S = r at q
    induction r with
    | rt d S1 => exact q
    | nx sd1 S1 => exact fun ρ' H' σ' le r1 _ => q ρ' H' .non le r1 rel_non
    | ex x sd1 S1 => exact fun ρ' H' σ' c d le r1 _ rx => q ρ' H' c d le r1 rx
    | bk sd1 S1 => exact q.elim
    | ct sd1 S1 => exact q.elim
    | stuck => exact q.elim
    | pick t f ih => exact fun r hr => ih r (q r hr)
  · exact q.elim
end
/-! ### len(o) -/
theorem len_own {prog : Program} {w : World} {A : Around} {E : Value → Shared → Prop} {s : Shared} {K : PySem.W.Frag} {x C f : Addr} {ox : Obj} {od : Option Obj} {Q : Value → Shared → Prop} (X : K.In s.heap) (I : PySem.W.InstAt s.heap x ox C od) (hs : PySem.W.findIn K (.ref C) "__len__" = some (some (.ref f))) (hf : PySem.W.isFn K (.ref f) = true)
    (h : wpAny (model prog w) A.in1 (call (.ref f) [.ref x]) (fun r s' => ∃ (n : Int) (t : Tok), r = .int n t ∧ 0 ≤ n ∧ n < 9223372036854775808 ∧ ∀ tk t', Q (.int n t') { s' with toks := tk }) E s) : wpAny (model prog w) A (call (.builtin "len") [.ref x]) Q E s := by
  refine Calls.call_function_entry kind_len plain_len entry_len (args_len1 _) ?_
  unfold Builtin.«len»
  refine wpAny_bind (m := oneArg "len" _) (wpAny_pure ?_)
  refine wpAny_bind (m := callSpecial? (.ref x) (PySem.Str.ofString "__len__")) (PySem.W.special_fn X I hs (beq_iff_eq.mp hf) (wpAny_mono h (fun r s1 hr => ?_) fun _ _ z => z))
  obtain ⟨n, t, rfl, h0, h1, hq⟩ := hr
  refine wpAny_bind (wpAny_holding (wpAny_pure ?_))
  refine wpAny_bind (wpAny_letGo ?_)
  show wpAny _ _ (if n < 0 then _ else _) _ _ _
  rw [if_neg (by omega)]
  show wpAny _ _ (if n ≥ 2 ^ 63 then _ else _) _ _ _
  rw [if_neg (by omega)]
  exact wpAny_bind (wpAny_mkInt (wpAny_pure ⟨_, rfl, hq _ _⟩))
section
variable {G : Glo} {X : Cx}
def fLenO (tab : List (Nat × MF)) : MF
  | [d], S => (match clsD d S with
    | some c => (match tab.lookup c with
      | some f => (f [d] S).bind fun r S1 => match r with
        | .int n => if 0 ≤ n ∧ n < 9223372036854775808 then .ok (.int n) S1 else .stuck
        | _ => .stuck
      | none => .stuck)
    | none => fLenG [d] S)
  | _, _ => .stuck
def LoOk (G : Glo) (X : Cx) (c : Nat) (f : MF) : Prop := ∃ C g k, G.ca c = .ref C ∧ PySem.W.findIn G.K (.ref C) "__len__" = some (some (.ref g)) ∧ PySem.W.isFn G.K (.ref g) = true ∧ FnG G X.prog X.w X.mg X.base k g f ∧ Room (k + 1) X.A ∧ X.A.guards = some []
inductive LoTab (G : Glo) (X : Cx) : List (Nat × MF) → Prop
  | nil : LoTab G X []
  | cons {c : Nat} {k : MF} {r : List (Nat × MF)} (h : LoOk G X c k) (t : LoTab G X r) : LoTab G X ((c, k) :: r)
theorem LoTab.get {tab : List (Nat × MF)} (t : LoTab G X tab) {c : Nat} {k : MF} (h : tab.lookup c = some k) : LoOk G X c k := by
  induction t with
  | nil => cases h
  | @cons c' k' r h1 t ih =>
    by_cases e : c = c'
    · subst e
      have e2 : k' = k := by simpa [List.lookup] using h
      subst e2
      exact h1
    · have e' : (c == c') = false := by simpa using e
      exact ih (by simpa [List.lookup, e'] using h)
theorem cm_lenO {tab : List (Nat × MF)} (ht : LoTab G X tab) : CallM G X (.builtin "len") (fLenO tab) := fun W ok pins s σ H ρ S xs us ds Q I r rp rd q => by
  unfold fLenO at q
  split at q
  · rename_i d
    have rd0 := rd
    simp only [RelDs] at rd
    obtain ⟨v, _, rfl, rd, rfl⟩ := rd
    split at q
    · rename_i c hc
      obtain ⟨u, rfl, ru⟩ := vals1 r
      obtain ⟨n, a, C, dx, vs, l, rfl, el, rfl, en, hC, hsl, hrl⟩ := clsD_ok rp rd hc
      cases ru
      split at q
      · rename_i f hf
        obtain ⟨C', g, k, hC', fi, isf, F, hr, hg⟩ := ht.get hf
        rw [hC] at hC'
        cases hC'
        rw [ok.kk] at fi isf
        obtain ⟨sl, od, _, J, _⟩ := SlX.slt_inst I hsl
        have q2 : Aft G (RelD G) ρ H (f [.loc n] S) (fun z H' => ∃ m : Int, z = .int m ∧ 0 ≤ m ∧ m < 9223372036854775808 ∧ Q z H') (fun c a H' => W c a σ H') := Aft.bind q fun ρ1 H1 v r S1 le r1 rv h1 => by
          cases r with
          | int m =>
            simp only [RelD] at rv
            by_cases hm : 0 ≤ m ∧ m < 9223372036854775808
            · simp only [if_pos hm] at h1
              exact ⟨m, rv, hm.1, hm.2, by rw [rv]; exact h1.ok r1 rel_int⟩
            · simp only [if_neg hm] at h1
              exact h1.elim
          | _ => exact h1.elim
        have e0 := I.env0.in1
        rw [← ok.kk] at e0
        have hr2 : Room k X.A.in1 := Room.in1 hr
        refine len_own I.kIn J fi isf (wpAny_call (codeAny_mono (F X.A.in1 X.stack s H [.ref a] [.ref a] _ (fun c a H' => W c a σ H') hr2 hg e0 (.cons rfl .nil) ⟨_, S, ρ, .one rd, rp, q2⟩) fun r s' hq => ?_))
        cases r with
        | error e => exact ok.tk e s' (XE.of_call I (fun cls d H' h => h) hq)
        | ok fl =>
          cases fl with
          | ret u =>
            obtain ⟨z, H2, I2, rz, m, ez, m0, m1, qz⟩ := I.after hq
            subst ez
            obtain ⟨t, rfl⟩ := rz
            exact ⟨m, t, rfl, m0, m1, fun tk t' => ⟨.int m, H2, I2.tok _, ⟨t', rfl⟩, qz⟩⟩
          | next => exact False.elim hq
          | brk => exact False.elim hq
          | cont => exact False.elim hq
      · exact q.elim
    · exact cm_lenG W ok pins s σ H ρ S _ us [d] Q I r rp rd0 q
  · exact q.elim
theorem loOk {c k : Nat} {C g : Addr} {f : MF} (hC : G.ca c = .ref C) (b : Meth G.K C "__len__" g) (F : FnG G X.prog X.w X.mg X.base k g f) (hr : Room (k + 1) X.A) (hg : X.A.guards = some []) : LoOk G X c f := ⟨C, g, k, hC, b.at_, b.fn, F, hr, hg⟩
end
end Y

/-! Zk: defs with defaults, called with all their arguments. -/
namespace Y
open PySem PySem.Spec PyProof.Rows L2
/-- a def with m positional defaults -/
structure FunX (K : PySem.W.Frag) (x qual : Str) (st : Stmt) (m : Nat) (f : Addr) (fd : FuncData) : Prop where
  ex : ∃ (oc : Value) (od : Option Addr) (T : Addr) (kV doc pm : Value) (an : Option Addr) (cdv ct : Value) (osl : Array (Option Value)) (dvs : List Value) (nn : Nat) (co : Value) (dd : Option Addr) (dsl : Array (Option Value)), fd = PySem.W.fnOf x qual (defArgs st) (defBody st) (defScope st) (.ref T) kV doc pm an cdv ct ∧ K.lookup f = some ⟨oc, od, .func fd, osl⟩ ∧ PySem.W.codeIn K cdv qual = true ∧ K.lookup T = some ⟨co, dd, .seq dvs.toArray nn, dsl⟩ ∧ dvs.length = m
  kp : PySem.W.keepIn K (.ref f) = true
theorem funX_mk {K : PySem.W.Frag} {x qual : Str} {st : Stmt} {f T : Addr} {oc kV doc pm cdv ct co : Value} {od an dd : Option Addr} {osl dsl : Array (Option Value)} {dvs : List Value} {nn : Nat} (l : K.lookup f = some ⟨oc, od, .func (PySem.W.fnOf x qual (defArgs st) (defBody st) (defScope st) (.ref T) kV doc pm an cdv ct), osl⟩) (c : PySem.W.codeIn K cdv qual = true) (q : PySem.W.keepIn K (.ref f) = true) (lt : K.lookup T = some ⟨co, dd, .seq dvs.toArray nn, dsl⟩) :
    FunX K x qual st dvs.length f (PySem.W.fnOf x qual (defArgs st) (defBody st) (defScope st) (.ref T) kV doc pm an cdv ct) := ⟨⟨oc, od, T, kV, doc, pm, an, cdv, ct, osl, dvs, nn, co, dd, dsl, rfl, l, c, lt, rfl⟩, q⟩
section
variable {G : Glo} {P : Program} {w : World} {mg : Str → Option Value} {base : Heap}
theorem fn_okX {x qual : Str} {st : Stmt} {f : Addr} {fd : FuncData} {N ps : List Str} {k n np : Nat} {b : MS} {m : Nat} (F : FunX G.K x qual st m f fd) (Sc : FnScope N ps (defScope st)) (hn : N.length = n) (hp : ps.length = np)
    (body : ∀ (cdv : Value) (A : Around) (outer : List Env) (s : Shared) (H : Hp) (E : XK), Room k (A.deeper (envOfC qual (defScope st) s.heap.objs.size f cdv)) → (A.deeper (envOfC qual (defScope st) s.heap.objs.size f cdv)).guards = some [] →
      PSsm G (cxOf (L2.CX P w) P w G.K mg base N qual (defScope st) f cdv A outer s H E) (defBody st) b) :
    FnB G P w mg base (k + 1) f fd ps (mkF n np b) := by
  intro A outer s H args us vs Q E hr hg e0 hb r h
  obtain ⟨oc, od, T, kV, doc, pm, an, cdv, ct, osl, dvs, nn, co, dd, dsl, rfl, lk, hcd, lt, lm⟩ := F.ex
  obtain ⟨ds, S, ρ, rd, rp, q⟩ := h
  unfold mkF at q
  split at q
  · rename_i hl
    have hlen : vs.length = ps.length := by rw [← rd.length, hl, hp]
    refine LamX.run_ofS (N := N) lk hcd Sc hr e0 hb r hlen fun hr2 => ?_
    refine ⟨_, body cdv A outer s H E hr2 hg (fun cls d _ H => E cls d H) ⟨takes_of rfl rfl rfl rfl, passes_of rfl, rfl⟩, stD n ds, S, ρ, by rw [← hn]; exact stD_rel rd, rp, ?_⟩
    generalize b (stD n ds) S = r at q
    induction r with
    | rt d S1 => exact q
    | nx sd1 S1 => exact fun ρ' H' σ' le r1 _ => q ρ' H' .non le r1 rel_non
    | ex x sd1 S1 => exact fun ρ' H' σ' c d le r1 _ rx => q ρ' H' c d le r1 rx
    | bk sd1 S1 => exact q.elim
    | ct sd1 S1 => exact q.elim
    | stuck => exact q.elim
    | pick t f ih => exact fun r hr => ih r (q r hr)
  · exact q.elim
theorem FunX.bnd {x qual : Str} {st : Stmt} {m : Nat} {f : Addr} {fd : FuncData} {ps : List Str} {n : Nat} {ks : List Str} (F : FunX G.K x qual st m f fd)
    (h : ∀ (T : Addr) (dvs : List Value) (kV doc pm : Value) (an : Option Addr) (cdv ct : Value) (us ws : List Value), dvs.length = m → us.length = n → ws.length = ks.length →
      ∃ k, bindArgs (PySem.W.fnOf x qual (defArgs st) (defBody st) (defScope st) (.ref T) kV doc pm an cdv ct) ⟨us, ks.zip ws⟩ = seqItems? (.ref T) >>= k ∧ k (some dvs.toArray) = pure (ps.zip (us ++ ws))) : BnD G fd ps n ks (fun ds es => ds ++ es) := fun s us ws vs zs hK hl hz r rz => by
  obtain ⟨oc, od, T, kV, doc, pm, an, cdv, ct, osl, dvs, nn, co, dd, dsl, rfl, lk, hcd, lt, lm⟩ := F.ex
  obtain ⟨k, h1, h2⟩ := h T dvs kV doc pm an cdv ct us ws lm (by rw [← r.length]; exact hl) (by rw [← rz.length]; exact hz)
  exact ⟨us ++ ws, vs ++ zs, BindsTo.of_defaults rfl (hK _ _ lt) rfl h1 h2, r.append rz, fun ρ H ds es h1 h2 => h1.append h2⟩
end
end Y

/-! W0: rows as lists of pairs: sums against a test function. -/
namespace W
abbrev T := List (Int × Int)
def tot (h : Int → Int) : T → Int
  | [] => 0
  | p :: r => p.2 * h p.1 + tot h r
theorem tot_app (h : Int → Int) : ∀ a b : T, tot h (a ++ b) = tot h a + tot h b
  | [], b => by simp [tot]
  | p :: a, b => by simp only [List.cons_append, tot, tot_app h a b]; omega
theorem tot_add (h g : Int → Int) : ∀ a : T, tot (fun x => h x + g x) a = tot h a + tot g a
  | [] => by simp [tot]
  | p :: a => by simp only [tot, tot_add h g a, Int.mul_add]; omega
theorem tot_mul (c : Int) (h : Int → Int) : ∀ a : T, tot (fun x => c * h x) a = c * tot h a
  | [] => by simp [tot]
  | p :: a => by
    simp only [tot, tot_mul c h a, Int.mul_add]
    rw [Int.mul_left_comm]
theorem tot_mulr (c : Int) (h : Int → Int) (a : T) : tot (fun x => h x * c) a = tot h a * c := by
  have : (fun x => h x * c) = fun x => c * h x := by funext x; exact Int.mul_comm _ _
  rw [this, tot_mul, Int.mul_comm]
theorem tot_zero : ∀ a : T, tot (fun _ => 0) a = 0
  | [] => rfl
  | p :: a => by simp [tot, tot_zero a]
theorem tot_swap (k : Int → Int → Int) : ∀ a b : T, tot (fun x => tot (fun y => k x y) b) a = tot (fun y => tot (fun x => k x y) a) b
  | [], b => by simp [tot, tot_zero]
  | p :: a, b => by
    simp only [tot, tot_swap k a b]
    rw [← tot_mul, ← tot_add]
theorem tot_congr {h g : Int → Int} (e : ∀ x, h x = g x) (a : T) : tot h a = tot g a := by rw [show h = g from funext e]
def Eqv (a b : T) : Prop := ∀ h, tot h a = tot h b
/-- dicts -/
def val (t : T) (e : Int) : Int := match t with
  | [] => 0
  | p :: r => if p.1 = e then p.2 else val r e
def has (t : T) (e : Int) : Bool := match t with
  | [] => false
  | p :: r => decide (p.1 = e) || has r e
def put (t : T) (e c : Int) : T := if t.any (fun p => decide (p.1 = e)) then t.map (fun p => if p.1 = e then (p.1, c) else p) else t ++ [(e, c)]
def Nd (t : T) : Prop := (t.map (·.1)).Nodup
def addTo (t : T) (e x : Int) : T := put t e (val t e + x)
def dl (e : Int) (x : Int) : Int := if x = e then 1 else 0
theorem val_none {t : T} {e : Int} (h : t.any (fun p => decide (p.1 = e)) = false) : val t e = 0 := by
  induction t with
  | nil => rfl
  | cons p r ih =>
    rw [List.any_cons, Bool.or_eq_false_iff, decide_eq_false_iff_not] at h
    unfold val
    rw [if_neg h.1]
    exact ih h.2
theorem map_none {t : T} {e c : Int} (h : t.any (fun p => decide (p.1 = e)) = false) : t.map (fun p => if p.1 = e then (p.1, c) else p) = t := by
  induction t with
  | nil => rfl
  | cons p r ih =>
    rw [List.any_cons, Bool.or_eq_false_iff, decide_eq_false_iff_not] at h
    rw [List.map_cons, if_neg h.1, ih h.2]
theorem nd_cons {p : Int × Int} {r : T} (h : Nd (p :: r)) : r.any (fun q => decide (q.1 = p.1)) = false ∧ Nd r := by
  unfold Nd at h ⊢
  rw [List.map_cons, List.nodup_cons] at h
  refine ⟨?_, h.2⟩
  rw [List.any_eq_false]
  intro q hq e
  rw [decide_eq_true_eq] at e
  exact h.1 (List.mem_map.mpr ⟨q, hq, e⟩)
theorem tot_rep (h : Int → Int) (e c : Int) : ∀ {t : T}, Nd t → t.any (fun p => decide (p.1 = e)) = true → tot h (t.map fun p => if p.1 = e then (p.1, c) else p) = tot h t + (c - val t e) * h e
  | [], _, ha => by simp at ha
  | p :: r, hn, ha => by
    obtain ⟨h1, h2⟩ := nd_cons hn
    by_cases hp : p.1 = e
    · subst hp
      rw [List.map_cons, if_pos rfl, map_none h1]
      simp only [tot, val, if_true, Int.sub_mul]
      omega
    · rw [List.any_cons, show decide (p.1 = e) = false from by simpa using hp, Bool.false_or] at ha
      rw [List.map_cons, if_neg hp]
      simp only [tot, val, if_neg hp, tot_rep h e c h2 ha]
      omega
theorem tot_put (h : Int → Int) (e c : Int) {t : T} (hn : Nd t) : tot h (put t e c) = tot h t + (c - val t e) * h e := by
  unfold put
  split
  · rename_i ha
    exact tot_rep h e c hn ha
  · rename_i ha
    rw [Bool.not_eq_true] at ha
    rw [tot_app, val_none ha]
    simp [tot]
theorem tot_addTo (h : Int → Int) (e x : Int) {t : T} (hn : Nd t) : tot h (addTo t e x) = tot h t + x * h e := by
  unfold addTo
  rw [tot_put h e _ hn]
  congr 2
  omega
theorem keys_rep (e c : Int) (t : T) : (t.map fun p => if p.1 = e then (p.1, c) else p).map (·.1) = t.map (·.1) := by
  rw [List.map_map]
  refine List.map_congr_left fun p _ => ?_
  show (if p.1 = e then (p.1, c) else p).1 = p.1
  split <;> rfl
theorem nd_put {t : T} (e c : Int) (hn : Nd t) : Nd (put t e c) := by
  unfold put
  split
  · unfold Nd
    rw [keys_rep]
    exact hn
  · rename_i ha
    rw [Bool.not_eq_true, List.any_eq_false] at ha
    unfold Nd at hn ⊢
    rw [List.map_append, List.nodup_append]
    refine ⟨hn, by simp, fun a h1 b h2 e2 => ?_⟩
    obtain ⟨p, hp, rfl⟩ := List.mem_map.mp h1
    have h2 : b = e := by simpa using h2
    exact ha p hp (by rw [decide_eq_true_eq, e2, h2])
theorem nd_addTo {t : T} (e x : Int) (hn : Nd t) : Nd (addTo t e x) := nd_put _ _ hn
/-- sizes -/
def nrm : T → Nat
  | [] => 0
  | p :: r => p.2.natAbs + nrm r
theorem nrm_app : ∀ a b : T, nrm (a ++ b) = nrm a + nrm b
  | [], b => by simp [nrm]
  | p :: a, b => by simp only [List.cons_append, nrm, nrm_app a b]; omega
theorem nrm_rep (e c : Int) : ∀ {t : T}, Nd t → t.any (fun p => decide (p.1 = e)) = true → nrm (t.map fun p => if p.1 = e then (p.1, c) else p) + (val t e).natAbs = nrm t + c.natAbs
  | [], _, ha => by simp at ha
  | p :: r, hn, ha => by
    obtain ⟨h1, h2⟩ := nd_cons hn
    by_cases hp : p.1 = e
    · subst hp
      rw [List.map_cons, if_pos rfl, map_none h1]
      simp only [nrm, val, if_true]
      omega
    · rw [List.any_cons, show decide (p.1 = e) = false from by simpa using hp, Bool.false_or] at ha
      rw [List.map_cons, if_neg hp]
      have := nrm_rep e c h2 ha
      simp only [nrm, val, if_neg hp]
      omega
theorem nrm_addTo (e x : Int) {t : T} (hn : Nd t) : nrm (addTo t e x) ≤ nrm t + x.natAbs := by
  unfold addTo put
  split
  · rename_i ha
    have := nrm_rep e (val t e + x) hn ha
    have h2 := Int.natAbs_add_le (val t e) x
    omega
  · rename_i ha
    rw [Bool.not_eq_true] at ha
    rw [nrm_app, val_none ha]
    simp [nrm]
theorem val_le (e : Int) : ∀ t : T, (val t e).natAbs ≤ nrm t
  | [] => by simp [val, nrm]
  | p :: r => by
    have := val_le e r
    unfold val nrm
    split <;> omega
theorem mem_le : ∀ {t : T} {p : Int × Int}, p ∈ t → p.2.natAbs ≤ nrm t
  | q :: r, p, h => by
    unfold nrm
    rcases List.mem_cons.mp h with rfl | h
    · omega
    · have := mem_le h
      omega
theorem len_put (t : T) (e c : Int) : (put t e c).length ≤ t.length + 1 := by
  unfold put
  split <;> simp
def EB (t : T) (M : Nat) : Prop := ∀ p ∈ t, p.1.natAbs ≤ M
theorem eb_put {t : T} {M : Nat} {e c : Int} (h : EB t M) (he : e.natAbs ≤ M) : EB (put t e c) M := fun p hp => by
  unfold put at hp
  split at hp
  · obtain ⟨q, hq, rfl⟩ := List.mem_map.mp hp
    split
    · exact h q hq
    · exact h q hq
  · rcases List.mem_append.mp hp with hp | hp
    · exact h p hp
    · have : p = (e, c) := by simpa using hp
      rw [this]
      exact he
/-- sums -/
def summed (t u : T) (m : Int) : T := u.foldl (fun acc p => addTo acc p.1 (m * p.2)) t
theorem summed_ok (m : Int) : ∀ (u : T) {t : T}, Nd t → Nd (summed t u m) ∧ (∀ h, tot h (summed t u m) = tot h t + m * tot h u) ∧ nrm (summed t u m) ≤ nrm t + m.natAbs * nrm u ∧ (summed t u m).length ≤ t.length + u.length ∧ ∀ M, EB t M → EB u M → EB (summed t u m) M
  | [], t, hn => ⟨hn, fun h => by simp [summed, tot], by simp [summed, nrm], by simp [summed], fun M h _ => h⟩
  | p :: u, t, hn => by
    obtain ⟨a, b, c, d, e⟩ := summed_ok m u (nd_addTo p.1 (m * p.2) hn)
    refine ⟨a, fun h => ?_, ?_, ?_, fun M h1 h2 => ?_⟩
    · show tot h (summed (addTo t p.1 (m * p.2)) u m) = _
      rw [b h, tot_addTo h _ _ hn]
      simp only [tot, Int.mul_add, Int.mul_assoc]
      omega
    · show nrm (summed (addTo t p.1 (m * p.2)) u m) ≤ _
      have h1 := nrm_addTo p.1 (m * p.2) hn
      rw [Int.natAbs_mul] at h1
      simp only [nrm, Nat.mul_add]
      omega
    · show (summed (addTo t p.1 (m * p.2)) u m).length ≤ _
      have h1 := len_put t p.1 (val t p.1 + m * p.2)
      have h2 : (addTo t p.1 (m * p.2)).length ≤ t.length + 1 := h1
      rw [List.length_cons]
      omega
    · exact e M (eb_put h1 (h2 p (List.mem_cons_self ..))) fun q hq => h2 q (List.mem_cons_of_mem _ hq)
/-- products -/
def prod1 (acc : T) (p : Int × Int) (u : T) : T := u.foldl (fun acc q => addTo acc (p.1 + q.1) (p.2 * q.2)) acc
def prod (t u : T) (acc : T) : T := t.foldl (fun acc p => prod1 acc p u) acc
theorem prod1_ok (p : Int × Int) : ∀ (u : T) {t : T}, Nd t → Nd (prod1 t p u) ∧ (∀ h, tot h (prod1 t p u) = tot h t + p.2 * tot (fun y => h (p.1 + y)) u) ∧ nrm (prod1 t p u) ≤ nrm t + p.2.natAbs * nrm u ∧ (prod1 t p u).length ≤ t.length + u.length ∧ ∀ M K, EB t M → EB u K → p.1.natAbs + K ≤ M → EB (prod1 t p u) M
  | [], t, hn => ⟨hn, fun h => by simp [prod1, tot], by simp [prod1, nrm], by simp [prod1], fun M K h _ _ => h⟩
  | q :: u, t, hn => by
    obtain ⟨a, b, c, d, e⟩ := prod1_ok p u (nd_addTo (p.1 + q.1) (p.2 * q.2) hn)
    refine ⟨a, fun h => ?_, ?_, ?_, fun M K h1 h2 h3 => ?_⟩
    · show tot h (prod1 (addTo t (p.1 + q.1) (p.2 * q.2)) p u) = _
      rw [b h, tot_addTo h _ _ hn]
      simp only [tot, Int.mul_add, Int.mul_assoc]
      omega
    · show nrm (prod1 (addTo t (p.1 + q.1) (p.2 * q.2)) p u) ≤ _
      have h1 := nrm_addTo (p.1 + q.1) (p.2 * q.2) hn
      rw [Int.natAbs_mul] at h1
      simp only [nrm, Nat.mul_add]
      omega
    · show (prod1 (addTo t (p.1 + q.1) (p.2 * q.2)) p u).length ≤ _
      have h2 : (addTo t (p.1 + q.1) (p.2 * q.2)).length ≤ t.length + 1 := len_put t _ _
      rw [List.length_cons]
      omega
    · refine e M K (eb_put h1 ?_) (fun r hr => h2 r (List.mem_cons_of_mem _ hr)) h3
      have := h2 q (List.mem_cons_self ..)
      omega
theorem prod_ok (u : T) : ∀ (t : T) {acc : T}, Nd acc → Nd (prod t u acc) ∧ (∀ h, tot h (prod t u acc) = tot h acc + tot (fun x => tot (fun y => h (x + y)) u) t) ∧ nrm (prod t u acc) ≤ nrm acc + nrm t * nrm u ∧ (prod t u acc).length ≤ acc.length + t.length * u.length ∧ ∀ M J K, EB acc M → EB t J → EB u K → J + K ≤ M → EB (prod t u acc) M
  | [], acc, hn => ⟨hn, fun h => by simp [prod, tot], by simp [prod, nrm], by simp [prod], fun M J K h _ _ _ => h⟩
  | p :: t, acc, hn => by
    obtain ⟨a1, b1, c1, d1, e1⟩ := prod1_ok p u hn
    obtain ⟨a, b, c, d, e⟩ := prod_ok u t a1
    refine ⟨a, fun h => ?_, ?_, ?_, fun M J K h1 h2 h3 h4 => ?_⟩
    · show tot h (prod t u (prod1 acc p u)) = _
      rw [b h, b1 h]
      simp only [tot]
      omega
    · show nrm (prod t u (prod1 acc p u)) ≤ _
      simp only [nrm, Nat.add_mul]
      omega
    · show (prod t u (prod1 acc p u)).length ≤ _
      rw [List.length_cons, Nat.succ_mul]
      omega
    · refine e M J K (e1 M K h1 h3 ?_) (fun q hq => h2 q (List.mem_cons_of_mem _ hq)) h3 h4
      have := h2 p (List.mem_cons_self ..)
      omega
/-- normal forms -/
structure NF (t : T) : Prop where
  up : (t.map (·.1)).Pairwise (· < ·)
  nz : ∀ p ∈ t, p.2 ≠ 0
theorem NF.nd {t : T} (h : NF t) : Nd t := h.up.imp fun {a b} hab => by omega
theorem NF.tail {p : Int × Int} {t : T} (h : NF (p :: t)) : NF t := ⟨(List.pairwise_cons.mp h.up).2, fun q hq => h.nz q (List.mem_cons_of_mem _ hq)⟩
theorem NF.head {p : Int × Int} {t : T} (h : NF (p :: t)) : ∀ q ∈ t, p.1 < q.1 := fun q hq => (List.pairwise_cons.mp h.up).1 q.1 (List.mem_map.mpr ⟨q, hq, rfl⟩)
theorem tot_dl_none {e : Int} : ∀ {t : T}, (∀ q ∈ t, q.1 ≠ e) → tot (dl e) t = 0
  | [], _ => rfl
  | p :: t, h => by
    have h1 := h p (List.mem_cons_self ..)
    have ih := tot_dl_none (t := t) fun q hq => h q (List.mem_cons_of_mem _ hq)
    simp only [tot, dl, if_neg h1, ih]
    simp
theorem nf_eq : ∀ {a b : T}, NF a → NF b → Eqv a b → a = b
  | [], [], _, _, _ => rfl
  | [], p :: b, _, hb, h => by
    have e := h (dl p.1)
    have z := tot_dl_none (e := p.1) (t := b) fun q hq => by have := hb.head q hq; omega
    simp only [tot, dl, if_true, Int.mul_one] at e
    rw [z] at e
    exact absurd (by omega) (hb.nz p (List.mem_cons_self ..))
  | p :: a, [], ha, _, h => by
    have e := h (dl p.1)
    have z := tot_dl_none (e := p.1) (t := a) fun q hq => by have := ha.head q hq; omega
    simp only [tot, dl, if_true, Int.mul_one] at e
    rw [z] at e
    exact absurd (by omega) (ha.nz p (List.mem_cons_self ..))
  | p :: a, q :: b, ha, hb, h => by
    have za : ∀ e, e ≤ p.1 → tot (dl e) a = 0 := fun e he => tot_dl_none fun r hr => by have := ha.head r hr; omega
    have zb : ∀ e, e ≤ q.1 → tot (dl e) b = 0 := fun e he => tot_dl_none fun r hr => by have := hb.head r hr; omega
    have k : p.1 = q.1 := by
      rcases Int.lt_trichotomy p.1 q.1 with lt | eq | gt
      · have e := h (dl p.1)
        simp only [tot] at e
        rw [za p.1 (Int.le_refl _), zb p.1 (Int.le_of_lt lt)] at e
        simp only [dl, if_true, if_neg (show ¬ q.1 = p.1 by omega)] at e
        exact absurd (by omega) (ha.nz p (List.mem_cons_self ..))
      · exact eq
      · have e := h (dl q.1)
        simp only [tot] at e
        rw [za q.1 (Int.le_of_lt gt), zb q.1 (Int.le_refl _)] at e
        simp only [dl, if_true, if_neg (show ¬ p.1 = q.1 by omega)] at e
        exact absurd (by omega) (hb.nz q (List.mem_cons_self ..))
    have c : p.2 = q.2 := by
      have e := h (dl p.1)
      simp only [tot] at e
      rw [za p.1 (Int.le_refl _), zb p.1 (by omega)] at e
      simp only [dl, if_true, k] at e
      omega
    have pq : p = q := Prod.ext k c
    subst pq
    have := nf_eq ha.tail hb.tail fun g => by
      have e := h g
      simp only [tot] at e
      omega
    rw [this]
end W

/-! Wa: rows (lists of pairs of numbers) as dicts; their normal form; judgements over growing stores. -/
namespace Y
open PySem PySem.Spec PyProof.Rows L2
abbrev TT2 := W.T
def enc (t : W.T) : List (D × D) := t.map fun p => (.int p.1, .int p.2)
section
variable {t u : W.T} {e c : Int}
theorem enc_isK : isK (enc t) = true := by cases t <;> rfl
theorem enc_len : (enc t).length = t.length := by simp [enc]
theorem enc_cons {p : Int × Int} : enc (p :: t) = (.int p.1, .int p.2) :: enc t := rfl
theorem enc_get : getKD (enc t) (.int e) = if t.any (fun p => decide (p.1 = e)) then some (.int (W.val t e)) else none := by
  induction t with
  | nil => rfl
  | cons p r ih =>
    have h0 : getKD (enc (p :: r)) (.int e) = if decide (p.1 = e) then some (.int p.2) else getKD (enc r) (.int e) := rfl
    rw [h0, ih, List.any_cons]
    by_cases h : p.1 = e
    · have hd : decide (p.1 = e) = true := by simpa using h
      rw [hd, Bool.true_or, if_pos rfl, if_pos rfl]
      unfold W.val
      rw [if_pos h]
    · have hd : decide (p.1 = e) = false := by simpa using h
      rw [hd, Bool.false_or, if_neg (by decide)]
      unfold W.val
      rw [if_neg h]
      cases r <;> rfl
theorem enc_any : (enc t).any (fun p => keq p.1 (.int e)) = t.any (fun p => decide (p.1 = e)) := by
  unfold enc
  rw [List.any_map]
  rfl
theorem enc_put : putKD (enc t) (.int e) (.int c) = enc (W.put t e c) := by
  unfold putKD W.put
  rw [enc_any]
  split
  · unfold enc
    rw [List.map_map, List.map_map]
    refine List.map_congr_left fun p _ => ?_
    simp only [Function.comp, keq, keqA]
    by_cases h : p.1 = e
    · simp [h]
    · simp [h]
  · simp [enc]
theorem enc_keys : intKeys (enc t) = some (t.map (·.1)) := by
  induction t with
  | nil => rfl
  | cons p r ih => rw [enc_cons]; simp [intKeys, ih]
theorem enc_at (i : Nat) : (enc t)[i]? = t[i]?.map fun p => (D.int p.1, D.int p.2) := by simp [enc]
end
/-! normal forms -/
def nf (t : W.T) : W.T := ((sortI (t.map (·.1))).filter fun e => decide (W.val t e ≠ 0)).map fun e => (e, W.val t e)
theorem tot_perm (h : Int → Int) {a b : W.T} (p : a.Perm b) : W.tot h a = W.tot h b := by
  induction p with
  | nil => rfl
  | cons x _ ih => simp only [W.tot, ih]
  | swap x y l => simp only [W.tot]; omega
  | trans _ _ i1 i2 => rw [i1, i2]
theorem nrm_perm {a b : W.T} (p : a.Perm b) : W.nrm a = W.nrm b := by
  induction p with
  | nil => rfl
  | cons x _ ih => simp only [W.nrm, ih]
  | swap x y l => simp only [W.nrm]; omega
  | trans _ _ i1 i2 => rw [i1, i2]
theorem val_mem : ∀ {t : W.T}, W.Nd t → ∀ p ∈ t, W.val t p.1 = p.2
  | q :: r, h, p, hp => by
    obtain ⟨h1, h2⟩ := W.nd_cons h
    unfold W.val
    rcases List.mem_cons.mp hp with rfl | hp
    · simp
    · have hne : ¬ q.1 = p.1 := fun e => by
        rw [List.any_eq_false] at h1
        exact h1 p hp (by simp [e])
      rw [if_neg hne]
      exact val_mem h2 p hp
theorem keys_val {t : W.T} (h : W.Nd t) : (t.map (·.1)).map (fun e => (e, W.val t e)) = t := by
  rw [List.map_map]
  have : t.map ((fun e => (e, W.val t e)) ∘ (·.1)) = t.map id := List.map_congr_left fun p hp => by
    simp only [Function.comp, val_mem h p hp]
    rfl
  rw [this, List.map_id]
theorem tot_filter (h : Int → Int) (f : Int → Int) : ∀ l : List Int, W.tot h ((l.filter fun e => decide (f e ≠ 0)).map fun e => (e, f e)) = W.tot h (l.map fun e => (e, f e))
  | [] => rfl
  | x :: l => by
    have ih := tot_filter h f l
    by_cases hx : f x = 0
    · rw [List.filter_cons_of_neg (by simp [hx]), ih, List.map_cons]
      simp [W.tot, hx]
    · rw [List.filter_cons_of_pos (by simp [hx]), List.map_cons, List.map_cons]
      simp only [W.tot, ih]
theorem nrm_filter (f : Int → Int) (q : Int → Bool) : ∀ l : List Int, W.nrm ((l.filter q).map fun e => (e, f e)) ≤ W.nrm (l.map fun e => (e, f e))
  | [] => Nat.le_refl _
  | x :: l => by
    have ih := nrm_filter f q l
    rw [List.filter_cons]
    split
    · rw [List.map_cons, List.map_cons]
      simp only [W.nrm]
      omega
    · rw [List.map_cons]
      simp only [W.nrm]
      omega
theorem nf_perm {t : W.T} (h : W.Nd t) : ((sortI (t.map (·.1))).map fun e => (e, W.val t e)).Perm t := by
  have := (sortI_perm (t.map (·.1))).map fun e => (e, W.val t e)
  rw [keys_val h] at this
  exact this
theorem nf_eqv {t : W.T} (h : W.Nd t) : W.Eqv (nf t) t := fun g => by
  unfold nf
  rw [tot_filter, tot_perm g (nf_perm h)]
theorem nf_nrm {t : W.T} (h : W.Nd t) : W.nrm (nf t) ≤ W.nrm t := by
  have := nrm_filter (W.val t) (fun e => decide (W.val t e ≠ 0)) (sortI (t.map (·.1)))
  rw [nrm_perm (nf_perm h)] at this
  exact this
theorem nf_len (t : W.T) : (nf t).length ≤ t.length := by
  unfold nf
  rw [List.length_map]
  refine Nat.le_trans (List.length_filter_le _ _) ?_
  rw [(sortI_perm _).length_eq, List.length_map]
  exact Nat.le_refl _
theorem nf_keys (t : W.T) : (nf t).map (·.1) = (sortI (t.map (·.1))).filter fun e => decide (W.val t e ≠ 0) := by
  unfold nf
  rw [List.map_map]
  have : ((·.1) ∘ fun e => (e, W.val t e)) = (id : Int → Int) := rfl
  rw [this, List.map_id]
theorem nf_eb {t : W.T} {M : Nat} (h : W.EB t M) : W.EB (nf t) M := fun p hp => by
  have h1 : p.1 ∈ (nf t).map (·.1) := List.mem_map.mpr ⟨p, hp, rfl⟩
  rw [nf_keys, List.mem_filter, (sortI_perm _).mem_iff] at h1
  obtain ⟨q, hq, e⟩ := List.mem_map.mp h1.1
  rw [← e]
  exact h q hq
theorem lt_of_le {l : List Int} (h : l.Pairwise (· ≤ ·)) (n : l.Nodup) : l.Pairwise (· < ·) := by
  have := h.and n
  exact this.imp fun {a b} ⟨h1, h2⟩ => by omega
theorem nf_nf {t : W.T} (h : W.Nd t) : W.NF (nf t) := by
  refine ⟨?_, fun p hp => ?_⟩
  · rw [nf_keys]
    exact (lt_of_le (sortI_sorted _) ((sortI_perm _).nodup_iff.mpr h)).filter _
  · unfold nf at hp
    obtain ⟨e, he, rfl⟩ := List.mem_map.mp hp
    rw [List.mem_filter] at he
    simpa using he.2
theorem nf_id {t : W.T} (h : W.NF t) : nf t = t := W.nf_eq (nf_nf h.nd) h (nf_eqv h.nd)
/-! ### judgements over growing stores -/
def Mono (P : Sto → D → Prop) : Prop := ∀ S S' d, Ext S S' → P S d → P S' d
def isV (v : D) : Sto → D → Prop := fun _ d => d = v
def isDic (t : W.T) : Sto → D → Prop := fun S d => ∃ k, d = .loc k ∧ S.get k = some (.dct 0 (enc t))
theorem mono_v {v : D} : Mono (isV v) := fun _ _ _ _ h => h
theorem mono_dic {t : W.T} : Mono (isDic t) := fun _ _ _ x ⟨k, e, h⟩ => ⟨k, e, x _ _ h⟩
def QE (P : Sto → D → Prop) (m : ME) (sd : SD) (S : Sto) : Prop := ∀ S1, Ext S S1 → ∃ d S2, m sd S1 = .ok d S2 ∧ Ext S1 S2 ∧ P S2 d
def QT (b : Bool) (m : MT) (sd : SD) (S : Sto) : Prop := ∀ S1, Ext S S1 → ∃ S2, m sd S1 = .ok b S2 ∧ Ext S1 S2
def QR (P : Sto → D → Prop) (m : MS) (sd : SD) (S : Sto) : Prop := ∀ S1, Ext S S1 → ∃ d S2, m sd S1 = .rt d S2 ∧ Ext S1 S2 ∧ P S2 d
def F1 (P Q : Sto → D → Prop) (f : MF) : Prop := ∀ S d, P S d → ∃ e S2, f [d] S = .ok e S2 ∧ Ext S S2 ∧ Q S2 e
def F2 (P P' Q : Sto → D → Prop) (f : MF) : Prop := ∀ S d d', P S d → P' S d' → ∃ e S2, f [d, d'] S = .ok e S2 ∧ Ext S S2 ∧ Q S2 e
def F3 (P P' P'' Q : Sto → D → Prop) (f : MF) : Prop := ∀ S d d' d'', P S d → P' S d' → P'' S d'' → ∃ e S2, f [d, d', d''] S = .ok e S2 ∧ Ext S S2 ∧ Q S2 e
section
variable {P P' P'' Q : Sto → D → Prop} {m m1 m2 m3 : ME} {t t1 t2 : MT} {s r : MS} {sd : SD} {S : Sto} {f : MF} {b : Bool}
theorem qe_var {i : Nat} {d : D} (h : P S d) (mo : Mono P) (e : sd[i]? = some (some d)) : QE P (mVar i) sd S := fun S1 x => ⟨d, S1, by unfold mVar; rw [e], Ext.refl, mo _ _ _ x h⟩
theorem qe_c {v : D} : QE (isV v) (mC v) sd S := fun S1 x => ⟨v, S1, rfl, Ext.refl, rfl⟩
theorem QE.ext {S'} (h : QE P m sd S) (x : Ext S S') : QE P m sd S' := fun S1 y => h S1 (x.trans y)
theorem QT.ext {S'} (h : QT b t sd S) (x : Ext S S') : QT b t sd S' := fun S1 y => h S1 (x.trans y)
theorem qe_call1 (h : F1 P Q f) (a : QE P m sd S) : QE Q (mCall f (mCons m mNil)) sd S := fun S1 x => by
  obtain ⟨d, S2, e, x2, p⟩ := a S1 x
  obtain ⟨d3, S3, e3, x3, p3⟩ := h S2 d p
  exact ⟨d3, S3, by rw [mCall1 e, e3], x2.trans x3, p3⟩
theorem qe_call2 (h : F2 P P' Q f) (mo : Mono P) (a : QE P m sd S) (a1 : QE P' m1 sd S) : QE Q (mCall f (mCons m (mCons m1 mNil))) sd S := fun S1 x => by
  obtain ⟨d, S2, e, x2, p⟩ := a S1 x
  obtain ⟨d1, S3, e1, x3, p1⟩ := a1 S2 (x.trans x2)
  obtain ⟨d3, S4, e3, x4, p3⟩ := h S3 d d1 (mo _ _ _ x3 p) p1
  exact ⟨d3, S4, by rw [mCall_ok (mCons_ok e (mCons_ok e1 mNil_ok)), e3], (x2.trans x3).trans x4, p3⟩
theorem qe_call3 (h : F3 P P' P'' Q f) (mo : Mono P) (mo' : Mono P') (a : QE P m sd S) (a1 : QE P' m1 sd S) (a2 : QE P'' m2 sd S) : QE Q (mCall f (mCons m (mCons m1 (mCons m2 mNil)))) sd S := fun S1 x => by
  obtain ⟨d, S2, e, x2, p⟩ := a S1 x
  obtain ⟨d1, S3, e1, x3, p1⟩ := a1 S2 (x.trans x2)
  obtain ⟨d2, S4, e2, x4, p2⟩ := a2 S3 ((x.trans x2).trans x3)
  obtain ⟨d3, S5, e3, x5, p3⟩ := h S4 d d1 d2 (mo _ _ _ (x3.trans x4) p) (mo' _ _ _ x4 p1) p2
  exact ⟨d3, S5, by rw [mCall_ok (mCons_ok e (mCons_ok e1 (mCons_ok e2 mNil_ok))), e3], ((x2.trans x3).trans x4).trans x5, p3⟩
theorem qe_bin {g : D → D → Sto → Res D} (h : ∀ S d d', P S d → P' S d' → ∃ e S2, g d d' S = .ok e S2 ∧ Ext S S2 ∧ Q S2 e) (mo : Mono P) (a : QE P m sd S) (a1 : QE P' m1 sd S) : QE Q (mBin g m m1) sd S := fun S1 x => by
  obtain ⟨d, S2, e, x2, p⟩ := a S1 x
  obtain ⟨d1, S3, e1, x3, p1⟩ := a1 S2 (x.trans x2)
  obtain ⟨d3, S4, e3, x4, p3⟩ := h S3 d d1 (mo _ _ _ x3 p) p1
  exact ⟨d3, S4, by rw [mBin_ok e e1, e3], (x2.trans x3).trans x4, p3⟩
theorem qe_un {g : D → Sto → Res D} (h : ∀ S d, P S d → ∃ e S2, g d S = .ok e S2 ∧ Ext S S2 ∧ Q S2 e) (a : QE P m sd S) : QE Q (mUn g m) sd S := fun S1 x => by
  obtain ⟨d, S2, e, x2, p⟩ := a S1 x
  obtain ⟨d3, S4, e3, x4, p3⟩ := h S2 d p
  exact ⟨d3, S4, by rw [mUn_ok e, e3], x2.trans x4, p3⟩
theorem QE.mono (h : QE P m sd S) (k : ∀ S d, P S d → Q S d) : QE Q m sd S := fun S1 x => let ⟨d, S2, e, y, p⟩ := h S1 x; ⟨d, S2, e, y, k _ _ p⟩
theorem qt_tru (h : QE (isV (.bl b)) m sd S) : QT b (mTru m) sd S := fun S1 x => by
  obtain ⟨d, S2, e, y, p⟩ := h S1 x
  cases p
  exact ⟨S2, by unfold mTru; rw [e]; rfl, y⟩
theorem qt_tst {g : D → D → Sto → Res D} (h : QE (isV (.bl b)) (mBin g m m1) sd S) : QT b (mTst g m m1) sd S := fun S1 x => by
  obtain ⟨d, S2, e, y, p⟩ := h S1 x
  cases p
  exact ⟨S2, mTst_ok e, y⟩
theorem qt_not (h : QT b t sd S) : QT (!b) (tNotM t) sd S := fun S1 x => by
  obtain ⟨S2, e, y⟩ := h S1 x
  exact ⟨S2, by unfold tNotM; rw [e]; rfl, y⟩
theorem qt_orf (h : QT false t sd S) (h1 : QT b t1 sd S) : QT b (tOrM t t1) sd S := fun S1 x => by
  obtain ⟨S2, e, y⟩ := h S1 x
  obtain ⟨S3, e1, y1⟩ := h1 S2 (x.trans y)
  exact ⟨S3, by unfold tOrM; rw [e]; exact e1, y.trans y1⟩
theorem qt_andt (h : QT true t sd S) (h1 : QT b t1 sd S) : QT b (tAndM t t1) sd S := fun S1 x => by
  obtain ⟨S2, e, y⟩ := h S1 x
  obtain ⟨S3, e1, y1⟩ := h1 S2 (x.trans y)
  exact ⟨S3, by unfold tAndM; rw [e]; exact e1, y.trans y1⟩
theorem qt_andf (h : QT false t sd S) : QT false (tAndM t t1) sd S := fun S1 x => by
  obtain ⟨S2, e, y⟩ := h S1 x
  exact ⟨S2, by unfold tAndM; rw [e]; rfl, y⟩
theorem qe_andt (h : QE (isV (.bl true)) m sd S) (h1 : QE P m1 sd S) : QE P (mAndT m m1) sd S := fun S1 x => by
  obtain ⟨d, S2, e, y, p⟩ := h S1 x
  cases p
  obtain ⟨d3, S3, e1, y1, p1⟩ := h1 S2 (x.trans y)
  exact ⟨d3, S3, by unfold mAndT; rw [e]; exact e1, y.trans y1, p1⟩
theorem qe_andf (h : QE (isV (.bl false)) m sd S) : QE (isV (.bl false)) (mAndT m m1) sd S := fun S1 x => by
  obtain ⟨d, S2, e, y, p⟩ := h S1 x
  cases p
  exact ⟨.bl false, S2, by unfold mAndT; rw [e]; rfl, y, rfl⟩
theorem qe_orf (h : QE (isV (.bl false)) m sd S) (h1 : QE P m1 sd S) : QE P (mOrT m m1) sd S := fun S1 x => by
  obtain ⟨d, S2, e, y, p⟩ := h S1 x
  cases p
  obtain ⟨d3, S3, e1, y1, p1⟩ := h1 S2 (x.trans y)
  exact ⟨d3, S3, by unfold mOrT; rw [e]; exact e1, y.trans y1, p1⟩
theorem qe_ort (h : QE (isV (.bl true)) m sd S) : QE (isV (.bl true)) (mOrT m m1) sd S := fun S1 x => by
  obtain ⟨d, S2, e, y, p⟩ := h S1 x
  cases p
  exact ⟨.bl true, S2, by unfold mOrT; rw [e]; rfl, y, rfl⟩
theorem qe_ift (h : QT true t sd S) (h1 : QE P m sd S) : QE P (mIf t m m1) sd S := fun S1 x => by
  obtain ⟨S2, e, y⟩ := h S1 x
  obtain ⟨d3, S3, e1, y1, p1⟩ := h1 S2 (x.trans y)
  exact ⟨d3, S3, by unfold mIf; rw [e]; exact e1, y.trans y1, p1⟩
theorem qe_iff (h : QT false t sd S) (h1 : QE P m1 sd S) : QE P (mIf t m m1) sd S := fun S1 x => by
  obtain ⟨S2, e, y⟩ := h S1 x
  obtain ⟨d3, S3, e1, y1, p1⟩ := h1 S2 (x.trans y)
  exact ⟨d3, S3, by unfold mIf; rw [e]; exact e1, y.trans y1, p1⟩
theorem qr_ret (h : QE P m sd S) : QR P (sRet m) sd S := fun S1 x => by
  obtain ⟨d, S2, e, y, p⟩ := h S1 x
  exact ⟨d, S2, sRet_ok e, y, p⟩
theorem qr_iff (h : QT false t sd S) (k : QR P r sd S) : QR P (sSeq (sIf t s sSkip) r) sd S := fun S1 x => by
  obtain ⟨S2, e, y⟩ := h S1 x
  obtain ⟨d, S3, e1, y1, p1⟩ := k S2 (x.trans y)
  exact ⟨d, S3, by rw [sSeq_nx (sd1 := sd) (S1 := S2) (by rw [sIf_f e]; rfl)]; exact e1, y.trans y1, p1⟩
theorem qr_ift (h : QT true t sd S) (k : QR P s sd S) {s' : MS} : QR P (sSeq (sIf t s s') r) sd S := fun S1 x => by
  obtain ⟨S2, e, y⟩ := h S1 x
  obtain ⟨d, S3, e1, y1, p1⟩ := k S2 (x.trans y)
  exact ⟨d, S3, by rw [sSeq_rt (x := d) (S1 := S3) (by rw [sIf_t e]; exact e1)], y.trans y1, p1⟩
theorem qr_set {i : Nat} (h : QE P' m sd S) (k : ∀ d S', Ext S S' → P' S' d → QR P r (sd.set i (some d)) S') : QR P (sSeq (sSet i m) r) sd S := fun S1 x => by
  obtain ⟨d, S2, e, y, p⟩ := h S1 x
  obtain ⟨d3, S3, e1, y1, p1⟩ := k d S2 (x.trans y) p S2 Ext.refl
  exact ⟨d3, S3, by rw [sSeq_nx (sSet_ok e)]; exact e1, y.trans y1, p1⟩
theorem qr_par {i j : Nat} (mo : Mono P') (h : QE P' m sd S) (h1 : QE P'' m1 sd S) (k : ∀ d d' S', Ext S S' → P' S' d → P'' S' d' → QR P r ((sd.set i (some d)).set j (some d')) S') : QR P (sSeq (sPar i j (mCons m (mCons m1 mNil))) r) sd S := fun S1 x => by
  obtain ⟨d, S2, e, y, p⟩ := h S1 x
  obtain ⟨d1, S3, e1, y1, p1⟩ := h1 S2 (x.trans y)
  obtain ⟨d3, S4, e3, y3, p3⟩ := k d d1 S3 ((x.trans y).trans y1) (mo _ _ _ y1 p) p1 S3 Ext.refl
  refine ⟨d3, S4, ?_, (y.trans y1).trans y3, p3⟩
  rw [sSeq_nx (sd1 := (sd.set i (some d)).set j (some d1)) (S1 := S3) (by unfold sPar; rw [mCons_ok e (mCons_ok e1 mNil_ok)]; rfl)]
  exact e3
theorem f1_of {n : Nat} (h : ∀ S d, P S d → QR Q r (stD n [d]) S) : F1 P Q (mkF n 1 r) := fun S d p => by
  obtain ⟨e, S2, e1, y, q⟩ := h S d p S Ext.refl
  exact ⟨e, S2, by show (r (stD n [d]) S).res = _; rw [e1]; rfl, y, q⟩
theorem f2_of {n : Nat} (h : ∀ S d d', P S d → P' S d' → QR Q r (stD n [d, d']) S) : F2 P P' Q (mkF n 2 r) := fun S d d' p p' => by
  obtain ⟨e, S2, e1, y, q⟩ := h S d d' p p' S Ext.refl
  exact ⟨e, S2, by show (r (stD n [d, d']) S).res = _; rw [e1]; rfl, y, q⟩
theorem f3_of {n : Nat} (h : ∀ S d d' d'', P S d → P' S d' → P'' S d'' → QR Q r (stD n [d, d', d'']) S) : F3 P P' P'' Q (mkF n 3 r) := fun S d d' d'' p p' p'' => by
  obtain ⟨e, S2, e1, y, q⟩ := h S d d' d'' p p' p'' S Ext.refl
  exact ⟨e, S2, by show (r (stD n [d, d', d'']) S).res = _; rw [e1]; rfl, y, q⟩
end
end Y

/-! Wb: loops and comprehensions over lists of pairs, over all stores. -/
namespace Y
open PySem PySem.Spec PyProof.Rows L2
/-- all but the cell f stay -/
structure Off (f : Nat) (S S' : Sto) : Prop where
  n : S'.n = S.n
  c : ∀ j, j ≠ f → S'.get j = S.get j
theorem Off.refl {f : Nat} {S : Sto} : Off f S S := ⟨rfl, fun _ _ => rfl⟩
theorem Off.trans {f : Nat} {S S1 S2 : Sto} (a : Off f S S1) (b : Off f S1 S2) : Off f S S2 := ⟨b.n.trans a.n, fun j h => (b.c j h).trans (a.c j h)⟩
theorem Off.set {f : Nat} {S : Sto} {c : Cell} : Off f S (S.set f c) := ⟨Sto.set_n .., fun j h => Sto.get_set_ne h⟩
theorem Off.ext {S S' : Sto} {c : Cell} (h : Off S.n (S.new c) S') : Ext S S' := fun j x hj => by
  have := Sto.get_lt hj
  rw [h.c j (by omega)]
  exact Ext.new j x hj
theorem forLoop_gen {α : Type} {u : List α} {it : ItD} {g : α → D} {tg : Tg} {b : MS} {J : SD → Prop} {R : List α → Sto → Prop} (look : ∀ pre S, R pre S → ∀ i, itNext it i S = some (u[i]?.map g))
    (step : ∀ pre p post sd S, u = pre ++ p :: post → J sd → R pre S → ∃ sd1 sd2 S2, asg tg (g p) sd = some sd1 ∧ b sd1 S = .nx sd2 S2 ∧ J sd2 ∧ R (pre ++ [p]) S2) :
    ∀ post pre n sd S, u = pre ++ post → post.length < n → J sd → R pre S → ∃ sd' S', forLoop it tg b n pre.length sd S = .nx sd' S' ∧ J sd' ∧ R u S'
  | [], pre, 0, sd, S, hu, hn, hj, hr => by simp at hn
  | [], pre, n + 1, sd, S, hu, hn, hj, hr => by
    refine ⟨sd, S, ?_, hj, by rw [hu, List.append_nil]; exact hr⟩
    unfold forLoop
    rw [look pre S hr]
    have : u[pre.length]? = none := by rw [hu]; simp
    rw [this]
    rfl
  | p :: post, pre, 0, sd, S, hu, hn, hj, hr => by simp at hn
  | p :: post, pre, n + 1, sd, S, hu, hn, hj, hr => by
    obtain ⟨sd1, sd2, S2, e1, e2, j2, r2⟩ := step pre p post sd S hu hj hr
    obtain ⟨sd', S', e3, j3, r3⟩ := forLoop_gen look step post (pre ++ [p]) n sd2 S2 (by rw [hu]; simp) (by simp at hn; omega) j2 r2
    refine ⟨sd', S', ?_, j3, r3⟩
    unfold forLoop
    rw [look pre S hr]
    have : u[pre.length]? = some p := by rw [hu]; simp
    rw [this]
    simp only [Option.map_some, e1, e2, SRes.turn]
    rw [List.length_append] at e3
    exact e3
/-- loops with any numbers -/
theorem forLoop_all {α : Type} {u : List α} {it : ItD} {g : α → D} {tg : Tg} {b : MS} {T : D → Sto → Prop} {R : List α → SD → Sto → Prop} (look : ∀ pre sd S, R pre sd S → ∀ i, itNext it i S = some (u[i]?.map g))
    (step : ∀ pre p post sd S, u = pre ++ p :: post → R pre sd S → ∃ sd1, asg tg (g p) sd = some sd1 ∧ AllS (b sd1 S) (fun sd2 S2 => R (pre ++ [p]) sd2 S2) T) :
    ∀ post pre n sd S, u = pre ++ post → post.length < n → R pre sd S → AllS (forLoop it tg b n pre.length sd S) (fun sd' S' => R u sd' S') T
  | [], pre, 0, sd, S, hu, hn, hr => by simp at hn
  | [], pre, n + 1, sd, S, hu, hn, hr => by
    unfold forLoop
    rw [look pre sd S hr]
    have : u[pre.length]? = none := by rw [hu]; simp
    rw [this]
    refine .nx ?_
    rw [hu, List.append_nil]
    exact hr
  | p :: post, pre, 0, sd, S, hu, hn, hr => by simp at hn
  | p :: post, pre, n + 1, sd, S, hu, hn, hr => by
    obtain ⟨sd1, e1, a⟩ := step pre p post sd S hu hr
    unfold forLoop
    rw [look pre sd S hr]
    have : u[pre.length]? = some p := by rw [hu]; simp
    rw [this]
    simp only [Option.map_some, e1]
    have key : ∀ r : SRes, AllS r (fun sd2 S2 => R (pre ++ [p]) sd2 S2) T → AllS (r.turn (forLoop it tg b n (pre.length + 1))) (fun sd' S' => R u sd' S') T := by
      intro r h
      generalize hN : (fun sd2 S2 => R (pre ++ [p]) sd2 S2) = N at h
      induction h with
      | nx h =>
        subst hN
        have := forLoop_all look step post (pre ++ [p]) n _ _ (by rw [hu]; simp) (by simp at hn; omega) h
        rw [List.length_append] at this
        exact this
      | rt h => exact .rt h
      | pick h ih => exact .pick fun k hk => ih k hk (fun pre' p' post' sd S hu hr => step pre' p' post' sd S hu hr) a hN
    exact key _ a
/-- iterating a dict of pairs -/
structure DIt (u : W.T) (k : Nat) (sd : SD) (mi : MI) (it : ItD) (g : Int × Int → D) : Prop where
  go : ∀ lk S, S.get k = some (.dct (lk + 1) (enc u)) → mi sd S = .ok it S
  nx : ∀ lk S i, S.get k = some (.dct lk (enc u)) → itNext it i S = some (u[i]?.map g)
  ln : ∀ lk S, S.get k = some (.dct lk (enc u)) → itLen it S = u.length
theorem dit_i {u : W.T} {k : Nat} {sd : SD} {m : ME} (h : ∀ S lk, S.get k = some (.dct lk (enc u)) → m sd S = .ok (.loc k) S) : DIt u k sd (mItM itDi m) (.di k) fun p => .tup [.int p.1, .int p.2] := by
  refine ⟨fun lk S e => ?_, fun lk S i e => ?_, fun lk S e => ?_⟩
  · unfold mItM
    rw [h S _ e]
    simp only [Res.bind, itDi, e, enc_isK, if_true]
  · simp only [itNext, e, enc_at, Option.map_map]
    rfl
  · simp only [itLen, e, enc_len]
theorem dit_k {u : W.T} {k : Nat} {sd : SD} {m : ME} (h : ∀ S lk, S.get k = some (.dct lk (enc u)) → m sd S = .ok (.loc k) S) : DIt u k sd (mIt m) (.dk k) fun p => .int p.1 := by
  refine ⟨fun lk S e => ?_, fun lk S i e => ?_, fun lk S e => ?_⟩
  · unfold mIt
    rw [h S _ e]
    simp only [Res.bind, itOf, e]
  · simp only [itNext, e, enc_at, Option.map_map]
    rfl
  · simp only [itLen, e, enc_len]
theorem var_at {i : Nat} {d : D} {sd : SD} {S : Sto} (h : sd[i]? = some (some d)) : mVar i sd S = .ok d S := by unfold mVar; rw [h]
/-- a locked loop that changes one cell -/
theorem lock_for {u : W.T} {k f : Nat} {md : ME} {mi : MI} {it : ItD} {g : Int × Int → D} {tg : Tg} {b : MS} {J : SD → Prop} {acc : W.T → W.T} {S0 : Sto} {sd : SD} {lk : Nat}
    (hk : S0.get k = some (.dct lk (enc u))) (hf : S0.get f = some (.dct 0 (enc (acc [])))) (hne : f ≠ k) (hm : md sd S0 = .ok (.loc k) S0) (di : DIt u k sd mi it g) (hj : J sd)
    (step : ∀ pre p post sd S, u = pre ++ p :: post → J sd → S.get f = some (.dct 0 (enc (acc pre))) → (∃ l, S.get k = some (.dct (l + 1) (enc u))) → (∀ j, j ≠ f → j ≠ k → S.get j = S0.get j) → S.n = S0.n →
      ∃ sd1 sd2 S2, asg tg (g p) sd = some sd1 ∧ b sd1 S = .nx sd2 S2 ∧ J sd2 ∧ S2.get f = some (.dct 0 (enc (acc (pre ++ [p])))) ∧ Off f S S2) :
    ∃ sd' S', sLock md (sFor mi tg b) sd S0 = .nx sd' S' ∧ J sd' ∧ S'.get f = some (.dct 0 (enc (acc u))) ∧ Off f S0 S' := by
  have run : ∀ l S, S.get k = some (.dct (l + 1) (enc u)) → S.get f = some (.dct 0 (enc (acc []))) → (∀ j, j ≠ f → j ≠ k → S.get j = S0.get j) → S.n = S0.n →
      ∃ sd' S', sFor mi tg b sd S = .nx sd' S' ∧ J sd' ∧ S'.get f = some (.dct 0 (enc (acc u))) ∧ Off f S S' := by
    intro l S e1 e2 e3 e4
    unfold sFor
    rw [di.go l S e1]
    show ∃ sd' S', forLoop it tg b (itLen it S + 1) 0 sd S = .nx sd' S' ∧ _
    rw [di.ln _ S e1]
    exact forLoop_gen (J := J) (R := fun pre S2 => S2.get f = some (.dct 0 (enc (acc pre))) ∧ Off f S S2) (u := u) (it := it) (g := g)
      (fun pre S2 ⟨h1, h2⟩ i => di.nx _ S2 i (by rw [h2.c k (fun z => hne z.symm)]; exact e1))
      (fun pre p post sd S2 hu hj ⟨h1, h2⟩ => by
        obtain ⟨sd1, sd2, S3, q1, q2, q3, q4, q5⟩ := step pre p post sd S2 hu hj h1 ⟨l, by rw [h2.c k (fun z => hne z.symm)]; exact e1⟩ (fun j z1 z2 => (h2.c j z1).trans (e3 j z1 z2)) (h2.n.trans e4)
        exact ⟨sd1, sd2, S3, q1, q2, q3, q4, h2.trans q5⟩) u [] (u.length + 1) sd S rfl (Nat.lt_succ_self _) hj ⟨e2, Off.refl⟩
  unfold sLock
  rw [hm]
  simp only [hk]
  cases lk with
  | zero =>
    obtain ⟨sd', S', r1, r2, r3, r4⟩ := run 0 (S0.set k (.dct 1 (enc u))) (Sto.get_set_self hk) (by rw [Sto.get_set_ne hne]; exact hf) (fun j _ z => Sto.get_set_ne z) (Sto.set_n ..)
    have gk : S'.get k = some (.dct 1 (enc u)) := by rw [r4.c k (fun z => hne z.symm)]; exact Sto.get_set_self hk
    refine ⟨sd', S'.set k (.dct 0 (enc u)), ?_, r2, by rw [Sto.get_set_ne hne]; exact r3, by rw [Sto.set_n, r4.n, Sto.set_n], fun j hj => ?_⟩
    · simp only [r1, unlkS, gk]
    · by_cases z : j = k
      · subst z
        rw [Sto.get_set_self gk, hk]
      · rw [Sto.get_set_ne z, r4.c j hj, Sto.get_set_ne z]
  | succ l =>
    obtain ⟨sd', S', r1, r2, r3, r4⟩ := run l S0 hk hf (fun j _ _ => rfl) rfl
    exact ⟨sd', S', r1, r2, r3, r4⟩
/-- comprehensions of parts that change nothing -/
theorem lc_pure {α : Type} {u : List α} {it : ItD} {g : α → D} {tg : Tg} {q : MT} {e : ME} {sd : SD} {dl : Nat} {p : α → Bool} {f : α → D} {R : Sto → Prop} (hset : ∀ S l, R S → R (S.set dl (.lst l))) (look : ∀ S, R S → ∀ i, itNext it i S = some (u[i]?.map g))
    (hq : ∀ a ∈ u, ∃ sd1, asg tg (g a) sd = some sd1 ∧ (∀ S, R S → q sd1 S = .ok (p a) S) ∧ ∀ S, R S → p a = true → e sd1 S = .ok (f a) S) : ∀ (n i : Nat) (acc : List D) (S : Sto), R S → S.get dl = some (.lst acc) → acc.length + u.length ≤ 16777216 + i → i ≤ u.length → u.length < n + i →
    lcLoop it tg q e sd dl n i S = .ok (.loc dl) (S.set dl (.lst (acc ++ ((u.drop i).filter p).map f)))
  | 0, i, acc, S, hR, hd, hl, hi, hn => by omega
  | n + 1, i, acc, S, hR, hd, hl, hi, hn => by
    unfold lcLoop
    rw [look S hR i]
    by_cases h : i < u.length
    · have e1 : u[i]? = some u[i] := List.getElem?_eq_getElem h
      have hm : u[i] ∈ u := List.getElem_mem h
      have dr : u.drop i = u[i] :: u.drop (i + 1) := List.drop_eq_getElem_cons h
      obtain ⟨sd1, a1, a2, a3⟩ := hq _ hm
      simp only [e1, Option.map_some, a1, a2 S hR, Res.bindX]
      cases hp : p u[i] with
      | true =>
        have e2 := a3 S hR hp
        have g2 : (S.set dl (.lst (acc ++ [f u[i]]))).get dl = some (.lst (acc ++ [f u[i]])) := Sto.get_set_self hd
        have ih := lc_pure hset look hq n (i + 1) (acc ++ [f u[i]]) (S.set dl (.lst (acc ++ [f u[i]]))) (hset _ _ hR) g2 (by simp; omega) h (by omega)
        simp only [e2, Res.bindX, hd, if_true]
        rw [if_pos (by omega), ih, Sto.set_set, dr, List.filter_cons, hp]
        simp
      | false =>
        have ih := lc_pure hset look hq n (i + 1) acc S hR hd (by omega) h (by omega)
        simp only [Bool.false_eq_true, if_false]
        rw [ih, dr, List.filter_cons, hp]
        simp
    · have e1 : u[i]? = none := List.getElem?_eq_none (by omega)
      have dr : u.drop i = [] := List.drop_eq_nil_of_le (by omega)
      simp only [e1, Option.map_none]
      rw [dr]
      simp only [List.filter_nil, List.map_nil, List.append_nil]
      rw [Sto.set_get hd]
theorem dc_pure {α : Type} {u : List α} {it : ItD} {g : α → D} {tg : Tg} {q : MT} {ek ev : ME} {sd : SD} {dl : Nat} {p : α → Bool} {fk fv : α → Int} {R : Sto → Prop} (hset : ∀ S l, R S → R (S.set dl (.dct 0 l))) (look : ∀ S, R S → ∀ i, itNext it i S = some (u[i]?.map g))
    (hq : ∀ a ∈ u, ∃ sd1, asg tg (g a) sd = some sd1 ∧ (∀ S, R S → q sd1 S = .ok (p a) S) ∧ ∀ S, R S → p a = true → ek sd1 S = .ok (.int (fk a)) S ∧ ev sd1 S = .ok (.int (fv a)) S) : ∀ (n i : Nat) (acc : W.T) (S : Sto), R S → S.get dl = some (.dct 0 (enc acc)) → acc.length + u.length ≤ 16777216 + i → i ≤ u.length → u.length < n + i →
    dcLoop it tg q ek ev sd dl n i S = .ok (.loc dl) (S.set dl (.dct 0 (enc (((u.drop i).filter p).foldl (fun acc a => W.put acc (fk a) (fv a)) acc))))
  | 0, i, acc, S, hR, hd, hl, hi, hn => by omega
  | n + 1, i, acc, S, hR, hd, hl, hi, hn => by
    unfold dcLoop
    rw [look S hR i]
    by_cases h : i < u.length
    · have e1 : u[i]? = some u[i] := List.getElem?_eq_getElem h
      have hm : u[i] ∈ u := List.getElem_mem h
      have dr : u.drop i = u[i] :: u.drop (i + 1) := List.drop_eq_getElem_cons h
      obtain ⟨sd1, a1, a2, a3⟩ := hq _ hm
      simp only [e1, Option.map_some, a1, a2 S hR, Res.bindX]
      cases hp : p u[i] with
      | true =>
        obtain ⟨e2, e3⟩ := a3 S hR hp
        have g2 : (S.set dl (.dct 0 (enc (W.put acc (fk u[i]) (fv u[i]))))).get dl = some (.dct 0 (enc (W.put acc (fk u[i]) (fv u[i])))) := Sto.get_set_self hd
        have hlp := W.len_put acc (fk u[i]) (fv u[i])
        have ih := dc_pure hset look hq n (i + 1) (W.put acc (fk u[i]) (fv u[i])) _ (hset _ _ hR) g2 (by omega) h (by omega)
        have c : (decide ((enc acc).length < 16777216) && atomB (.int (fk u[i])) && isK (enc acc)) = true := by
          rw [enc_isK, enc_len, Bool.and_true, Bool.and_eq_true, decide_eq_true_eq]
          exact ⟨by omega, rfl⟩
        simp only [e2, e3, Res.bindX, hd, if_true]
        rw [if_pos c, enc_put, ih, Sto.set_set, dr, List.filter_cons, hp]
        simp
      | false =>
        have ih := dc_pure hset look hq n (i + 1) acc S hR hd (by omega) h (by omega)
        simp only [Bool.false_eq_true, if_false]
        rw [ih, dr, List.filter_cons, hp]
        simp
    · have e1 : u[i]? = none := List.getElem?_eq_none (by omega)
      have dr : u.drop i = [] := List.drop_eq_nil_of_le (by omega)
      simp only [e1, Option.map_none]
      rw [dr]
      simp only [List.filter_nil, List.foldl_nil]
      rw [Sto.set_get hd]
/-- new keys -/
theorem put_new {t : W.T} {e c : Int} (h : e ∉ t.map (·.1)) : W.put t e c = t ++ [(e, c)] := by
  unfold W.put
  rw [if_neg]
  intro hc
  obtain ⟨p, hp, e1⟩ := List.any_eq_true.mp hc
  exact h (List.mem_map.mpr ⟨p, hp, by simpa using e1⟩)
theorem fold_put {α : Type} {fk fv : α → Int} : ∀ (l : List α) (t : W.T), (l.map fk).Nodup → (∀ a ∈ l, fk a ∉ t.map (·.1)) → l.foldl (fun acc a => W.put acc (fk a) (fv a)) t = t ++ l.map fun a => (fk a, fv a)
  | [], t, _, _ => by simp
  | a :: l, t, hn, hd => by
    rw [List.map_cons, List.nodup_cons] at hn
    rw [List.foldl_cons, put_new (hd a (List.mem_cons_self ..)), fold_put l _ hn.2, List.map_cons, List.append_assoc]
    · rfl
    · intro b hb hc
      rw [List.map_append, List.mem_append] at hc
      rcases hc with hc | hc
      · exact hd b (List.mem_cons_of_mem _ hb) hc
      · have : fk b = fk a := by simpa using hc
        exact hn.1 (this ▸ List.mem_map.mpr ⟨b, hb, rfl⟩)
theorem merge_enc {t : W.T} (h : W.Nd t) : mergeKD (enc t) = enc t := by
  have key : ∀ (l acc : W.T), (enc l).foldl (fun acc p => putKD acc p.1 p.2) (enc acc) = enc (l.foldl (fun acc p => W.put acc p.1 p.2) acc) := by
    intro l
    induction l with
    | nil => intro acc; rfl
    | cons p l ih =>
      intro acc
      rw [enc_cons, List.foldl_cons, List.foldl_cons, enc_put, ih]
  have := key t []
  unfold mergeKD
  rw [show ([] : List (D × D)) = enc [] from rfl, this]
  have e := fold_put (α := Int × Int) (fk := fun p => p.1) (fv := fun p => p.2) t [] h (by simp)
  rw [e]
  simp
theorem pairs_enc : ∀ (t : W.T), pairsD (t.map fun p => D.tup [.int p.1, .int p.2]) = some (enc t)
  | [] => rfl
  | p :: t => by
    rw [List.map_cons]
    simp only [pairsD, atomB, if_true, pairs_enc t]
    rfl
theorem filter_true {α : Type} (l : List α) : l.filter (fun _ => true) = l := by
  induction l with
  | nil => rfl
  | cons a l ih => rw [List.filter_cons, if_pos rfl, ih]
/-- a comprehension over a dict -/
theorem lock_lcG {u : W.T} {k : Nat} {md : ME} {mi : MI} {it : ItD} {g : Int × Int → D} {tg : Tg} {e : ME} {vs : List Nat} {sd : SD} {S0 : Sto} {f : Int × Int → D} (hk : S0.get k = some (.dct 0 (enc u))) (hm : md sd S0 = .ok (.loc k) S0) (nx : ∀ lk S i, S.get k = some (.dct lk (enc u)) → itNext it i S = some (u[i]?.map g)) (ln : ∀ lk S, S.get k = some (.dct lk (enc u)) → itLen it S = u.length) (hgo : mi sd (S0.set k (.dct 1 (enc u))) = .ok it (S0.set k (.dct 1 (enc u))))
    (he : ∀ a ∈ u, ∃ sd1, asg tg (g a) (wipeD sd vs) = some sd1 ∧ ∀ S, S.get k = some (.dct 1 (enc u)) → e sd1 S = .ok (f a) S) (hl : u.length ≤ 16777216) :
    ∃ r S', mLock md (mLc mi tg tYesM e vs) sd S0 = .ok (.loc r) S' ∧ Ext S0 S' ∧ S'.get r = some (.lst (u.map f)) := by
  have hlt0 := Sto.get_lt hk
  have g4 : (S0.set k (.dct 1 (enc u))).get k = some (.dct 1 (enc u)) := Sto.get_set_self hk
  have n4 : (S0.set k (.dct 1 (enc u))).n = S0.n := Sto.set_n ..
  have eS : ∀ j c, j ≠ k → S0.get j = some c → (S0.set k (.dct 1 (enc u))).get j = some c := fun j c z h => by rw [Sto.get_set_ne z]; exact h
  have run : ∀ S4 : Sto, mi sd S4 = .ok it S4 → S4.get k = some (.dct 1 (enc u)) → mLc mi tg tYesM e vs sd S4 = .ok (.loc S4.n) ((S4.new (.lst [])).set S4.n (.lst (u.map f))) := by
    intro S4 hgo g4
    have hlt : k < S4.n := Sto.get_lt g4
    unfold mLc
    rw [hgo]
    simp only [Res.bind]
    rw [ln 1 S4 g4]
    have := lc_pure (u := u) (it := it) (g := g) (tg := tg) (q := tYesM) (e := e) (sd := wipeD sd vs) (dl := S4.n) (p := fun _ => true) (f := f)
      (R := fun S => S.get k = some (.dct 1 (enc u))) (fun S l a => by rw [Sto.get_set_ne (by omega)]; exact a) (fun S a i => nx 1 S i a)
      (fun p hp => let ⟨sd1, h1, h2⟩ := he p hp; ⟨sd1, h1, fun S _ => rfl, fun S a _ => h2 S a⟩) (u.length + 1) 0 [] (S4.new (.lst [])) (Ext.new _ _ g4) Sto.get_new_self (by simpa using hl) (Nat.zero_le _) (Nat.lt_succ_self _)
    rw [List.drop_zero, filter_true, List.nil_append] at this
    exact this
  unfold mLock
  rw [hm]
  simp only [hk]
  rw [run _ hgo g4]
  have g5 : (((S0.set k (.dct 1 (enc u))).new (.lst [])).set (S0.set k (.dct 1 (enc u))).n (.lst (u.map f))).get k = some (.dct 1 (enc u)) := by
    rw [Sto.get_set_ne (by omega)]
    exact Ext.new _ _ g4
  refine ⟨(S0.set k (.dct 1 (enc u))).n, (((S0.set k (.dct 1 (enc u))).new (.lst [])).set (S0.set k (.dct 1 (enc u))).n (.lst (u.map f))).set k (.dct 0 (enc u)), ?_, fun j c hj => ?_, ?_⟩
  · unfold unlkE
    rw [g5]
    rfl
  · by_cases z : j = k
    · subst z
      rw [hk] at hj
      cases hj
      exact Sto.get_set_self g5
    · have := Sto.get_lt hj
      rw [Sto.get_set_ne z, Sto.get_set_ne (by omega)]
      exact Ext.new _ _ (eS j c z hj)
  · rw [Sto.get_set_ne (by omega)]
    exact Sto.get_set_self Sto.get_new_self
/-- a comprehension over a dict -/
theorem lock_lc {u : W.T} {k : Nat} {md : ME} {mi : MI} {it : ItD} {g : Int × Int → D} {tg : Tg} {e : ME} {vs : List Nat} {sd : SD} {S0 : Sto} {f : Int × Int → D} (hk : S0.get k = some (.dct 0 (enc u))) (hm : md sd S0 = .ok (.loc k) S0) (di : DIt u k sd mi it g)
    (he : ∀ a ∈ u, ∃ sd1, asg tg (g a) (wipeD sd vs) = some sd1 ∧ ∀ S, S.get k = some (.dct 1 (enc u)) → e sd1 S = .ok (f a) S) (hl : u.length ≤ 16777216) :
    ∃ r S', mLock md (mLc mi tg tYesM e vs) sd S0 = .ok (.loc r) S' ∧ Ext S0 S' ∧ S'.get r = some (.lst (u.map f)) :=
  lock_lcG hk hm di.nx di.ln (di.go 0 _ (Sto.get_set_self hk)) he hl
/-! numbers -/
theorem eqDat_int {S : Sto} {a b : Int} : eqDat S (.int a) (.int b) = some (decide (a = b)) := by
  show (if SeqAt.shaped (.int a) && SeqAt.shaped (.int b) then some (PyData.eqv (.int a) (.int b)) else none) = _
  have h1 : ∀ a : Int, SeqAt.shaped (.int a) = true := fun _ => rfl
  rw [h1, h1]
  show some (PyData.eqv (.int a) (.int b)) = _
  have : PyData.eqv (.int a) (.int b) = decide (a = b) := by
    first
      | rfl
      | simp [PyData.eqv]
  rw [this]
theorem cNeG_int {S : Sto} {a b : Int} : cNeG (.int a) (.int b) S = .ok (.bl (decide (a ≠ b))) S := by
  show cNe (.int a) (.int b) S = _
  unfold cNe
  rw [eqDat_int]
  simp
theorem cEqG_int {S : Sto} {a b : Int} : cEqG (.int a) (.int b) S = .ok (.bl (decide (a = b))) S := by
  show cEq (.int a) (.int b) S = _
  unfold cEq
  rw [eqDat_int]
theorem ixG_enc {S : Sto} {k : Nat} {lk : Nat} {t : W.T} {e : Int} (h : S.get k = some (.dct lk (enc t))) (m : e ∈ t.map (·.1)) : ixG (.loc k) (.int e) S = .ok (.int (W.val t e)) S := by
  have ha : t.any (fun p => decide (p.1 = e)) = true := by
    obtain ⟨p, hp, z⟩ := List.mem_map.mp m
    exact List.any_eq_true.mpr ⟨p, hp, by simpa using z⟩
  simp only [ixG, isDct, dGet, h, if_true, enc_isK, atomB, enc_get, ha]
theorem dGet_enc {S : Sto} {k : Nat} {lk : Nat} {t : W.T} {e : Int} (h : S.get k = some (.dct lk (enc t))) : dGet (.loc k) (.int e) S = some (if t.any (fun p => decide (p.1 = e)) then some (.int (W.val t e)) else none) := by
  simp only [dGet, h, if_true, enc_isK, atomB, enc_get]
theorem get2_enc {S : Sto} {k : Nat} {lk : Nat} {t : W.T} {e : Int} {o kk : ME} {sd : SD} (h : S.get k = some (.dct lk (enc t))) (ho : o sd S = .ok (.loc k) S) (hk : kk sd S = .ok (.int e) S) : mGet2 o kk (mC (.int 0)) sd S = .ok (.int (W.val t e)) S := by
  unfold mGet2
  simp only [ho, hk, Res.bind, isDct, h, if_true, mC, dGet_enc h]
  cases ha : t.any (fun p => decide (p.1 = e)) with
  | true => simp
  | false => simp [W.val_none ha]
theorem stI_enc {S : Sto} {k : Nat} {t : W.T} {e c : Int} (h : S.get k = some (.dct 0 (enc t))) (hl : t.length < 16777216) : stI (.loc k) (.int e) (.int c) S = some (S.set k (.dct 0 (enc (W.put t e c)))) := by
  have : (decide ((enc t).length < 16777216) && okKey (enc t) (.int e)) = true := by
    rw [enc_len, Bool.and_eq_true, decide_eq_true_eq]
    refine ⟨hl, ?_⟩
    unfold okKey
    rw [enc_isK]
    rfl
  simp only [stI, h, this, if_true, enc_put]
end Y

/-! Wc: == of lists of pairs and of dicts of numbers; dict(..), items. -/
namespace Y
open PySem PySem.Spec PyProof.Rows L2
def pyP (t : W.T) : List PyData := t.map fun p => .tuple [.int p.1, .int p.2]
def tupP (t : W.T) : List D := t.map fun p => .tup [.int p.1, .int p.2]
theorem items_enc (t : W.T) : itemsD (enc t) = tupP t := by
  unfold itemsD enc tupP
  rw [List.map_map]
  rfl
theorem allP_tup (S : Sto) (n : Nat) : ∀ t : W.T, allP (toPy S (n + 2)) (tupP t) = some (pyP t)
  | [] => rfl
  | p :: t => by
    have ih := allP_tup S n t
    show (match toPy S (n + 2) (.tup [.int p.1, .int p.2]), allP (toPy S (n + 2)) (tupP t) with
      | some x, some xs => some (x :: xs)
      | _, _ => none) = _
    rw [ih]
    rfl
theorem toPy_lst {S : Sto} {k : Nat} {t : W.T} (h : S.get k = some (.lst (tupP t))) : toPy S 12 (.loc k) = some (.list (pyP t)) := by
  show (match S.get k with
      | some (.lst l) => (allP (toPy S 11) l).map PyData.list
      | _ => none) = _
  rw [h]
  simp only [allP_tup S 9 t]
  rfl
theorem lay_pyP : ∀ t : W.T, PyData.canLayAll0 (pyP t) = true
  | [] => rfl
  | p :: t => by
    show (PyData.canLay0 (.tuple [.int p.1, .int p.2]) && PyData.canLayAll0 (pyP t)) = true
    rw [lay_pyP t]
    rfl
theorem dep_pyP : ∀ t : W.T, PyData.depthAll (pyP t) ≤ 2
  | [] => by simp [pyP, PyData.depthAll]
  | p :: t => by
    have ih := dep_pyP t
    have : PyData.depthAll (pyP (p :: t)) = max (PyData.depth (.tuple [.int p.1, .int p.2])) (PyData.depthAll (pyP t)) := rfl
    rw [this]
    have h2 : PyData.depth (.tuple [.int p.1, .int p.2]) ≤ 2 := by simp [PyData.depth, PyData.depthAll]
    omega
theorem eqv_pyP : ∀ t : W.T, PyData.eqvAll (pyP t) (pyP t) = true
  | [] => by simp [pyP, PyData.eqvAll]
  | p :: t => by
    have ih := eqv_pyP t
    show (PyData.eqv (.tuple [.int p.1, .int p.2]) (.tuple [.int p.1, .int p.2]) && PyData.eqvAll (pyP t) (pyP t)) = true
    rw [ih]
    simp [PyData.eqv, PyData.eqvAll]
theorem sh_pyP (t : W.T) : SeqAt.shaped (.list (pyP t)) = true := by
  unfold SeqAt.shaped
  rw [Bool.and_eq_true, decide_eq_true_eq]
  refine ⟨lay_pyP t, ?_⟩
  have : PyData.depth (.list (pyP t)) = PyData.depthAll (pyP t) + 1 := by simp [PyData.depth]
  have := dep_pyP t
  omega
theorem eq_lists {S : Sto} {a b : Nat} {t : W.T} (h1 : S.get a = some (.lst (tupP t))) (h2 : S.get b = some (.lst (tupP t))) : cEqG (.loc a) (.loc b) S = .ok (.bl true) S := by
  have : isDct (.loc a) S = false := by simp only [isDct, h1]
  unfold cEqG
  rw [this]
  show cEq (.loc a) (.loc b) S = _
  unfold cEq eqDat
  rw [toPy_lst h1, toPy_lst h2]
  have ev : PyData.eqv (.list (pyP t)) (.list (pyP t)) = true := by
    have : PyData.eqv (.list (pyP t)) (.list (pyP t)) = PyData.eqvAll (pyP t) (pyP t) := by simp [PyData.eqv]
    rw [this, eqv_pyP]
  simp only [sh_pyP, Bool.and_self, if_true, ev]
theorem hits_enc {S : Sto} : ∀ (u t : W.T), (∀ p ∈ u, W.val t p.1 = p.2 ∧ t.any (fun q => decide (q.1 = p.1)) = true) → eqHits S (enc t) (enc u) = some true
  | [], t, _ => rfl
  | p :: u, t, h => by
    obtain ⟨h1, h2⟩ := h p (List.mem_cons_self ..)
    have ih := hits_enc (S := S) u t fun q hq => h q (List.mem_cons_of_mem _ hq)
    rw [enc_cons]
    unfold eqHits
    simp only [enc_get, h2, if_true, h1, eqDat_int, ih, decide_true, Bool.and_self]
theorem eq_dcts {S : Sto} {a b : Nat} {t : W.T} (hn : W.Nd t) (h1 : S.get a = some (.dct 0 (enc t))) (h2 : S.get b = some (.dct 0 (enc t))) : cEqG (.loc a) (.loc b) S = .ok (.bl true) S := by
  have hi : isDct (.loc a) S = true := by simp only [isDct, h1]
  unfold cEqG
  rw [hi]
  have d1 : dctK (.loc a) S = some (enc t) := by simp only [dctK, h1, enc_isK, if_true]
  have d2 : dctK (.loc b) S = some (enc t) := by simp only [dctK, h2, enc_isK, if_true]
  have e : eqDcts S (.loc a) (.loc b) = some true := by
    unfold eqDcts
    rw [d1, d2]
    simp only [if_true]
    exact hits_enc t t fun p hp => ⟨val_mem hn p hp, List.any_eq_true.mpr ⟨p, hp, by simp⟩⟩
  rw [e]
  rfl
/-- == {} -/
theorem eq_dct0 {S : Sto} {a b : Nat} {t : W.T} (h1 : S.get a = some (.dct 0 (enc t))) (h2 : S.get b = some (.dct 0 [])) : eqDcts S (.loc a) (.loc b) = some (decide (t = [])) := by
  have d1 : dctK (.loc a) S = some (enc t) := by simp only [dctK, h1, enc_isK, if_true]
  have d2 : dctK (.loc b) S = some [] := by simp only [dctK, h2, isK, if_true]
  unfold eqDcts
  rw [d1, d2]
  cases t with
  | nil => rfl
  | cons p t => rfl
theorem cEq_dct0 {S : Sto} {a b : Nat} {t : W.T} (h1 : S.get a = some (.dct 0 (enc t))) (h2 : S.get b = some (.dct 0 [])) : cEqG (.loc a) (.loc b) S = .ok (.bl (decide (t = []))) S := by
  have hi : isDct (.loc a) S = true := by simp only [isDct, h1]
  unfold cEqG
  rw [hi, eq_dct0 h1 h2]
  rfl
theorem cNe_dct0 {S : Sto} {a b : Nat} {t : W.T} (h1 : S.get a = some (.dct 0 (enc t))) (h2 : S.get b = some (.dct 0 [])) : cNeG (.loc a) (.loc b) S = .ok (.bl (!decide (t = []))) S := by
  have hi : isDct (.loc a) S = true := by simp only [isDct, h1]
  unfold cNeG
  rw [hi, eq_dct0 h1 h2]
  rfl
/-- dicts that differ -/
theorem hits_miss {S : Sto} : ∀ (u t : W.T), (∃ p ∈ u, t.any (fun q => decide (q.1 = p.1)) = false) → eqHits S (enc t) (enc u) = some false
  | [], t, ⟨p, h, _⟩ => by simp at h
  | p :: u, t, ⟨q, hq, hm⟩ => by
    rw [enc_cons]
    unfold eqHits
    cases ha : t.any (fun q => decide (q.1 = p.1)) with
    | false =>
      simp only [enc_get, ha]
      rfl
    | true =>
      rcases List.mem_cons.mp hq with rfl | hq
      · rw [hm] at ha
        cases ha
      · have ih := hits_miss (S := S) u t ⟨q, hq, hm⟩
        simp only [enc_get, ha, if_true, eqDat_int, ih, Bool.and_false]
theorem fDict_d {S : Sto} {k lk : Nat} {t : W.T} (h : S.get k = some (.dct lk (enc t))) : fDict [.loc k] S = .ok (.loc S.n) (S.new (.dct 0 (enc t))) := by simp only [fDict, h, enc_isK, if_true]
theorem fDict_l {S : Sto} {k : Nat} {t : W.T} (h : S.get k = some (.lst (tupP t))) (hn : W.Nd t) : fDict [.loc k] S = .ok (.loc S.n) (S.new (.dct 0 (enc t))) := by
  simp only [fDict, h]
  rw [show tupP t = t.map fun p => D.tup [.int p.1, .int p.2] from rfl, pairs_enc]
  simp only [merge_enc hn]
theorem fItems_d {S : Sto} {k : Nat} {t : W.T} (h : S.get k = some (.dct 0 (enc t))) : fItems (.loc k) S = .ok (.loc S.n) (S.new (.lst (tupP t))) := by simp only [fItems, h, enc_isK, if_true, items_enc]
section
variable {m a b o i v : ME} {t : MT} {sd : SD} {S S1 S2 S3 S4 : Sto} {x y d od id : D} {k : Bool}
theorem bind_ok {α β : Type} {a : α} {S : Sto} {k : α → Sto → Res β} : (Res.ok a S).bind k = k a S := rfl
theorem mAndT_t (e : a sd S = .ok (.bl true) S1) : mAndT a b sd S = b sd S1 := by unfold mAndT; rw [e]; rfl
theorem mAndT_f (e : a sd S = .ok (.bl false) S1) : mAndT a b sd S = .ok (.bl false) S1 := by unfold mAndT; rw [e]; rfl
theorem mTru_b (e : m sd S = .ok (.bl k) S1) : mTru m sd S = .ok k S1 := by unfold mTru; rw [e]; rfl
theorem tNot_ok (e : t sd S = .ok k S1) : tNotM t sd S = .ok (!k) S1 := by unfold tNotM; rw [e]; rfl
theorem sStI_ok {f : D → D → D → Sto → Option Sto} (e1 : v sd S = .ok d S1) (e2 : o sd S1 = .ok od S2) (e3 : i sd S2 = .ok id S3) (e4 : f od id d S3 = some S4) : sStI f o i v sd S = .nx sd S4 := by
  unfold sStI
  rw [e1]
  simp only [bindS]
  rw [e2]
  simp only [bindS]
  rw [e3]
  simp only [bindS, e4]
theorem sStA_ok {tab : List (Nat × Nat)} {c j : Nat} (e1 : v sd S = .ok d S1) (e2 : o sd S1 = .ok od S2) (e3 : clsD od S2 = some c) (e4 : tab.lookup c = some j) (e5 : setD od j d S2 = some S3) : sStA tab o v sd S = .nx sd S3 := by
  unfold sStA
  rw [e1]
  simp only [bindS]
  rw [e2]
  simp only [bindS, e3, e4, e5]
end
/-- sizes -/
theorem log_small {n : Nat} (h : n < 2 ^ 2000) : n.log2 < 2000 := by
  by_cases z : n = 0
  · subst z
    simp
  · exact (Nat.log2_lt z).mpr h
theorem mulOk_1 {i j : Int} (h : i.natAbs < 18446744073709551616) : mulOk i j = true := by unfold mulOk; simp [h]
theorem mulOk_2 {i j : Int} (h : i.natAbs < 2 ^ 2000) (h2 : j.natAbs < 2 ^ 2000) : mulOk i j = true := by
  unfold mulOk
  have := log_small h
  have := log_small h2
  rw [Bool.or_eq_true, decide_eq_true_eq, decide_eq_true_eq]
  right
  omega
end Y

/-! Wd: the ring of rows. -/
namespace Y
open W (Nd NF Eqv EB nrm tot summed prod)
def addR (t u : W.T) (m : Int) : W.T := nf (summed t u m)
def mulR (t u : W.T) : W.T := nf (prod t u [])
def negR (t : W.T) : W.T := nf (summed [] t (-1))
theorem nd_nil : Nd [] := .nil
theorem nf_nil : NF [] := ⟨.nil, by simp⟩
section
variable {t u v : W.T} {m : Int}
theorem addR_nf (h : Nd t) : NF (addR t u m) := nf_nf (W.summed_ok m u h).1
theorem mulR_nf : NF (mulR t u) := nf_nf (W.prod_ok u t nd_nil).1
theorem negR_nf : NF (negR t) := nf_nf (W.summed_ok (-1) t nd_nil).1
theorem addR_tot (h : Nd t) (g : Int → Int) : tot g (addR t u m) = tot g t + m * tot g u := by
  rw [addR, nf_eqv (W.summed_ok m u h).1 g, (W.summed_ok m u h).2.1 g]
theorem mulR_tot (g : Int → Int) : tot g (mulR t u) = tot (fun x => tot (fun y => g (x + y)) u) t := by
  rw [mulR, nf_eqv (W.prod_ok u t nd_nil).1 g, (W.prod_ok u t nd_nil).2.1 g]
  simp [tot]
theorem negR_tot (g : Int → Int) : tot g (negR t) = - tot g t := by
  rw [negR, nf_eqv (W.summed_ok (-1) t nd_nil).1 g, (W.summed_ok (-1) t nd_nil).2.1 g]
  simp [tot]
/-- sizes -/
structure Bk (i : Nat) (t : W.T) : Prop where
  nd : Nd t
  one : 1 ≤ i
  len : t.length ≤ 12 ^ i
  eb : EB t (20 * i)
  nr : nrm t ≤ 10 ^ (25 * i)
theorem add_le_mul {a b : Nat} (ha : 2 ≤ a) (hb : 2 ≤ b) : a + b ≤ a * b := by
  rcases Nat.le_total a b with h | h
  · have : 2 * b ≤ a * b := Nat.mul_le_mul_right _ ha
    omega
  · have : a * 2 ≤ a * b := Nat.mul_le_mul_left _ hb
    omega
theorem pow2_le {b i : Nat} (hb : 2 ≤ b) (hi : 1 ≤ i) : 2 ≤ b ^ i := Nat.le_trans hb (by
  have := Nat.pow_le_pow_right (n := b) (by omega) hi
  simpa using this)
theorem eb_mono {t : W.T} {M N : Nat} (h : EB t M) (hn : M ≤ N) : EB t N := fun p hp => Nat.le_trans (h p hp) hn
theorem Bk.up {i j : Nat} (h : Bk i t) (hij : i ≤ j) : Bk j t :=
  ⟨h.nd, Nat.le_trans h.one hij, Nat.le_trans h.len (Nat.pow_le_pow_right (by decide) hij), eb_mono h.eb (by omega), Nat.le_trans h.nr (Nat.pow_le_pow_right (by decide) (by omega))⟩
theorem Bk.add {i j : Nat} (h : Bk i t) (k : Bk j u) (hm : m.natAbs ≤ 1) : Bk (i + j) (addR t u m) := by
  obtain ⟨a, b, c, d, e⟩ := W.summed_ok m u h.nd
  have hi := h.one
  have hj := k.one
  refine ⟨(nf_nf a).nd, by omega, Nat.le_trans (nf_len _) (Nat.le_trans d ?_), nf_eb (e _ (eb_mono h.eb (by omega)) (eb_mono k.eb (by omega))), Nat.le_trans (nf_nrm a) (Nat.le_trans c ?_)⟩
  · rw [Nat.pow_add]
    exact Nat.le_trans (Nat.add_le_add h.len k.len) (add_le_mul (pow2_le (by decide) hi) (pow2_le (by decide) hj))
  · rw [Nat.mul_add, Nat.pow_add]
    have h3 : m.natAbs * nrm u ≤ 1 * nrm u := Nat.mul_le_mul_right _ hm
    rw [Nat.one_mul] at h3
    exact Nat.le_trans (Nat.add_le_add h.nr (Nat.le_trans h3 k.nr)) (add_le_mul (pow2_le (by decide) (by omega)) (pow2_le (by decide) (by omega)))
theorem Bk.mul {i j : Nat} (h : Bk i t) (k : Bk j u) : Bk (i + j) (mulR t u) := by
  obtain ⟨a, b, c, d, e⟩ := W.prod_ok u t nd_nil
  have hi := h.one
  refine ⟨(nf_nf a).nd, by omega, Nat.le_trans (nf_len _) (Nat.le_trans d ?_), nf_eb (e _ (20 * i) (20 * j) (by intro p hp; cases hp) h.eb k.eb (by omega)), Nat.le_trans (nf_nrm a) (Nat.le_trans c ?_)⟩
  · rw [Nat.pow_add, List.length_nil, Nat.zero_add]
    exact Nat.mul_le_mul h.len k.len
  · rw [Nat.mul_add, Nat.pow_add]
    show 0 + _ ≤ _
    rw [Nat.zero_add]
    exact Nat.mul_le_mul h.nr k.nr
theorem Bk.neg {i : Nat} (h : Bk i t) : Bk i (negR t) := by
  obtain ⟨a, b, c, d, e⟩ := W.summed_ok (-1) t nd_nil
  refine ⟨(nf_nf a).nd, h.one, Nat.le_trans (nf_len _) (Nat.le_trans d ?_), nf_eb (e _ (by intro p hp; cases hp) h.eb), Nat.le_trans (nf_nrm a) (Nat.le_trans c ?_)⟩
  · simpa using h.len
  · show 0 + 1 * _ ≤ _
    simpa using h.nr
theorem Bk.nf {i : Nat} (h : Bk i t) : Bk i (nf t) := ⟨(nf_nf h.nd).nd, h.one, Nat.le_trans (nf_len _) h.len, nf_eb h.eb, Nat.le_trans (nf_nrm h.nd) h.nr⟩
theorem Bk.e4 {i : Nat} (h : Bk i t) (hi : i ≤ 6) : EB t 10000 := eb_mono h.eb (by omega)
theorem Bk.l {i : Nat} (h : Bk i t) (hi : i ≤ 6) : t.length < 16777216 := Nat.lt_of_le_of_lt (h.up hi).len (by decide)
set_option exponentiation.threshold 3000 in
theorem Bk.n {i : Nat} (h : Bk i t) (hi : i ≤ 6) : nrm t < 2 ^ 2000 := Nat.lt_of_le_of_lt (h.up hi).nr (by decide)
theorem bk_one {n : Int} (h : n.natAbs ≤ 10 ^ 25) : Bk 1 [(0, n)] := ⟨by simp [Nd], Nat.le_refl _, by simp, fun p hp => by
  have : p = (0, n) := by simpa using hp
  rw [this]
  simp, by simpa [nrm] using h⟩
/-! equalities -/
theorem tot_cong {g k : Int → Int} (e : ∀ x, g x = k x) : tot g t = tot k t := W.tot_congr e t
theorem nf_eq' (ha : NF t) (hb : NF u) (h : ∀ g, tot g t = tot g u) : t = u := W.nf_eq ha hb h
theorem add_comm' (ht : Nd t) (hu : Nd u) : addR t u 1 = addR u t 1 := nf_eq' (addR_nf ht) (addR_nf hu) fun g => by rw [addR_tot ht, addR_tot hu]; omega
theorem mul_comm' : mulR t u = mulR u t := nf_eq' mulR_nf mulR_nf fun g => by
  rw [mulR_tot, mulR_tot, W.tot_swap]
  exact tot_cong fun x => tot_cong fun y => by rw [Int.add_comm]
theorem add_assoc' (ht : Nd t) (hu : Nd u) : addR (addR t u 1) v 1 = addR t (addR u v 1) 1 := nf_eq' (addR_nf (addR_nf ht).nd) (addR_nf ht) fun g => by
  rw [addR_tot (addR_nf ht).nd, addR_tot ht, addR_tot ht, addR_tot hu]
  omega
theorem mul_assoc' : mulR (mulR t u) v = mulR t (mulR u v) := nf_eq' mulR_nf mulR_nf fun g => by
  rw [mulR_tot, mulR_tot, mulR_tot]
  exact tot_cong fun x => by
    rw [mulR_tot]
    exact tot_cong fun y => tot_cong fun z => by rw [Int.add_assoc]
theorem mul_add' (hu : Nd u) : mulR t (addR u v 1) = addR (mulR t u) (mulR t v) 1 := nf_eq' mulR_nf (addR_nf mulR_nf.nd) fun g => by
  rw [mulR_tot, addR_tot mulR_nf.nd, mulR_tot, mulR_tot, Int.one_mul, ← W.tot_add]
  exact tot_cong fun x => by rw [addR_tot hu, Int.one_mul]
theorem sub_neg' (ht : Nd t) : addR t u (-1) = addR t (negR u) 1 := nf_eq' (addR_nf ht) (addR_nf ht) fun g => by
  rw [addR_tot ht, addR_tot ht, negR_tot]
  omega
theorem sub_self' (ht : Nd t) : addR t t (-1) = [] := nf_eq' (addR_nf ht) nf_nil fun g => by
  rw [addR_tot ht]
  simp only [tot]
  omega
theorem mul_nil' : mulR t [] = [] := nf_eq' mulR_nf nf_nil fun g => by
  rw [mulR_tot]
  simp only [tot]
  exact W.tot_zero t
theorem nil_mul' : mulR [] t = [] := nf_eq' mulR_nf nf_nil fun g => by
  rw [mulR_tot]
  rfl
theorem add_zero' (ht : NF t) : addR t [(0, 0)] 1 = t := nf_eq' (addR_nf ht.nd) ht fun g => by
  rw [addR_tot ht.nd]
  simp [tot]
theorem mul_one' (ht : NF t) : mulR t [(0, 1)] = t := nf_eq' mulR_nf ht fun g => by
  rw [mulR_tot]
  exact tot_cong fun x => by simp [tot]
theorem mul_m1' : mulR t [(0, -1)] = negR t := nf_eq' mulR_nf negR_nf fun g => by
  rw [mulR_tot, negR_tot]
  have : tot (fun x => tot (fun y => g (x + y)) [(0, -1)]) t = tot (fun x => (-1) * g x) t := tot_cong fun x => by simp [tot]
  rw [this, W.tot_mul]
  omega
theorem neg_neg' (ht : NF t) : negR (negR t) = t := nf_eq' negR_nf ht fun g => by rw [negR_tot, negR_tot]; omega
theorem add_nf' (ht : Nd t) (hu : Nd u) : addR t (nf u) m = addR t u m := nf_eq' (addR_nf ht) (addR_nf ht) fun g => by rw [addR_tot ht, addR_tot ht, nf_eqv hu]
theorem mul_nf' (hu : Nd u) : mulR t (nf u) = mulR t u := nf_eq' mulR_nf mulR_nf fun g => by
  rw [mulR_tot, mulR_tot]
  exact tot_cong fun x => nf_eqv hu _
/-! leading terms -/
theorem tot_mem {g k : Int → Int} : ∀ {t : W.T}, (∀ p ∈ t, g p.1 = k p.1) → tot g t = tot k t
  | [], _ => rfl
  | p :: t, h => by
    simp only [tot]
    rw [h p (List.mem_cons_self ..), tot_mem fun q hq => h q (List.mem_cons_of_mem _ hq)]
theorem tot_mem0 {g : Int → Int} {t : W.T} (h : ∀ p ∈ t, g p.1 = 0) : tot g t = 0 := by
  rw [tot_mem (k := fun _ => 0) h, W.tot_zero]
theorem tot_dl {e : Int} : ∀ {t : W.T}, Nd t → ∀ p ∈ t, p.1 = e → tot (W.dl e) t = p.2
  | q :: t, h, p, hp, he => by
    obtain ⟨h1, h2⟩ := W.nd_cons h
    rw [List.any_eq_false] at h1
    rcases List.mem_cons.mp hp with rfl | hp
    · have : tot (W.dl e) t = 0 := W.tot_dl_none fun r hr z => h1 r hr (by simp [z, he])
      simp only [tot, this, W.dl, he, if_true]
      omega
    · have hne : ¬ q.1 = e := fun z => h1 p hp (by simp [z, he])
      simp only [tot, W.dl, if_neg hne, tot_dl h2 p hp he]
      simp only [Int.mul_zero, Int.zero_add]
theorem mem_of_tot {e : Int} {t : W.T} (h : tot (W.dl e) t ≠ 0) : e ∈ t.map (·.1) := by
  refine Classical.byContradiction fun hn => h (W.tot_dl_none fun q hq z => hn (List.mem_map.mpr ⟨q, hq, z⟩))
theorem corner {M N : Int} (ht : NF t) (hu : NF u) (hM : M ∈ t.map (·.1)) (hN : N ∈ u.map (·.1)) (h : ∀ x ∈ t.map (·.1), ∀ y ∈ u.map (·.1), x + y = M + N → x = M ∧ y = N) : M + N ∈ (mulR t u).map (·.1) := by
  obtain ⟨p, hp, ep⟩ := List.mem_map.mp hM
  obtain ⟨q, hq, eq⟩ := List.mem_map.mp hN
  refine mem_of_tot ?_
  rw [mulR_tot]
  have e1 : tot (fun x => tot (fun y => W.dl (M + N) (x + y)) u) t = tot (fun x => W.dl M x * tot (W.dl N) u) t := tot_mem fun r hr => by
    have hx : r.1 ∈ t.map (·.1) := List.mem_map.mpr ⟨r, hr, rfl⟩
    by_cases z : r.1 = M
    · simp only [W.dl, z, if_true, Int.one_mul]
      exact tot_cong fun y => by
        by_cases w : y = N
        · simp [w, W.dl]
        · have : ¬ M + y = M + N := by omega
          simp [w, this, W.dl]
    · simp only [W.dl, if_neg z, Int.zero_mul]
      exact tot_mem0 fun s hs => by
        have : ¬ r.1 + s.1 = M + N := fun w => z (h _ hx _ (List.mem_map.mpr ⟨s, hs, rfl⟩) w).1
        simp [this]
  rw [e1, W.tot_mulr, tot_dl ht.nd p hp ep, tot_dl hu.nd q hq eq]
  exact Int.mul_ne_zero (ht.nz p hp) (hu.nz q hq)
theorem keys_mul {e : Int} (h : e ∈ (mulR t u).map (·.1)) : ∃ x ∈ t.map (·.1), ∃ y ∈ u.map (·.1), x + y = e := by
  refine Classical.byContradiction fun hn => ?_
  obtain ⟨p, hp, ep⟩ := List.mem_map.mp h
  have h1 := tot_dl mulR_nf.nd p hp ep
  have z : tot (fun x => tot (fun y => W.dl e (x + y)) u) t = 0 := tot_mem0 fun r hr => tot_mem0 fun s hs => by
    have : ¬ r.1 + s.1 = e := fun w => hn ⟨_, List.mem_map.mpr ⟨r, hr, rfl⟩, _, List.mem_map.mpr ⟨s, hs, rfl⟩, w⟩
    simp [W.dl, this]
  rw [mulR_tot, z] at h1
  exact mulR_nf.nz p hp h1.symm
theorem keys_ne (h : t ≠ []) : t.map (·.1) ≠ [] := by simpa using h
theorem max_unique {l : List Int} {M : Int} (h : M ∈ l) (h2 : ∀ x ∈ l, x ≤ M) : maxI l = M := by
  obtain ⟨a, b⟩ := maxI_ok (l := l) (by intro z; rw [z] at h; cases h)
  have := b M h
  have := h2 _ a
  omega
theorem min_unique {l : List Int} {M : Int} (h : M ∈ l) (h2 : ∀ x ∈ l, M ≤ x) : minI l = M := by
  obtain ⟨a, b⟩ := minI_ok (l := l) (by intro z; rw [z] at h; cases h)
  have := b M h
  have := h2 _ a
  omega
theorem max_mul (ht : NF t) (hu : NF u) (h1 : t ≠ []) (h2 : u ≠ []) : maxI ((mulR t u).map (·.1)) = maxI (t.map (·.1)) + maxI (u.map (·.1)) ∧ minI ((mulR t u).map (·.1)) = minI (t.map (·.1)) + minI (u.map (·.1)) ∧ mulR t u ≠ [] := by
  obtain ⟨a1, a2⟩ := maxI_ok (keys_ne h1)
  obtain ⟨b1, b2⟩ := maxI_ok (keys_ne h2)
  obtain ⟨c1, c2⟩ := minI_ok (keys_ne h1)
  obtain ⟨d1, d2⟩ := minI_ok (keys_ne h2)
  have cM := corner ht hu a1 b1 fun x hx y hy e => by
    have := a2 x hx
    have := b2 y hy
    omega
  have cm := corner ht hu c1 d1 fun x hx y hy e => by
    have := c2 x hx
    have := d2 y hy
    omega
  refine ⟨max_unique cM fun e he => ?_, min_unique cm fun e he => ?_, fun z => ?_⟩
  · obtain ⟨x, hx, y, hy, rfl⟩ := keys_mul he
    have := a2 x hx
    have := b2 y hy
    omega
  · obtain ⟨x, hx, y, hy, rfl⟩ := keys_mul he
    have := c2 x hx
    have := d2 y hy
    omega
  · rw [z] at cM
    cases cM
theorem mul_eq_nil (ht : NF t) (hu : NF u) : mulR t u = [] ↔ t = [] ∨ u = [] := by
  constructor
  · intro h
    refine Classical.byContradiction fun hn => ?_
    rw [not_or] at hn
    exact (max_mul ht hu hn.1 hn.2).2.2 h
  · rintro (rfl | rfl)
    · exact nil_mul'
    · exact mul_nil'
/-! values at 1 and -1 -/
def sg (v : Int) (e : Int) : Int := if e % 2 = 0 then 1 else v
theorem sg_add {x y : Int} : sg (-1) (x + y) = sg (-1) x * sg (-1) y := by
  unfold sg
  split <;> split <;> split <;> omega
theorem at1_mul : tot (sg 1) (mulR t u) = tot (sg 1) t * tot (sg 1) u := by
  have h : ∀ x, sg 1 x = 1 := fun x => by unfold sg; split <;> rfl
  rw [mulR_tot]
  have : tot (fun x => tot (fun y => sg 1 (x + y)) u) t = tot (fun x => sg 1 x * tot (sg 1) u) t := tot_cong fun x => by
    rw [h, Int.one_mul]
    exact tot_cong fun y => by rw [h, h]
  rw [this, W.tot_mulr]
end
end Y

/-! We: the law in two parts (a loop, then code that needs none of its names); loops and comprehensions with any numbers. -/
namespace Y
open PySem PySem.Spec PyProof.Rows L2
theorem tl_none {G : Glo} {ρ : Rho} {H : Hp} {σ : L2.St} {sd : SD} {S : Sto} {n : Nat} (hs : RelSt G ρ H sd σ) (hr : Rep G ρ S H) (hl : sd.length = n) : ∃ ρ', RelSt G ρ' H (List.replicate n none) σ ∧ Rep G ρ' ⟨0, []⟩ H := by
  refine (Weak.cut (sd := sd) (sd' := List.replicate n none) (S := S) (S' := ⟨0, []⟩) (by rw [List.length_replicate, hl]) (fun i d q => ?_) (fun j c q => ?_)) G ρ H σ hs hr
  · rw [List.getElem?_replicate] at q
    split at q <;> cases q
  · simp [Sto.get] at q
theorem fn_two {G : Glo} {P : Program} {w : World} {mg : Str → Option Value} {base : Heap} {x qual : Str} {st : Stmt} {f : Addr} {fd : FuncData} {N ps : List Str} {k nn : Nat} {m1 m2 : MS} (F : Fun G.K x qual st f fd) (Sc : FnScope N ps (defScope st)) (hp : ps.length = 1) (hb : Binds G.K fd ps [])
    (body : ∀ (cdv : Value) (A : Around) (outer : List Env) (s : Shared) (H : Hp) (E : XK), Room k (A.deeper (envOfC qual (defScope st) s.heap.objs.size f cdv)) → (A.deeper (envOfC qual (defScope st) s.heap.objs.size f cdv)).guards = some [] →
      ∃ st1 rest, defBody st = st1 :: rest ∧ PSm G (cxOf (L2.CX P w) P w G.K mg base N qual (defScope st) f cdv A outer s H E) st1 m1 ∧ PSsm G (cxOf (L2.CX P w) P w G.K mg base N qual (defScope st) f cdv A outer s H E) rest m2)
    (h1 : ∀ ns : List Int, ns.length ≤ nn → AllS (m1 (some (.scr ns) :: List.replicate (N.length - 1) none) ⟨0, []⟩) (fun sd _ => sd.length = N.length) fun d _ => d = .bl true)
    (h2 : AllS (m2 (List.replicate N.length none) ⟨0, []⟩) (fun _ _ => False) fun d _ => d = .bl true) : FnT G P w mg base (k + 1) nn f :=
  fn_top F Sc hp hb fun cdv A outer s H W ns hn hr hg ok => by
    obtain ⟨st1, rest, e, b1, b2⟩ := body cdv A outer s H (fun _ _ _ => False) hr hg
    rw [e]
    refine ⟨_, pss_cons (b1 W ok) (b2 W ok), fun E σ H ⟨ρ, hs, hr⟩ hE => ?_⟩
    have ret : ∀ (d : D) (S1 : Sto), d = .bl true → ∀ ρ' H' v, Rep G ρ' S1 H' → RelD G ρ' H' d v → E.rt v H' := fun d S1 e ρ' H' v _ rd => by
      subst e
      simp only [RelD] at rd
      subst rd
      exact hE H'
    refine ⟨_, _, ρ, hs, hr, (h1 ns hn).aft (fun sd S1 hl ρ' H' σ' r1 r2 => ?_) ret⟩
    obtain ⟨ρ2, a, b⟩ := tl_none r2 r1 hl
    exact ⟨_, _, ρ2, a, b, h2.aft (fun _ _ z => z.elim) ret⟩
/-! loops -/
theorem AllR.bindX {α β : Type} {r : Res α} {k : α → Sto → Res β} {P : β → Sto → Prop} (h : AllR r fun a S => AllR (k a S) P) : AllR (r.bindX k) P := by
  generalize hq : (fun a S => AllR (k a S) P) = q at h
  induction h with
  | ok h => subst hq; exact h
  | pick h ih => exact .pick fun j hj => ih j hj hq
theorem AllR.of {α : Type} {r : Res α} {a : α} {S : Sto} {P : α → Sto → Prop} (e : r = .ok a S) (h : P a S) : AllR r P := by rw [e]; exact .ok h
theorem AllS.ofn {r : SRes} {sd : SD} {S : Sto} {N : SD → Sto → Prop} {T : D → Sto → Prop} (e : r = .nx sd S) (h : N sd S) : AllS r N T := by rw [e]; exact .nx h
theorem rng_next {n i : Nat} {S : Sto} : itNext (.rng 0 1 n) i S = some ((List.range n)[i]?.map fun k : Nat => D.int k) := by
  simp only [itNext]
  by_cases h : i < n
  · rw [if_pos h, List.getElem?_range h]
    simp
  · rw [if_neg h, List.getElem?_eq_none (by simpa using Nat.le_of_not_lt h)]
    rfl
/-- for x in range(n) -/
theorem for_rng {a : MA} {tg : Tg} {b : MS} {T : D → Sto → Prop} {R : Nat → SD → Sto → Prop} {sd : SD} {S : Sto} {B : Nat} (ha : AllR (a sd S) fun l S1 => ∃ n : Nat, l = [.int n] ∧ n ≤ B ∧ R 0 sd S1) (hB : B < 4611686018427387904)
    (step : ∀ i sd S, i < B → R i sd S → ∃ sd1, asg tg (.int i) sd = some sd1 ∧ AllS (b sd1 S) (fun sd2 S2 => R (i + 1) sd2 S2) T) : AllS (sFor (mIts itRng1 a) tg b sd S) (fun sd' S' => ∃ n ≤ B, R n sd' S') T := by
  unfold sFor mIts
  refine AllS.bind (AllR.bind (ha.mono fun l S1 ⟨n, e, hn, h0⟩ => ?_))
  subst e
  have er : itRng1 [.int n] S1 = .ok (.rng 0 1 n) S1 := by
    simp only [itRng1]
    rw [if_pos (by omega)]
    simp
  refine AllR.of er ?_
  show AllS (forLoop (.rng 0 1 n) tg b (n + 1) 0 sd S1) _ T
  have := forLoop_all (u := List.range n) (it := .rng 0 1 n) (g := fun k : Nat => D.int k) (tg := tg) (b := b) (T := T) (R := fun pre sd S => R pre.length sd S) (fun pre sd S _ i => rng_next)
    (fun pre p post sd S hu hr => by
      have hp : p = pre.length := by
        have h1 : (List.range n)[pre.length]? = some p := by rw [hu]; simp
        rw [List.getElem?_eq_some_iff] at h1
        obtain ⟨_, h2⟩ := h1
        simpa using h2.symm
      have hlt : pre.length < n := by
        have h3 : (List.range n).length = pre.length + (post.length + 1) := by rw [hu]; simp
        rw [List.length_range] at h3
        omega
      obtain ⟨sd1, e1, h1⟩ := step pre.length sd S (by omega) hr
      rw [hp]
      refine ⟨sd1, e1, h1.mono (fun sd2 S2 h => ?_) fun _ _ h => h⟩
      rw [List.length_append]
      exact h) (List.range n) [] (n + 1) sd S1 rfl (by simp) h0
  refine this.mono (fun sd' S' h => ⟨n, hn, ?_⟩) fun _ _ h => h
  rw [List.length_range] at h
  exact h
/-- [.. for x in ..] with parts that make things -/
theorem lc_all {α : Type} {u : List α} {it : ItD} {g : α → D} {tg : Tg} {e : ME} {sd : SD} {dl : Nat} {P : List D → Sto → Prop} (hu : u.length ≤ 16777216) (look : ∀ acc S, P acc S → S.get dl = some (.lst acc) → ∀ i, itNext it i S = some (u[i]?.map g))
    (step : ∀ a ∈ u, ∀ acc S, P acc S → S.get dl = some (.lst acc) → ∃ sd1, asg tg (g a) sd = some sd1 ∧ AllR (e sd1 S) fun y S2 => S2.get dl = some (.lst acc) ∧ P (acc ++ [y]) (S2.set dl (.lst (acc ++ [y])))) :
    ∀ (n i : Nat) (acc : List D) (S : Sto), P acc S → S.get dl = some (.lst acc) → acc.length = i → i ≤ u.length → u.length < n + i → AllR (lcLoop it tg tYesM e sd dl n i S) fun d S' => d = .loc dl ∧ ∃ acc', acc'.length = u.length ∧ S'.get dl = some (.lst acc') ∧ P acc' S'
  | 0, i, acc, S, hP, hd, hl, hi, hn => by omega
  | n + 1, i, acc, S, hP, hd, hl, hi, hn => by
    unfold lcLoop
    rw [look acc S hP hd i]
    by_cases h : i < u.length
    · have e1 : u[i]? = some u[i] := List.getElem?_eq_getElem h
      obtain ⟨sd1, a1, a2⟩ := step u[i] (List.getElem_mem h) acc S hP hd
      simp only [e1, Option.map_some, a1, tYesM, Res.bindX, if_true]
      refine AllR.bindX (a2.mono fun y S2 ⟨h1, h2⟩ => ?_)
      simp only [h1]
      rw [if_pos (by omega)]
      exact lc_all hu look step n (i + 1) (acc ++ [y]) _ h2 (Sto.get_set_self h1) (by simp; omega) h (by omega)
    · have e1 : u[i]? = none := List.getElem?_eq_none (by omega)
      simp only [e1, Option.map_none]
      exact .ok ⟨rfl, acc, by omega, hd, hP⟩
end Y

/-! Ga: laws that try a finite menu: looks at all ends of a call, what stays as it was. -/
namespace Y
open PySem PySem.Spec PyProof.Rows L2
mutual
def D.eqb : D → D → Bool
  | .non, .non => true
  | .bl a, .bl b => a == b
  | .int a, .int b => a == b
  | .str x, .str y => x == y
  | .tup l, .tup m => D.eqbs l m
  | .loc a, .loc b => a == b
  | .cls a, .cls b => a == b
  | .scr a, .scr b => a == b
  | _, _ => false
def D.eqbs : List D → List D → Bool
  | [], [] => true
  | a :: l, b :: m => D.eqb a b && D.eqbs l m
  | _, _ => false
end
mutual
theorem D.eqb_eq : ∀ {a b : D}, D.eqb a b = true → a = b
  | .non, b, h => by cases b <;> simp [D.eqb] at h <;> rfl
  | .bl a, b, h => by cases b <;> simp [D.eqb] at h <;> rw [h]
  | .int a, b, h => by cases b <;> simp [D.eqb] at h <;> rw [h]
  | .str a, b, h => by cases b <;> simp [D.eqb] at h <;> rw [h]
  | .loc a, b, h => by cases b <;> simp [D.eqb] at h <;> rw [h]
  | .cls a, b, h => by cases b <;> simp [D.eqb] at h <;> rw [h]
  | .scr a, b, h => by cases b <;> simp [D.eqb] at h <;> rw [h]
  | .tup l, b, h => by
    cases b <;> simp only [D.eqb, Bool.false_eq_true] at h
    rw [D.eqbs_eq h]
theorem D.eqbs_eq : ∀ {a b : List D}, D.eqbs a b = true → a = b
  | [], b, h => by cases b <;> simp [D.eqbs] at h <;> rfl
  | x :: l, b, h => by
    cases b with
    | nil => simp [D.eqbs] at h
    | cons y m =>
      simp only [D.eqbs, Bool.and_eq_true] at h
      rw [D.eqb_eq h.1, D.eqbs_eq h.2]
end
def eqbP : List (D × D) → List (D × D) → Bool
  | [], [] => true
  | a :: l, b :: m => D.eqb a.1 b.1 && D.eqb a.2 b.2 && eqbP l m
  | _, _ => false
theorem eqbP_eq : ∀ {a b : List (D × D)}, eqbP a b = true → a = b
  | [], b, h => by cases b <;> simp [eqbP] at h <;> rfl
  | x :: l, b, h => by
    cases b with
    | nil => simp [eqbP] at h
    | cons y m =>
      simp only [eqbP, Bool.and_eq_true] at h
      rw [eqbP_eq h.2, Prod.ext (D.eqb_eq h.1.1) (D.eqb_eq h.1.2)]
def eqbO : List (Option D) → List (Option D) → Bool
  | [], [] => true
  | some a :: l, some b :: m => D.eqb a b && eqbO l m
  | none :: l, none :: m => eqbO l m
  | _, _ => false
theorem eqbO_eq : ∀ {a b : List (Option D)}, eqbO a b = true → a = b
  | [], b, h => by cases b <;> simp [eqbO] at h <;> rfl
  | x :: l, b, h => by
    cases b with
    | nil => cases x <;> simp [eqbO] at h
    | cons y m =>
      cases x <;> cases y <;> simp only [eqbO, Bool.and_eq_true, Bool.false_eq_true] at h
      · rw [eqbO_eq h]
      · rw [D.eqb_eq h.1, eqbO_eq h.2]
def Cell.eqb : Cell → Cell → Bool
  | .lst l, .lst m => D.eqbs l m
  | .dct a l, .dct b m => a == b && eqbP l m
  | .ins a l, .ins b m => a == b && eqbO l m
  | .dice, .dice => true
  | .raw l, .raw m => eqbP l m
  | _, _ => false
theorem Cell.eqb_eq {a b : Cell} (h : Cell.eqb a b = true) : a = b := by
  cases a <;> cases b <;> simp only [Cell.eqb, Bool.and_eq_true, Bool.false_eq_true] at h
  · rw [D.eqbs_eq h]
  · rw [eqbP_eq h.2, eq_of_beq h.1]
  · rw [eqbO_eq h.2, eq_of_beq h.1]
  · rfl
  · rw [eqbP_eq h]
def eqbC : List Cell → List Cell → Bool
  | [], [] => true
  | a :: l, b :: m => Cell.eqb a b && eqbC l m
  | _, _ => false
theorem eqbC_eq : ∀ {a b : List Cell}, eqbC a b = true → a = b
  | [], b, h => by cases b <;> simp [eqbC] at h <;> rfl
  | x :: l, b, h => by
    cases b with
    | nil => simp [eqbC] at h
    | cons y m =>
      simp only [eqbC, Bool.and_eq_true] at h
      rw [Cell.eqb_eq h.1, eqbC_eq h.2]
/-- all cells of S stand in S1 as they stood -/
def keepsB (S S1 : Sto) : Bool := decide (S.n ≤ S1.n) && decide (S.c.length = S.n) && decide (S1.c.length = S1.n) && eqbC (S1.c.drop (S1.n - S.n)) S.c
/-- all cells name cells of S alone -/
def boundB (S : Sto) : Bool := decide (S.c.length = S.n) && S.c.all (Cell.bd S.n)
theorem keeps_get {S S1 : Sto} (h : keepsB S S1 = true) {j : Nat} {c : Cell} (hj : S.get j = some c) : S1.get j = some c := by
  unfold keepsB at h
  simp only [Bool.and_eq_true, decide_eq_true_eq] at h
  obtain ⟨⟨⟨h1, h2⟩, h3⟩, h4⟩ := h
  have e := eqbC_eq h4
  have hl := Sto.get_lt hj
  unfold Sto.get at hj ⊢
  rw [if_pos hl] at hj
  rw [if_pos (by omega), ← hj, ← e, List.getElem?_drop]
  congr 1
  omega
theorem bound_get {S : Sto} (h : boundB S = true) {j : Nat} {c : Cell} (hj : S.get j = some c) : c.bd S.n = true := by
  unfold boundB at h
  simp only [Bool.and_eq_true, List.all_eq_true] at h
  have hl := Sto.get_lt hj
  unfold Sto.get at hj
  rw [if_pos hl] at hj
  exact h.2 _ (List.mem_of_getElem? hj)
/-- names and younger cells forgotten -/
theorem weak_keeps {sd sd' : SD} {S S' : Sto} (hb : boundB S' = true) (h : keepsB S' S = true) (hs : sdIn sd' sd S'.n) : Weak sd S sd' S' :=
  Weak.look hs fun j c q => ⟨bound_get hb q, keeps_get h q⟩
/-- one look at all ends of a test that is never so -/
def isBl (k : Bool) : D → Bool
  | .bl b => b == k
  | _ => false
theorem never_mir {t : MT} {sd : SD} {S : Sto} (hb : boundB S = true) (hs : sdIn sd sd S.n) (h : endsR (fun b S1 => !b && keepsB S S1) (t sd S) = true) : AllR (t sd S) fun b S1 => b = false ∧ Weak sd S1 sd S :=
  (AllR.look h).mono fun b S1 h => by
    simp only [Bool.and_eq_true, Bool.not_eq_true'] at h
    exact ⟨h.1, weak_keeps hb h.2 hs⟩
/-- the end: every end is True -/
def endsT : SRes → Bool
  | .rt (.bl true) _ => true
  | .pick t f => (List.range t).all fun k => endsT (f k)
  | _ => false
theorem allS_endsT : ∀ {r : SRes}, endsT r = true → AllS r (fun _ _ => False) fun d _ => d = .bl true
  | .rt (.bl true) _, _ => .rt rfl
  | .pick t f, h => .pick fun k hk => allS_endsT (List.all_eq_true.mp h k (List.mem_range.mpr hk))
  | .rt .non _, h => by simp [endsT] at h
  | .rt (.bl false) _, h => by simp [endsT] at h
  | .rt (.int _) _, h => by simp [endsT] at h
  | .rt (.str _) _, h => by simp [endsT] at h
  | .rt (.tup _) _, h => by simp [endsT] at h
  | .rt (.loc _) _, h => by simp [endsT] at h
  | .rt (.cls _) _, h => by simp [endsT] at h
  | .rt (.scr _) _, h => by simp [endsT] at h
  | .nx _ _, h => by simp [endsT] at h
  | .bk _ _, h => by simp [endsT] at h
  | .ct _ _, h => by simp [endsT] at h
  | .ex _ _ _, h => by simp [endsT] at h
  | .stuck, h => by simp [endsT] at h
section
variable {G : Glo} {X : Cx}
/-- the last statements -/
theorem topE {sts : List Stmt} {m : MS} {W : WX} (h : PSsm G X sts m) (ok : XOk G X W) {sd : SD} {S : Sto} (a : AllS (m sd S) (fun _ _ => False) fun d _ => d = .bl true) : PSs X sts (fun E σ H => tl G sd S σ H ∧ ∀ H', E.rt (.bl true) H') :=
  PSs_imp (h W ok) fun E σ H ⟨⟨ρ, hs, hr⟩, k⟩ => ⟨sd, S, ρ, hs, hr, a.aft (fun _ _ z => z.elim) fun d S1 e ρ' H' v _ rd => by
    subst e
    simp only [RelD] at rd
    subst rd
    exact k H'⟩
end
/-- as fn_top, where the def makes lambdas -/
theorem fn_topC {G : Glo} {P : Program} {w : World} {mg : Str → Option Value} {base : Heap} {x qual : Str} {st : Stmt} {f c : Addr} {fd : FuncData} {N ps : List Str} {k nn : Nat} (F : Fun G.K x qual st f fd) (Sc : FnScope N ps (defScope st)) (hp : ps.length = 1) (hb : Binds G.K fd ps []) (hc : fd.code = .ref c)
    (body : ∀ (A : Around) (outer : List Env) (s : Shared) (H : Hp) (W : WX) (ns : List Int), ns.length ≤ nn → Room k (A.deeper (envOfC qual (defScope st) s.heap.objs.size f (.ref c))) → (A.deeper (envOfC qual (defScope st) s.heap.objs.size f (.ref c))).guards = some [] →
      XOk G (cxOf (L2.CX P w) P w G.K mg base N qual (defScope st) f (.ref c) A outer s H (fun _ _ _ => False)) W →
      ∃ t : TS, PSs (cxOf (L2.CX P w) P w G.K mg base N qual (defScope st) f (.ref c) A outer s H (fun _ _ _ => False)) (defBody st) t ∧ ∀ (E : Ends) σ H, tl G (some (.scr ns) :: List.replicate (N.length - 1) none) ⟨0, []⟩ σ H → (∀ H', E.rt (.bl true) H') → t E σ H) : FnT G P w mg base (k + 1) nn f := by
  intro A outer s H us vs ns ρ hr hg e0 r hn rd rp
  obtain ⟨oc, od, kV, doc, pm, an, cdv, ct, osl, rfl, lk, hcd⟩ := F.ex
  obtain rfl : cdv = .ref c := hc
  have hlen : vs.length = ps.length := by rw [← rd.length, hp]; rfl
  have hus : (us ++ []).length = ps.length := by rw [List.append_nil, ← r.length, hlen]
  have hbb := hb s us (e0.mod.kin.keeps fun b o e => (e0.bs b o e).1) hus
  rw [List.append_nil] at hbb
  refine LamX.run_ofS (N := N) lk hcd Sc hr e0 hbb r hlen fun hr2 => ?_
  obtain ⟨t, h1, h2⟩ := body A outer s H (fun cls d _ H => False) ns hn hr2 hg ⟨takes_of rfl rfl rfl rfl, passes_of rfl, rfl⟩
  exact ⟨t, h1, h2 _ _ _ ⟨ρ, stD_rel (N := N) rd, rp⟩ fun _ => rfl⟩
/-- a method call, its object a call: the two sides meet without a look into the object's text -/
theorem eval_methW {o e : Expr} {es : List Expr} {m : Str} {apos pos : Pos} {env : Env} {pl : Sem Bool} (hb : ∀ w, attributeBase o m env w = w)
    (hm : ∀ ov, methodCall o m apos pos env ov ((e :: es).length + ([] : List Keyword).length) (backTo pos (starEach (e :: es) env)) (backToKw pos (keywordEach [] env)) = (do
      let (f, first) ← holding [ov] (getMethod ov m pl)
      callWith pos f first (backTo pos (starEach (e :: es) env)) (backToKw pos (keywordEach [] env)))) :
    eval (.Call (.Attribute o m apos) (e :: es) [] pos) env = (do
      let ov ← eval o env
      standAt apos.atName
      let (f, first) ← holding [ov] (getMethod ov m pl)
      callWith pos f first (backTo pos (starEach (e :: es) env)) (backToKw pos (keywordEach [] env))) := by
  rw [arm_eval_Call, hb]
  simp only [hm]
theorem eval_methW0 {o : Expr} {m : Str} {apos pos : Pos} {env : Env} {pl : Sem Bool} (hb : ∀ w, attributeBase o m env w = w)
    (hm : ∀ ov, methodCall o m apos pos env ov (([] : List Expr).length + ([] : List Keyword).length) (backTo pos (starEach [] env)) (backToKw pos (keywordEach [] env)) = (do
      let (f, first) ← holding [ov] (getMethod ov m pl)
      callWith pos f first (backTo pos (starEach [] env)) (backToKw pos (keywordEach [] env)))) :
    eval (.Call (.Attribute o m apos) [] [] pos) env = (do
      let ov ← eval o env
      standAt apos.atName
      let (f, first) ← holding [ov] (getMethod ov m pl)
      callWith pos f first (backTo pos (starEach [] env)) (backToKw pos (keywordEach [] env))) := by
  rw [arm_eval_Call, hb]
  simp only [hm]
theorem ab_attr {g : Expr} {m2 m : Str} {p2 p : Pos} {as : List Expr} {ks : List Keyword} {env : Env} (w : Sem Value) : attributeBase (.Call (.Attribute g m2 p2) as ks p) m env w = w := rfl
theorem ab_kw {x m : Str} {p2 p : Pos} {as : List Expr} {k : Keyword} {ks : List Keyword} {env : Env} (w : Sem Value) : attributeBase (.Call (.Name x p2) as (k :: ks) p) m env w = w := by cases as <;> rfl
theorem len_range (B : Int) (hB : 1 ≤ B) (n : Nat) : ∃ j : Int, (if (if (n : Int) < B then (n : Int) else B) > 1 then (if (n : Int) < B then (n : Int) else B) else 1) = j ∧ 0 ≤ j ∧ j ≤ B := by
  refine ⟨_, rfl, ?_⟩
  have h0 : (0 : Int) ≤ n := Int.natCast_nonneg _
  split <;> split <;> omega
theorem dice_ok {ns : List Int} {k : Nat} (h : k < 1000000) (S : Sto) : mDice [.scr ns, .int k] S = .ok (.loc S.n) (S.new .dice) := by
  simp only [mDice]
  rw [if_pos (by omega)]
end Y

set_option maxHeartbeats 40000000
namespace K04
open PySem PySem.Spec PyProof.Rows L2 Y
abbrev pw : Program := PySem.Challenge.pw_crosswebs_k04_errors_of_rows
def top (i : Nat) : Stmt := PySem.Challenge.pw_crosswebs_k04_errors_of_rows.main.body.getD i (.Pass ⟨0, 0, 0, 0⟩)
abbrev s_is_integer : Stmt := top 3
abbrev s_is_power : Stmt := top 14
abbrev s_are_terms : Stmt := top 15
abbrev s_Row_getitem : Stmt := inCls (top 24) 14
abbrev s_sorted_terms : Stmt := top 19
abbrev s_Row_init : Stmt := inCls (top 24) 1
abbrev s_product_terms : Stmt := top 22
abbrev s_operand_terms : Stmt := top 20
abbrev s_Row_mul : Stmt := inCls (top 24) 12
abbrev s_summed_terms : Stmt := top 21
abbrev s_Row_add : Stmt := inCls (top 24) 10
abbrev s_Row_neg : Stmt := inCls (top 24) 13
abbrev s_Row_sub : Stmt := inCls (top 24) 11
abbrev s_Row_eq : Stmt := inCls (top 24) 23
abbrev s_wall : Stmt := top 0
abbrev s_power_text : Stmt := top 16
abbrev s_term_text : Stmt := top 17
abbrev s_terms_text : Stmt := top 18
abbrev s_quotient_terms : Stmt := top 23
abbrev s_require_row : Stmt := top 25
abbrev s_Ldice : Stmt := top 27
abbrev s_Lroll : Stmt := top 28
abbrev s_Row_len : Stmt := inCls (top 24) 21
abbrev s_Lpick : Stmt := top 29
abbrev s_Lword : Stmt := top 30
abbrev s_Row_none : Stmt := inCls (top 24) 3
abbrev s_Row_power : Stmt := inCls (top 24) 2
abbrev s_Lmade_right : Stmt := top 31
abbrev s_Row_shifted : Stmt := inCls (top 24) 15
abbrev s_Row_spread : Stmt := inCls (top 24) 16
abbrev s_Row_at : Stmt := inCls (top 24) 17
abbrev s_Row_turned : Stmt := inCls (top 24) 9
abbrev s_Row_raised : Stmt := inCls (top 24) 18
abbrev s_Lnumbers_right : Stmt := top 32
abbrev s_Row_quotient : Stmt := inCls (top 24) 19
abbrev s_Row_low : Stmt := inCls (top 24) 6
abbrev s_Lrest_right : Stmt := top 33
abbrev s_law : Stmt := top 34
abbrev si_InvalidNumber : Stmt := inCls (top 8) 0
theorem kxs_InvalidNumber : KxS si_InvalidNumber "self" "value" "value" := ⟨⟨_, _, _, _, _, _, _, _, _, _, _, _, rfl, fun _ _ _ _ _ => ⟨_, rfl⟩⟩, fun _ _ _ _ _ _ _ _ _ _ => rfl, ⟨_, rfl, rfl⟩, rfl, rfl, rfl, rfl, by decide +kernel, rfl, rfl, rfl, by decide +kernel, fun _ _ _ _ _ => rfl, fun _ _ _ _ _ => rfl, by decide +kernel, by decide +kernel⟩
abbrev si_TooMany : Stmt := inCls (top 9) 0
theorem kxs_TooMany : KxS si_TooMany "self" "limit" "limit" := ⟨⟨_, _, _, _, _, _, _, _, _, _, _, _, rfl, fun _ _ _ _ _ => ⟨_, rfl⟩⟩, fun _ _ _ _ _ _ _ _ _ _ => rfl, ⟨_, rfl, rfl⟩, rfl, rfl, rfl, rfl, by decide +kernel, rfl, rfl, rfl, by decide +kernel, fun _ _ _ _ _ => rfl, fun _ _ _ _ _ => rfl, by decide +kernel, by decide +kernel⟩
abbrev kit_t : List Nat := [0, 1, 2, 3, 4, 5, 6, 15]
abbrev kit_c : List Nat := [0, 1, 2, 3, 4, 5, 6, 15]
def kit_f (t c : Nat) : Bool := (t == 0 && c == 0) || (t == 1 && c == 0) || (t == 1 && c == 1) || (t == 2 && c == 2) || (t == 3 && c == 3) || (t == 4 && c == 4) || (t == 5 && c == 5) || (t == 6 && c == 6) || (t == 15 && c == 15)
abbrev kit : Nat → Nat → Option Bool := kitOf kit_t kit_c kit_f
abbrev kix_t : List Nat := [11, 13, 14, 12]
abbrev kix_c : List Nat := [11, 13, 14, 12]
def kix_f (t c : Nat) : Bool := (t == 11 && c == 11) || (t == 13 && c == 13) || (t == 14 && c == 14) || (t == 12 && c == 12)
abbrev kix : Nat → Nat → Option Bool := kitOf kix_t kix_c kix_f
abbrev eqts : List Nat := [0, 1, 2, 3, 4, 5, 6, 15]
structure Ad where
  a_is_integer : Addr
  fd_is_integer : FuncData
  a_is_power : Addr
  fd_is_power : FuncData
  a_are_terms : Addr
  fd_are_terms : FuncData
  a_Row_getitem : Addr
  fd_Row_getitem : FuncData
  a_sorted_terms : Addr
  fd_sorted_terms : FuncData
  a_Row_init : Addr
  fd_Row_init : FuncData
  a_product_terms : Addr
  fd_product_terms : FuncData
  a_operand_terms : Addr
  fd_operand_terms : FuncData
  a_Row_mul : Addr
  fd_Row_mul : FuncData
  a_summed_terms : Addr
  fd_summed_terms : FuncData
  a_Row_add : Addr
  fd_Row_add : FuncData
  a_Row_neg : Addr
  fd_Row_neg : FuncData
  a_Row_sub : Addr
  fd_Row_sub : FuncData
  a_Row_eq : Addr
  fd_Row_eq : FuncData
  a_wall : Addr
  fd_wall : FuncData
  a_power_text : Addr
  fd_power_text : FuncData
  a_term_text : Addr
  fd_term_text : FuncData
  a_terms_text : Addr
  fd_terms_text : FuncData
  a_quotient_terms : Addr
  fd_quotient_terms : FuncData
  a_require_row : Addr
  fd_require_row : FuncData
  a_Ldice : Addr
  fd_Ldice : FuncData
  a_Lroll : Addr
  fd_Lroll : FuncData
  a_Row_len : Addr
  fd_Row_len : FuncData
  a_Lpick : Addr
  fd_Lpick : FuncData
  a_Lword : Addr
  fd_Lword : FuncData
  a_Row_none : Addr
  fd_Row_none : FuncData
  a_Row_power : Addr
  fd_Row_power : FuncData
  a_Lmade_right : Addr
  fd_Lmade_right : FuncData
  cc_Lmade_right : Addr
  pt_Lmade_right : Addr
  a_Row_shifted : Addr
  fd_Row_shifted : FuncData
  a_Row_spread : Addr
  fd_Row_spread : FuncData
  a_Row_at : Addr
  fd_Row_at : FuncData
  a_Row_turned : Addr
  fd_Row_turned : FuncData
  a_Row_raised : Addr
  fd_Row_raised : FuncData
  a_Lnumbers_right : Addr
  fd_Lnumbers_right : FuncData
  cc_Lnumbers_right : Addr
  pt_Lnumbers_right : Addr
  a_Row_quotient : Addr
  fd_Row_quotient : FuncData
  a_Row_low : Addr
  fd_Row_low : FuncData
  a_Lrest_right : Addr
  fd_Lrest_right : FuncData
  cc_Lrest_right : Addr
  pt_Lrest_right : Addr
  a_law : Addr
  fd_law : FuncData
  c_InvalidRow : Addr
  c_InvalidNumber : Addr
  c_Row : Addr
  c_TooMany : Addr
  c_InvalidOperation : Addr
  p_Row_own_terms : Addr
  p_Row_turned : Addr
  p_Row_low : Addr
structure TT (P : Program) (G : Glo) (mg : Str → Option Value) (base : Heap) (A : Ad) : Prop where
  ko : KitOk G kit
  kx : KixOk G kix
  xm : ExOk G kix
  f_is_integer : Fun G.K "is_integer" "is_integer" s_is_integer A.a_is_integer A.fd_is_integer
  g_is_integer : mg "is_integer" = some (.ref A.a_is_integer)
  f_is_power : Fun G.K "is_power" "is_power" s_is_power A.a_is_power A.fd_is_power
  g_is_power : mg "is_power" = some (.ref A.a_is_power)
  f_are_terms : Fun G.K "are_terms" "are_terms" s_are_terms A.a_are_terms A.fd_are_terms
  g_are_terms : mg "are_terms" = some (.ref A.a_are_terms)
  f_Row_getitem : Fun G.K "__getitem__" "Row.__getitem__" s_Row_getitem A.a_Row_getitem A.fd_Row_getitem
  f_sorted_terms : Fun G.K "sorted_terms" "sorted_terms" s_sorted_terms A.a_sorted_terms A.fd_sorted_terms
  g_sorted_terms : mg "sorted_terms" = some (.ref A.a_sorted_terms)
  f_Row_init : FunD G.K "__init__" "Row.__init__" (defArgs s_Row_init) (defBody s_Row_init) (defScope s_Row_init) [] [("is_known", V.bl false)] A.a_Row_init A.fd_Row_init
  f_product_terms : Fun G.K "product_terms" "product_terms" s_product_terms A.a_product_terms A.fd_product_terms
  g_product_terms : mg "product_terms" = some (.ref A.a_product_terms)
  f_operand_terms : Fun G.K "operand_terms" "operand_terms" s_operand_terms A.a_operand_terms A.fd_operand_terms
  g_operand_terms : mg "operand_terms" = some (.ref A.a_operand_terms)
  f_Row_mul : Fun G.K "__mul__" "Row.__mul__" s_Row_mul A.a_Row_mul A.fd_Row_mul
  f_summed_terms : Fun G.K "summed_terms" "summed_terms" s_summed_terms A.a_summed_terms A.fd_summed_terms
  g_summed_terms : mg "summed_terms" = some (.ref A.a_summed_terms)
  f_Row_add : Fun G.K "__add__" "Row.__add__" s_Row_add A.a_Row_add A.fd_Row_add
  f_Row_neg : Fun G.K "__neg__" "Row.__neg__" s_Row_neg A.a_Row_neg A.fd_Row_neg
  f_Row_sub : Fun G.K "__sub__" "Row.__sub__" s_Row_sub A.a_Row_sub A.fd_Row_sub
  f_Row_eq : Fun G.K "__eq__" "Row.__eq__" s_Row_eq A.a_Row_eq A.fd_Row_eq
  f_wall : Fun G.K "_wall" "_wall" s_wall A.a_wall A.fd_wall
  g_wall : mg "_wall" = some (.ref A.a_wall)
  f_power_text : Fun G.K "power_text" "power_text" s_power_text A.a_power_text A.fd_power_text
  g_power_text : mg "power_text" = some (.ref A.a_power_text)
  f_term_text : Fun G.K "term_text" "term_text" s_term_text A.a_term_text A.fd_term_text
  g_term_text : mg "term_text" = some (.ref A.a_term_text)
  f_terms_text : Fun G.K "terms_text" "terms_text" s_terms_text A.a_terms_text A.fd_terms_text
  g_terms_text : mg "terms_text" = some (.ref A.a_terms_text)
  f_quotient_terms : Fun G.K "quotient_terms" "quotient_terms" s_quotient_terms A.a_quotient_terms A.fd_quotient_terms
  g_quotient_terms : mg "quotient_terms" = some (.ref A.a_quotient_terms)
  f_require_row : Fun G.K "require_row" "require_row" s_require_row A.a_require_row A.fd_require_row
  g_require_row : mg "require_row" = some (.ref A.a_require_row)
  f_Ldice : Fun G.K "_law_dice" "_law_dice" s_Ldice A.a_Ldice A.fd_Ldice
  g_Ldice : mg "_law_dice" = some (.ref A.a_Ldice)
  f_Lroll : Fun G.K "_law_roll" "_law_roll" s_Lroll A.a_Lroll A.fd_Lroll
  g_Lroll : mg "_law_roll" = some (.ref A.a_Lroll)
  f_Row_len : Fun G.K "__len__" "Row.__len__" s_Row_len A.a_Row_len A.fd_Row_len
  f_Lpick : Fun G.K "_law_pick" "_law_pick" s_Lpick A.a_Lpick A.fd_Lpick
  g_Lpick : mg "_law_pick" = some (.ref A.a_Lpick)
  f_Lword : Fun G.K "_law_word" "_law_word" s_Lword A.a_Lword A.fd_Lword
  g_Lword : mg "_law_word" = some (.ref A.a_Lword)
  f_Row_none : Fun G.K "none" "Row.none" s_Row_none A.a_Row_none A.fd_Row_none
  f_Row_power : FunD G.K "power" "Row.power" (defArgs s_Row_power) (defBody s_Row_power) (defScope s_Row_power) [] [("many", V.int 1)] A.a_Row_power A.fd_Row_power
  f_Lmade_right : Fun G.K "_law_made_right" "_law_made_right" s_Lmade_right A.a_Lmade_right A.fd_Lmade_right
  cd_Lmade_right : A.fd_Lmade_right.code = .ref A.cc_Lmade_right
  tq_Lmade_right : (A.pt_Lmade_right, (("_law_made_right" : Str) ++ ".<locals>." ++ "<lambda>")) ∈ G.tb
  tu_Lmade_right : ∀ p ∈ G.tb, p.1 = A.pt_Lmade_right → p.2 = (("_law_made_right" : Str) ++ ".<locals>." ++ "<lambda>")
  tb_Lmade_right : LamX.TabB base mg A.cc_Lmade_right A.pt_Lmade_right
  g_Lmade_right : mg "_law_made_right" = some (.ref A.a_Lmade_right)
  f_Row_shifted : Fun G.K "shifted" "Row.shifted" s_Row_shifted A.a_Row_shifted A.fd_Row_shifted
  f_Row_spread : Fun G.K "spread" "Row.spread" s_Row_spread A.a_Row_spread A.fd_Row_spread
  f_Row_at : Fun G.K "at" "Row.at" s_Row_at A.a_Row_at A.fd_Row_at
  f_Row_turned : Fun G.K "turned" "Row.turned" s_Row_turned A.a_Row_turned A.fd_Row_turned
  f_Row_raised : Fun G.K "raised" "Row.raised" s_Row_raised A.a_Row_raised A.fd_Row_raised
  f_Lnumbers_right : Fun G.K "_law_numbers_right" "_law_numbers_right" s_Lnumbers_right A.a_Lnumbers_right A.fd_Lnumbers_right
  cd_Lnumbers_right : A.fd_Lnumbers_right.code = .ref A.cc_Lnumbers_right
  tq_Lnumbers_right : (A.pt_Lnumbers_right, (("_law_numbers_right" : Str) ++ ".<locals>." ++ "<lambda>")) ∈ G.tb
  tu_Lnumbers_right : ∀ p ∈ G.tb, p.1 = A.pt_Lnumbers_right → p.2 = (("_law_numbers_right" : Str) ++ ".<locals>." ++ "<lambda>")
  tb_Lnumbers_right : LamX.TabB base mg A.cc_Lnumbers_right A.pt_Lnumbers_right
  g_Lnumbers_right : mg "_law_numbers_right" = some (.ref A.a_Lnumbers_right)
  f_Row_quotient : Fun G.K "quotient" "Row.quotient" s_Row_quotient A.a_Row_quotient A.fd_Row_quotient
  f_Row_low : Fun G.K "low" "Row.low" s_Row_low A.a_Row_low A.fd_Row_low
  f_Lrest_right : Fun G.K "_law_rest_right" "_law_rest_right" s_Lrest_right A.a_Lrest_right A.fd_Lrest_right
  cd_Lrest_right : A.fd_Lrest_right.code = .ref A.cc_Lrest_right
  tq_Lrest_right : (A.pt_Lrest_right, (("_law_rest_right" : Str) ++ ".<locals>." ++ "<lambda>")) ∈ G.tb
  tu_Lrest_right : ∀ p ∈ G.tb, p.1 = A.pt_Lrest_right → p.2 = (("_law_rest_right" : Str) ++ ".<locals>." ++ "<lambda>")
  tb_Lrest_right : LamX.TabB base mg A.cc_Lrest_right A.pt_Lrest_right
  g_Lrest_right : mg "_law_rest_right" = some (.ref A.a_Lrest_right)
  f_law : Fun G.K "law" "law" s_law A.a_law A.fd_law
  g_law : mg "law" = some (.ref A.a_law)
  n_isinstance : mg "isinstance" = none
  n_dict : mg "dict" = none
  n_all : mg "all" = none
  n_int : mg "int" = none
  n_bool : mg "bool" = none
  n_abs : mg "abs" = none
  n_sorted : mg "sorted" = none
  n_super : mg "super" = none
  n_any : mg "any" = none
  n_max : mg "max" = none
  n_min : mg "min" = none
  n_len : mg "len" = none
  n_repr : mg "repr" = none
  n_sum : mg "sum" = none
  n_list : mg "list" = none
  n_range : mg "range" = none
  c_BOUND : ∃ u v, mg "BOUND" = some u ∧ RelV v u ∧ ∀ ρ H, RelD G ρ H (.int 1000000000000000000000000000000000000000000000000000000000000) v
  c_MAX_POWER : ∃ u v, mg "MAX_POWER" = some u ∧ RelV v u ∧ ∀ ρ H, RelD G ρ H (.int 10000) v
  c_LETTER : ∃ u v, mg "LETTER" = some u ∧ RelV v u ∧ ∀ ρ H, RelD G ρ H (.str [120]) v
  c_MAX_RAISED : ∃ u v, mg "MAX_RAISED" = some u ∧ RelV v u ∧ ∀ ρ H, RelD G ρ H (.int 100) v
  g_InvalidRow : mg "InvalidRow" = some (.ref A.c_InvalidRow)
  ca_InvalidRow : G.ca 11 = .ref A.c_InvalidRow
  g_InvalidNumber : mg "InvalidNumber" = some (.ref A.c_InvalidNumber)
  ca_InvalidNumber : G.ca 13 = .ref A.c_InvalidNumber
  g_Row : mg "Row" = some (.ref A.c_Row)
  ca_Row : G.ca 15 = .ref A.c_Row
  g_TooMany : mg "TooMany" = some (.ref A.c_TooMany)
  ca_TooMany : G.ca 14 = .ref A.c_TooMany
  g_InvalidOperation : mg "InvalidOperation" = some (.ref A.c_InvalidOperation)
  ca_InvalidOperation : G.ca 12 = .ref A.c_InvalidOperation
  sc_Row : SlX.SCls G.K A.c_Row ∧ SlX.SIsi G.K A.c_Row
  mk_Row : Mk G.K A.c_Row A.a_Row_init
  s1_Row_own_terms : SlX.Slot1 G.K A.c_Row "own_terms" A.p_Row_own_terms 0
  me_Row_getitem : Meth G.K A.c_Row "__getitem__" A.a_Row_getitem
  fi_Row_getitem : PySem.W.fnIn G.K A.a_Row_getitem = true
  me_Row_neg : Meth G.K A.c_Row "__neg__" A.a_Row_neg
  fi_Row_neg : PySem.W.fnIn G.K A.a_Row_neg = true
  me_Row_len : Meth G.K A.c_Row "__len__" A.a_Row_len
  fi_Row_len : PySem.W.fnIn G.K A.a_Row_len = true
  me_Row_shifted : Meth G.K A.c_Row "shifted" A.a_Row_shifted
  fi_Row_shifted : PySem.W.fnIn G.K A.a_Row_shifted = true
  me_Row_spread : Meth G.K A.c_Row "spread" A.a_Row_spread
  fi_Row_spread : PySem.W.fnIn G.K A.a_Row_spread = true
  me_Row_at : Meth G.K A.c_Row "at" A.a_Row_at
  fi_Row_at : PySem.W.fnIn G.K A.a_Row_at = true
  me_Row_raised : Meth G.K A.c_Row "raised" A.a_Row_raised
  fi_Row_raised : PySem.W.fnIn G.K A.a_Row_raised = true
  me_Row_quotient : Meth G.K A.c_Row "quotient" A.a_Row_quotient
  fi_Row_quotient : PySem.W.fnIn G.K A.a_Row_quotient = true
  pr_Row_turned : PropC G.K A.c_Row "turned" A.p_Row_turned A.a_Row_turned
  pr_Row_low : PropC G.K A.c_Row "low" A.p_Row_low A.a_Row_low
  cm_Row_none : CmC G 15 "none" A.a_Row_none
  cm_Row_power : CmC G 15 "power" A.a_Row_power
  bo_Row_mul : BoF G.K A.c_Row A.a_Row_mul .Mult
  bo_Row_sub : BoF G.K A.c_Row A.a_Row_sub .Sub
  bo_Row_add : BoF G.K A.c_Row A.a_Row_add .Add
  eq_Row : EqF G.K G.ca A.c_Row A.a_Row_eq eqts
  kp_InvalidRow : KpC G.K A.c_InvalidRow
  kx_InvalidNumber : KxC P G.K A.c_InvalidNumber si_InvalidNumber "self" "value" "value"
  kx_TooMany : KxC P G.K A.c_TooMany si_TooMany "self" "limit" "limit"
  kp_InvalidOperation : KpC G.K A.c_InvalidOperation
section
variable {P : Program} {w : World} {mg : Str → Option Value} {base : Heap} {G : Glo} {A : Ad}
theorem sc_is_integer : FnScope ["value"] ["value"] (defScope s_is_integer) := ⟨rfl, rfl, rfl, by decide +kernel, rfl, by decide +kernel, by decide +kernel⟩
def b_is_integer : MS := (sRet (mAndT (mCall (fIsE kit kix) (mCons (mVar 0) (mCons (mC (.cls 0)) mNil))) (mAndT (mNotT (mCall (fIsE kit kix) (mCons (mVar 0) (mCons (mC (.cls 1)) mNil)))) (mBin cLt (mCall fAbs (mCons (mVar 0) mNil)) (mC (.int 1000000000000000000000000000000000000000000000000000000000000))))))
def m_is_integer : MF := mkF 1 1 b_is_integer
theorem ok_is_integer (T : TT P G mg base A) : FnG G P w mg base 1 A.a_is_integer m_is_integer :=
  fn_okG T.f_is_integer sc_is_integer rfl rfl (T.f_is_integer.binds fun _ _ _ _ _ _ us hl => match us, hl with | [_], _ => rfl) fun cdv Ar outer s H E hr hg =>
    (pss_onem (ps_retm (pm_andT (pm_callB (cm_ise T.ko T.kx) (by rfl) T.n_isinstance (by decide +kernel) (pa_consm (pm_var (i := 0)) (pa_consm (pm_bty (T.ko.bt 0 _ rfl) T.n_int (by decide +kernel)) pa_nilm))) (pm_andT (pm_notT (pm_callB (cm_ise T.ko T.kx) (by rfl) T.n_isinstance (by decide +kernel) (pa_consm (pm_var (i := 0)) (pa_consm (pm_bty (T.ko.bt 1 _ rfl) T.n_bool (by decide +kernel)) pa_nilm)))) (pm_one (pm_cmp om_lt (pm_callB cm_abs (by rfl) T.n_abs (by decide +kernel) (pa_consm (pm_var (i := 0)) pa_nilm)) (pm_globE (T.c_BOUND)) (nomark _)))))))
theorem sc_is_power : FnScope ["value"] ["value"] (defScope s_is_power) := ⟨rfl, rfl, rfl, by decide +kernel, rfl, by decide +kernel, by decide +kernel⟩
def b_is_power : MS := (sRet (mAndT (mCall m_is_integer (mCons (mVar 0) mNil)) (mBin cLe (mCall fAbs (mCons (mVar 0) mNil)) (mC (.int 10000)))))
def m_is_power : MF := mkF 1 1 b_is_power
theorem ok_is_power (T : TT P G mg base A) : FnG G P w mg base 2 A.a_is_power m_is_power :=
  fn_okG T.f_is_power sc_is_power rfl rfl (T.f_is_power.binds fun _ _ _ _ _ _ us hl => match us, hl with | [_], _ => rfl) fun cdv Ar outer s H E hr hg =>
    (pss_onem (ps_retm (pm_andT (pm_call (cm_fnG (ok_is_integer T) (hr.mono (by decide)) hg) (by rfl) T.g_is_integer T.f_is_integer.kp (pa_consm (pm_var (i := 0)) pa_nilm)) (pm_one (pm_cmp om_le (pm_callB cm_abs (by rfl) T.n_abs (by decide +kernel) (pa_consm (pm_var (i := 0)) pa_nilm)) (pm_globE (T.c_MAX_POWER)) (nomark _))))))
theorem sc_are_terms : FnScope ["value", "exponent", "factor"] ["value"] (defScope s_are_terms) := ⟨rfl, rfl, rfl, by decide +kernel, rfl, by decide +kernel, by decide +kernel⟩
def b_are_terms : MS := (sSeq (sIf (tNotM (mTru (mCall (fIsE kit kix) (mCons (mVar 0) (mCons (mC (.cls 5)) mNil))))) (sRet (mC (.bl false))) sSkip)
  (sRet (mCall fAll (mCons (mLock (mVar 0) (mLc (mItM itDi (mVar 0)) (.tp [(.nm 1), (.nm 2)]) tYesM (mAndT (mCall m_is_power (mCons (mVar 1) mNil)) (mAndT (mCall m_is_integer (mCons (mVar 2) mNil)) (mBin cNeG (mVar 2) (mC (.int 0))))) [1, 2])) mNil))))
def m_are_terms : MF := mkF 3 1 b_are_terms
theorem ok_are_terms (T : TT P G mg base A) : FnG G P w mg base 3 A.a_are_terms m_are_terms :=
  fn_okG T.f_are_terms sc_are_terms rfl rfl (T.f_are_terms.binds fun _ _ _ _ _ _ us hl => match us, hl with | [_], _ => rfl) fun cdv Ar outer s H E hr hg =>
    (pss_consm (ps_ifm (pt_notm (pt_tru (pm_callB (cm_ise T.ko T.kx) (by rfl) T.n_isinstance (by decide +kernel) (pa_consm (pm_var (i := 0)) (pa_consm (pm_bty (T.ko.bt 5 _ rfl) T.n_dict (by decide +kernel)) pa_nilm))))) (pss_onem (ps_retm pm_bl)) pss_nilm)
    (pss_onem (ps_retm (pm_callB (cm_all rfl) (by rfl) T.n_all (by decide +kernel) (pa_consm (pm_lock (md := (mVar 0)) (pm_lc (own := [("exponent", 1), ("factor", 2)]) (by rfl) sc_are_terms.nd (pi_itemsm (pm_var (i := 0))) (blkOk_by (own := [("exponent", 1), ("factor", 2)]) (N := ["value", "exponent", "factor"]) (sc := defScope s_are_terms) (by decide +kernel)) (fun _ _ _ _ _ => (pgt (by rfl) (pgs1 (pgn (i := 1) sc_are_terms.nd) (pgs1 (pgn (i := 2) sc_are_terms.nd) pgs0)))) (fun _ _ _ _ _ => pts_nilm) (fun _ _ _ _ _ => (pm_andT (pm_call (cm_fnG (ok_is_power T) (hr.mono (by decide)) hg) (by rfl) T.g_is_power T.f_is_power.kp (pa_consm (pm_var (i := 1)) pa_nilm)) (pm_andT (pm_call (cm_fnG (ok_is_integer T) (hr.mono (by decide)) hg) (by rfl) T.g_is_integer T.f_is_integer.kp (pa_consm (pm_var (i := 2)) pa_nilm)) (pm_one (pm_cmp (om_neG hr.u65) (pm_var (i := 2)) pm_int (nomark _)))))))) pa_nilm)))))
theorem sc_Row_getitem : FnScope ["self", "exponent"] ["self", "exponent"] (defScope s_Row_getitem) := ⟨rfl, rfl, rfl, by decide +kernel, rfl, by decide +kernel, by decide +kernel⟩
def b_Row_getitem : MS := (sSeq (sIf (tNotM (mTru (mCall m_is_integer (mCons (mVar 1) mNil)))) (sRaiseK 13 "value" (mVar 1)) sSkip)
  (sRet (mGet2 (mUn (atD [(15, .slot 0)]) (mVar 0)) (mVar 1) (mC (.int 0)))))
def m_Row_getitem : MF := mkF 2 2 b_Row_getitem
theorem ok_Row_getitem (T : TT P G mg base A) : FnG G P w mg base 3 A.a_Row_getitem m_Row_getitem :=
  fn_okG T.f_Row_getitem sc_Row_getitem rfl rfl (T.f_Row_getitem.binds fun _ _ _ _ _ _ us hl => match us, hl with | [_, _], _ => rfl) fun cdv Ar outer s H E hr hg =>
    (pss_consm (ps_ifm (pt_notm (pt_tru (pm_call (cm_fnG (ok_is_integer T) (hr.mono (by decide)) hg) (by rfl) T.g_is_integer T.f_is_integer.kp (pa_consm (pm_var (i := 1)) pa_nilm)))) (pss_onem (ps_raiseK (k := 0) rfl T.ca_InvalidNumber T.kx_InvalidNumber T.n_super (hr.mono (by decide)) (by rfl) T.g_InvalidNumber (pm_var (i := 1)))) pss_nilm)
    (pss_onem (ps_retm (pm_get2 hr.u1 (pm_at (.cons (atSl T.ca_Row T.sc_Row.1 T.s1_Row_own_terms) .nil) (pm_var (i := 0))) (pm_var (i := 1)) pm_int ⟨by rfl, by rfl, by rfl, by rfl⟩))))
theorem sc_sorted_terms : FnScope ["terms", "found", "exponent"] ["terms"] (defScope s_sorted_terms) := ⟨rfl, rfl, rfl, by decide +kernel, rfl, by decide +kernel, by decide +kernel⟩
def b_sorted_terms : MS := (sSeq (sSet 1 (mDc (mIt (mCall fSorted (mCons (mVar 0) mNil))) (.nm 2) (mTst cNeG (mBin (ixO [(15, m_Row_getitem)] ixG) (mVar 0) (mVar 2)) (mC (.int 0))) (mVar 2) (mBin (ixO [(15, m_Row_getitem)] ixG) (mVar 0) (mVar 2)) [2]))
  (sSeq (sIf (mTru (mCall fAny (mCons (mLock (mVar 1) (mLc (mIt (mVar 1)) (.nm 2) tYesM (mBin cGt (mCall fAbs (mCons (mVar 2) mNil)) (mC (.int 10000))) [2])) mNil))) (sRaiseK 14 "limit" (mC (.int 10000))) sSkip)
  (sRet (mVar 1))))
def m_sorted_terms : MF := mkF 3 1 b_sorted_terms
theorem ok_sorted_terms (T : TT P G mg base A) : FnG G P w mg base 5 A.a_sorted_terms m_sorted_terms :=
  fn_okG T.f_sorted_terms sc_sorted_terms rfl rfl (T.f_sorted_terms.binds fun _ _ _ _ _ _ us hl => match us, hl with | [_], _ => rfl) fun cdv Ar outer s H E hr hg =>
    (pss_consm (ps_setDcm (i := 1) (own := [("exponent", 2)]) (by rfl) sc_sorted_terms.nd (pi_anym (pm_callB (cm_sorted rfl) (by rfl) T.n_sorted (by decide +kernel) (pa_consm (pm_var (i := 0)) pa_nilm))) (blkOk_by (own := [("exponent", 2)]) (N := ["terms", "found", "exponent"]) (sc := defScope s_sorted_terms) (by decide +kernel)) (fun _ _ _ _ _ => (pgn (i := 2) sc_sorted_terms.nd)) (fun _ _ _ _ _ => (pts_onem (pt_cmp (om_neG hr.u65) (pm_ixM (ixm_o (.cons (giOk T.ca_Row T.me_Row_getitem T.fi_Row_getitem (ok_Row_getitem T) (hr.mono (by decide)) hg) .nil) (ixm_g hr.u1 (fun _ _ => rfl))) (pm_var (i := 0)) (pm_var (i := 2))) pm_int (nomark _)))) (fun _ _ _ _ _ => (pm_var (i := 2))) (fun _ _ _ _ _ => (pm_ixM (ixm_o (.cons (giOk T.ca_Row T.me_Row_getitem T.fi_Row_getitem (ok_Row_getitem T) (hr.mono (by decide)) hg) .nil) (ixm_g hr.u1 (fun _ _ => rfl))) (pm_var (i := 0)) (pm_var (i := 2)))))
    (pss_consm (ps_ifm (pt_tru (pm_callB (cm_any rfl) (by rfl) T.n_any (by decide +kernel) (pa_consm (pm_lock (md := (mVar 1)) (pm_lc (own := [("exponent", 2)]) (by rfl) sc_sorted_terms.nd (pi_anym (pm_var (i := 1))) (blkOk_by (own := [("exponent", 2)]) (N := ["terms", "found", "exponent"]) (sc := defScope s_sorted_terms) (by decide +kernel)) (fun _ _ _ _ _ => (pgn (i := 2) sc_sorted_terms.nd)) (fun _ _ _ _ _ => pts_nilm) (fun _ _ _ _ _ => (pm_cmp om_gt (pm_callB cm_abs (by rfl) T.n_abs (by decide +kernel) (pa_consm (pm_var (i := 2)) pa_nilm)) (pm_globE (T.c_MAX_POWER)) (nomark _))))) pa_nilm))) (pss_onem (ps_raiseK (k := 0) rfl T.ca_TooMany T.kx_TooMany T.n_super (hr.mono (by decide)) (by rfl) T.g_TooMany (pm_globE (T.c_MAX_POWER)))) pss_nilm)
    (pss_onem (ps_retm (pm_var (i := 1))))))
theorem sc_Row_init : FnScope ["self", "terms", "is_known"] ["self", "terms", "is_known"] (defScope s_Row_init) := ⟨rfl, rfl, rfl, by decide +kernel, rfl, by decide +kernel, by decide +kernel⟩
def b_Row_init : MS := (sSeq (sIf (tAndM (tNotM (mTru (mVar 2))) (tNotM (mTru (mCall m_are_terms (mCons (mVar 1) mNil))))) (sRaiseP 11) sSkip)
  (sStA [(15, 0)] (mVar 0) (mCall m_sorted_terms (mCons (mVar 1) mNil))))
def m_Row_init : MF := mkF 3 3 b_Row_init
theorem ok_Row_init (T : TT P G mg base A) : FnB G P w mg base 6 A.a_Row_init A.fd_Row_init ["self", "terms", "is_known"] m_Row_init :=
  fn_okB T.f_Row_init sc_Row_init rfl rfl fun cdv Ar outer s H E hr hg =>
    (pss_consm (ps_ifm (pt_w (pw_andm (pt_notm (pt_tru (pm_var (i := 2)))) (pw_and1m (pt_notm (pt_tru (pm_call (cm_fnG (ok_are_terms T) (hr.mono (by decide)) hg) (by rfl) T.g_are_terms T.f_are_terms.kp (pa_consm (pm_var (i := 1)) pa_nilm))))))) (pss_onem (ps_raiseP rfl T.ca_InvalidRow T.kp_InvalidRow (by rfl) T.g_InvalidRow)) pss_nilm)
    (pss_onem (ps_stA (.cons (stSl T.ca_Row T.sc_Row.1 T.s1_Row_own_terms) .nil) (pm_var (i := 0)) (pm_call (cm_fnG (ok_sorted_terms T) (hr.mono (by decide)) hg) (by rfl) T.g_sorted_terms T.f_sorted_terms.kp (pa_consm (pm_var (i := 1)) pa_nilm)))))
abbrev g_Row_init_2_is_known : List D → List D → List D := fun ds es => ds ++ es
theorem B_Row_init_2_is_known (T : TT P G mg base A) : BnD G A.fd_Row_init ["self", "terms", "is_known"] 2 ["is_known"] g_Row_init_2_is_known :=
  let ⟨_, h⟩ := T.f_Row_init.kbinds0 (ps := ["self", "terms", "is_known"]) 2 ["is_known"] [] (fun us _ ws => us ++ ws) (by intro z; cases z) (by intro q hq; cases hq) (fun a _ c => a.append c) (fun _ _ _ _ _ _ us mv ws hu hm hw => match us, mv, ws, hu, hm, hw with | [_, _], [], [_], _, _, _ => by rfl)
  bnd_kw h fun _ _ _ _ _ _ _ _ a b => a.append b
def n_Row_init_2_is_known : MK := mkObj 15 (mkK 2 1 g_Row_init_2_is_known m_Row_init)
theorem sc_product_terms : FnScope ["one", "other", "found", "first", "factor", "second", "times"] ["one", "other"] (defScope s_product_terms) := ⟨rfl, rfl, rfl, by decide +kernel, rfl, by decide +kernel, by decide +kernel⟩
def b_product_terms : MS := (sSeq (sSet 2 mDct0)
  (sSeq (sLock (mVar 0) (sFor (mItM itDi (mVar 0)) (.tp [(.nm 3), (.nm 4)]) (sLock (mVar 1) (sFor (mItM itDi (mVar 1)) (.tp [(.nm 5), (.nm 6)]) (sStI stI (mVar 2) (mBin bAdd (mVar 3) (mVar 5)) (mBin bAdd (mGet2 (mVar 2) (mBin bAdd (mVar 3) (mVar 5)) (mC (.int 0))) (mBin bMul (mVar 4) (mVar 6))))))))
  (sRet (mVar 2))))
def m_product_terms : MF := mkF 7 2 b_product_terms
theorem ok_product_terms (T : TT P G mg base A) : FnG G P w mg base 1 A.a_product_terms m_product_terms :=
  fn_okG T.f_product_terms sc_product_terms rfl rfl (T.f_product_terms.binds fun _ _ _ _ _ _ us hl => match us, hl with | [_, _], _ => rfl) fun cdv Ar outer s H E hr hg =>
    (pss_consm (ps_setm (i := 2) sc_product_terms.nd pm_dct0)
    (pss_consm (ps_lockm (md := (mVar 0)) (ps_form (by rfl) (pi_itemsm (pm_var (i := 0))) (pgt (by rfl) (pgs1 (pgn (i := 3) sc_product_terms.nd) (pgs1 (pgn (i := 4) sc_product_terms.nd) pgs0))) (pss_onem (ps_lockm (md := (mVar 1)) (ps_form (by rfl) (pi_itemsm (pm_var (i := 1))) (pgt (by rfl) (pgs1 (pgn (i := 5) sc_product_terms.nd) (pgs1 (pgn (i := 6) sc_product_terms.nd) pgs0))) (pss_onem (ps_stI (set_i hr.u1) (pm_var (i := 2)) (pm_bin om_add (pm_var (i := 3)) (pm_var (i := 5))) (pm_bin om_add (pm_get2 hr.u1 (pm_var (i := 2)) (pm_bin om_add (pm_var (i := 3)) (pm_var (i := 5))) pm_int ⟨by rfl, by rfl, by rfl, by rfl⟩) (pm_bin om_mul (pm_var (i := 4)) (pm_var (i := 6)))))))))))
    (pss_onem (ps_retm (pm_var (i := 2))))))
theorem sc_operand_terms : FnScope ["value"] ["value"] (defScope s_operand_terms) := ⟨rfl, rfl, rfl, by decide +kernel, rfl, by decide +kernel, by decide +kernel⟩
def b_operand_terms : MS := (sSeq (sIf (mTru (mCall (fIsE kit kix) (mCons (mVar 0) (mCons (mC (.cls 15)) mNil)))) (sRet (mUn (atD [(15, .slot 0)]) (mVar 0))) sSkip)
  (sSeq (sIf (mTru (mCall m_is_integer (mCons (mVar 0) mNil))) (sRet (mDisp [((mC (.int 0)), (mVar 0))])) sSkip)
  sNo))
def m_operand_terms : MF := mkF 1 1 b_operand_terms
theorem ok_operand_terms (T : TT P G mg base A) : FnG G P w mg base 2 A.a_operand_terms m_operand_terms :=
  fn_okG T.f_operand_terms sc_operand_terms rfl rfl (T.f_operand_terms.binds fun _ _ _ _ _ _ us hl => match us, hl with | [_], _ => rfl) fun cdv Ar outer s H E hr hg =>
    (pss_consm (ps_ifm (pt_tru (pm_callB (cm_ise T.ko T.kx) (by rfl) T.n_isinstance (by decide +kernel) (pa_consm (pm_var (i := 0)) (pa_consm (pm_clsO (by rfl) T.g_Row T.ca_Row) pa_nilm)))) (pss_onem (ps_retm (pm_at (.cons (atSl T.ca_Row T.sc_Row.1 T.s1_Row_own_terms) .nil) (pm_var (i := 0))))) pss_nilm)
    (pss_consm (ps_ifm (pt_tru (pm_call (cm_fnG (ok_is_integer T) (hr.mono (by decide)) hg) (by rfl) T.g_is_integer T.f_is_integer.kp (pa_consm (pm_var (i := 0)) pa_nilm))) (pss_onem (ps_retm (pm_disp (.cons pm_int (pm_var (i := 0)) .nil)))) pss_nilm)
    (pss_onem ps_no)))
theorem sc_Row_mul : FnScope ["self", "other"] ["self", "other"] (defScope s_Row_mul) := ⟨rfl, rfl, rfl, by decide +kernel, rfl, by decide +kernel, by decide +kernel⟩
def b_Row_mul : MS := (sRet (mCallK n_Row_init_2_is_known (mCons (mCall m_product_terms (mCons (mUn (atD [(15, .slot 0)]) (mVar 0)) (mCons (mCall m_operand_terms (mCons (mVar 1) mNil)) mNil))) mNil) (mCons (mC (.bl true)) mNil)))
def m_Row_mul : MF := mkF 2 2 b_Row_mul
theorem ok_Row_mul (T : TT P G mg base A) : FnG G P w mg base 8 A.a_Row_mul m_Row_mul :=
  fn_okG T.f_Row_mul sc_Row_mul rfl rfl (T.f_Row_mul.binds fun _ _ _ _ _ _ us hl => match us, hl with | [_, _], _ => rfl) fun cdv Ar outer s H E hr hg =>
    (pss_onem (ps_retm (pm_callK (cm_make T.ca_Row T.mk_Row (ok_Row_init T) (B_Row_init_2_is_known T) (hr.mono (by decide)) hg) (by rfl) T.g_Row T.mk_Row.kp (pa_consm (pm_call (cm_fnG (ok_product_terms T) (hr.mono (by decide)) hg) (by rfl) T.g_product_terms T.f_product_terms.kp (pa_consm (pm_at (.cons (atSl T.ca_Row T.sc_Row.1 T.s1_Row_own_terms) .nil) (pm_var (i := 0))) (pa_consm (pm_call (cm_fnG (ok_operand_terms T) (hr.mono (by decide)) hg) (by rfl) T.g_operand_terms T.f_operand_terms.kp (pa_consm (pm_var (i := 1)) pa_nilm)) pa_nilm))) pa_nilm) (pk_consm pm_bl pk_nilm))))
theorem sc_summed_terms : FnScope ["one", "other", "times", "found", "exponent", "factor"] ["one", "other", "times"] (defScope s_summed_terms) := ⟨rfl, rfl, rfl, by decide +kernel, rfl, by decide +kernel, by decide +kernel⟩
def b_summed_terms : MS := (sSeq (sSet 3 (mCall fDict (mCons (mVar 0) mNil)))
  (sSeq (sLock (mVar 1) (sFor (mItM itDi (mVar 1)) (.tp [(.nm 4), (.nm 5)]) (sStI stI (mVar 3) (mVar 4) (mBin bAdd (mGet2 (mVar 3) (mVar 4) (mC (.int 0))) (mBin (binO [(15, m_Row_mul)] bMul) (mVar 2) (mVar 5))))))
  (sRet (mVar 3))))
def m_summed_terms : MF := mkF 6 3 b_summed_terms
theorem ok_summed_terms (T : TT P G mg base A) : FnG G P w mg base 9 A.a_summed_terms m_summed_terms :=
  fn_okG T.f_summed_terms sc_summed_terms rfl rfl (T.f_summed_terms.binds fun _ _ _ _ _ _ us hl => match us, hl with | [_, _, _], _ => rfl) fun cdv Ar outer s H E hr hg =>
    (pss_consm (ps_setm (i := 3) sc_summed_terms.nd (pm_callT (cm_dict rfl) (by rfl) T.n_dict (by decide +kernel) (pa_consm (pm_var (i := 0)) pa_nilm)))
    (pss_consm (ps_lockm (md := (mVar 1)) (ps_form (by rfl) (pi_itemsm (pm_var (i := 1))) (pgt (by rfl) (pgs1 (pgn (i := 4) sc_summed_terms.nd) (pgs1 (pgn (i := 5) sc_summed_terms.nd) pgs0))) (pss_onem (ps_stI (set_i hr.u1) (pm_var (i := 3)) (pm_var (i := 4)) (pm_bin om_add (pm_get2 hr.u1 (pm_var (i := 3)) (pm_var (i := 4)) pm_int ⟨by rfl, by rfl, by rfl, by rfl⟩) (pm_bin (om_binO (.cons (boOk T.ca_Row T.bo_Row_mul (cm_fnG (ok_Row_mul T) (hr.mono (by decide)) hg)) .nil) om_mul) (pm_var (i := 2)) (pm_var (i := 5))))))))
    (pss_onem (ps_retm (pm_var (i := 3))))))
theorem sc_Row_add : FnScope ["self", "other"] ["self", "other"] (defScope s_Row_add) := ⟨rfl, rfl, rfl, by decide +kernel, rfl, by decide +kernel, by decide +kernel⟩
def b_Row_add : MS := (sRet (mCallK n_Row_init_2_is_known (mCons (mCall m_summed_terms (mCons (mUn (atD [(15, .slot 0)]) (mVar 0)) (mCons (mCall m_operand_terms (mCons (mVar 1) mNil)) (mCons (mC (.int 1)) mNil)))) mNil) (mCons (mC (.bl true)) mNil)))
def m_Row_add : MF := mkF 2 2 b_Row_add
theorem ok_Row_add (T : TT P G mg base A) : FnG G P w mg base 10 A.a_Row_add m_Row_add :=
  fn_okG T.f_Row_add sc_Row_add rfl rfl (T.f_Row_add.binds fun _ _ _ _ _ _ us hl => match us, hl with | [_, _], _ => rfl) fun cdv Ar outer s H E hr hg =>
    (pss_onem (ps_retm (pm_callK (cm_make T.ca_Row T.mk_Row (ok_Row_init T) (B_Row_init_2_is_known T) (hr.mono (by decide)) hg) (by rfl) T.g_Row T.mk_Row.kp (pa_consm (pm_call (cm_fnG (ok_summed_terms T) (hr.mono (by decide)) hg) (by rfl) T.g_summed_terms T.f_summed_terms.kp (pa_consm (pm_at (.cons (atSl T.ca_Row T.sc_Row.1 T.s1_Row_own_terms) .nil) (pm_var (i := 0))) (pa_consm (pm_call (cm_fnG (ok_operand_terms T) (hr.mono (by decide)) hg) (by rfl) T.g_operand_terms T.f_operand_terms.kp (pa_consm (pm_var (i := 1)) pa_nilm)) (pa_consm pm_int pa_nilm)))) pa_nilm) (pk_consm pm_bl pk_nilm))))
theorem sc_Row_neg : FnScope ["self"] ["self"] (defScope s_Row_neg) := ⟨rfl, rfl, rfl, by decide +kernel, rfl, by decide +kernel, by decide +kernel⟩
def b_Row_neg : MS := (sRet (mCallK n_Row_init_2_is_known (mCons (mCall m_summed_terms (mCons mDct0 (mCons (mUn (atD [(15, .slot 0)]) (mVar 0)) (mCons (mUn uNeg (mC (.int 1))) mNil)))) mNil) (mCons (mC (.bl true)) mNil)))
def m_Row_neg : MF := mkF 1 1 b_Row_neg
theorem ok_Row_neg (T : TT P G mg base A) : FnG G P w mg base 10 A.a_Row_neg m_Row_neg :=
  fn_okG T.f_Row_neg sc_Row_neg rfl rfl (T.f_Row_neg.binds fun _ _ _ _ _ _ us hl => match us, hl with | [_], _ => rfl) fun cdv Ar outer s H E hr hg =>
    (pss_onem (ps_retm (pm_callK (cm_make T.ca_Row T.mk_Row (ok_Row_init T) (B_Row_init_2_is_known T) (hr.mono (by decide)) hg) (by rfl) T.g_Row T.mk_Row.kp (pa_consm (pm_call (cm_fnG (ok_summed_terms T) (hr.mono (by decide)) hg) (by rfl) T.g_summed_terms T.f_summed_terms.kp (pa_consm pm_dct0 (pa_consm (pm_at (.cons (atSl T.ca_Row T.sc_Row.1 T.s1_Row_own_terms) .nil) (pm_var (i := 0))) (pa_consm (pm_un um_neg pm_int) pa_nilm)))) pa_nilm) (pk_consm pm_bl pk_nilm))))
theorem sc_Row_sub : FnScope ["self", "other"] ["self", "other"] (defScope s_Row_sub) := ⟨rfl, rfl, rfl, by decide +kernel, rfl, by decide +kernel, by decide +kernel⟩
def b_Row_sub : MS := (sRet (mCallK n_Row_init_2_is_known (mCons (mCall m_summed_terms (mCons (mUn (atD [(15, .slot 0)]) (mVar 0)) (mCons (mCall m_operand_terms (mCons (mVar 1) mNil)) (mCons (mUn uNeg (mC (.int 1))) mNil)))) mNil) (mCons (mC (.bl true)) mNil)))
def m_Row_sub : MF := mkF 2 2 b_Row_sub
theorem ok_Row_sub (T : TT P G mg base A) : FnG G P w mg base 10 A.a_Row_sub m_Row_sub :=
  fn_okG T.f_Row_sub sc_Row_sub rfl rfl (T.f_Row_sub.binds fun _ _ _ _ _ _ us hl => match us, hl with | [_, _], _ => rfl) fun cdv Ar outer s H E hr hg =>
    (pss_onem (ps_retm (pm_callK (cm_make T.ca_Row T.mk_Row (ok_Row_init T) (B_Row_init_2_is_known T) (hr.mono (by decide)) hg) (by rfl) T.g_Row T.mk_Row.kp (pa_consm (pm_call (cm_fnG (ok_summed_terms T) (hr.mono (by decide)) hg) (by rfl) T.g_summed_terms T.f_summed_terms.kp (pa_consm (pm_at (.cons (atSl T.ca_Row T.sc_Row.1 T.s1_Row_own_terms) .nil) (pm_var (i := 0))) (pa_consm (pm_call (cm_fnG (ok_operand_terms T) (hr.mono (by decide)) hg) (by rfl) T.g_operand_terms T.f_operand_terms.kp (pa_consm (pm_var (i := 1)) pa_nilm)) (pa_consm (pm_un um_neg pm_int) pa_nilm)))) pa_nilm) (pk_consm pm_bl pk_nilm))))
theorem sc_Row_eq : FnScope ["self", "value"] ["self", "value"] (defScope s_Row_eq) := ⟨rfl, rfl, rfl, by decide +kernel, rfl, by decide +kernel, by decide +kernel⟩
def b_Row_eq : MS := (sRet (mAndT (mCall (fIsE kit kix) (mCons (mVar 1) (mCons (mC (.cls 15)) mNil))) (mBin cEqG (mUn (atD [(15, .slot 0)]) (mVar 0)) (mUn (atD [(15, .slot 0)]) (mVar 1)))))
def m_Row_eq : MF := mkF 2 2 b_Row_eq
theorem ok_Row_eq (T : TT P G mg base A) : FnG G P w mg base 1 A.a_Row_eq m_Row_eq :=
  fn_okG T.f_Row_eq sc_Row_eq rfl rfl (T.f_Row_eq.binds fun _ _ _ _ _ _ us hl => match us, hl with | [_, _], _ => rfl) fun cdv Ar outer s H E hr hg =>
    (pss_onem (ps_retm (pm_andT (pm_callB (cm_ise T.ko T.kx) (by rfl) T.n_isinstance (by decide +kernel) (pa_consm (pm_var (i := 1)) (pa_consm (pm_clsO (by rfl) T.g_Row T.ca_Row) pa_nilm))) (pm_one (pm_cmp (om_eqG hr.u65) (pm_at (.cons (atSl T.ca_Row T.sc_Row.1 T.s1_Row_own_terms) .nil) (pm_var (i := 0))) (pm_at (.cons (atSl T.ca_Row T.sc_Row.1 T.s1_Row_own_terms) .nil) (pm_var (i := 1))) (nomark _))))))
theorem sc_wall : FnScope ["k"] ["k"] (defScope s_wall) := ⟨rfl, rfl, rfl, by decide +kernel, rfl, by decide +kernel, by decide +kernel⟩
def b_wall : MS := (whileLoop (mTru (mC (.bl true))) sSkip 100000)
def m_wall : MF := mkF 1 1 b_wall
theorem ok_wall (T : TT P G mg base A) : FnG G P w mg base 1 A.a_wall m_wall :=
  fn_okG T.f_wall sc_wall rfl rfl (T.f_wall.binds fun _ _ _ _ _ _ us hl => match us, hl with | [_], _ => rfl) fun cdv Ar outer s H E hr hg =>
    (pss_onem (ps_whilem 100000 (pt_tru pm_bl) (pss_onem ps_passm)))
theorem sc_power_text : FnScope ["exponent"] ["exponent"] (defScope s_power_text) := ⟨rfl, rfl, rfl, by decide +kernel, rfl, by decide +kernel, by decide +kernel⟩
def b_power_text : MS := (sSeq (sIf (mTst cEqG (mVar 0) (mC (.int 0))) (sRet (mC (.str []))) sSkip)
  (sRet (mIf (mTst cEqG (mVar 0) (mC (.int 1))) (mC (.str [120])) (mJoin [(mUn fmtV (mC (.str [120]))), (mC (.str [94])), (mUn fmtV (mVar 0))]))))
def m_power_text : MF := mkF 1 1 b_power_text
theorem ok_power_text (T : TT P G mg base A) : FnG G P w mg base 1 A.a_power_text m_power_text :=
  fn_okG T.f_power_text sc_power_text rfl rfl (T.f_power_text.binds fun _ _ _ _ _ _ us hl => match us, hl with | [_], _ => rfl) fun cdv Ar outer s H E hr hg =>
    (pss_consm (ps_ifm (pt_cmp (om_eqG hr.u65) (pm_var (i := 0)) pm_int (nomark _)) (pss_onem (ps_retm (pm_str (by decide +kernel)))) pss_nilm)
    (pss_onem (ps_retm (pm_ifexp (pt_cmp (om_eqG hr.u65) (pm_var (i := 0)) pm_int (nomark _)) (pm_globE (T.c_LETTER)) (pm_joined (.cons (pm_fmt (pm_globE (T.c_LETTER))) (.cons (pm_str (by decide +kernel)) (.cons (pm_fmt (pm_var (i := 0))) .nil))))))))
theorem sc_term_text : FnScope ["exponent", "factor"] ["exponent", "factor"] (defScope s_term_text) := ⟨rfl, rfl, rfl, by decide +kernel, rfl, by decide +kernel, by decide +kernel⟩
def b_term_text : MS := (sSeq (sIf (tAndM (mTst cEqG (mCall fAbs (mCons (mVar 1) mNil)) (mC (.int 1))) (mTst cNeG (mVar 0) (mC (.int 0)))) (sRet (mCall m_power_text (mCons (mVar 0) mNil))) sSkip)
  (sRet (mJoin [(mUn fmtV (mCall fAbs (mCons (mVar 1) mNil))), (mUn fmtV (mCall m_power_text (mCons (mVar 0) mNil)))])))
def m_term_text : MF := mkF 2 2 b_term_text
theorem ok_term_text (T : TT P G mg base A) : FnG G P w mg base 2 A.a_term_text m_term_text :=
  fn_okG T.f_term_text sc_term_text rfl rfl (T.f_term_text.binds fun _ _ _ _ _ _ us hl => match us, hl with | [_, _], _ => rfl) fun cdv Ar outer s H E hr hg =>
    (pss_consm (ps_ifm (pt_w (pw_andm (pt_cmp (om_eqG hr.u65) (pm_callB cm_abs (by rfl) T.n_abs (by decide +kernel) (pa_consm (pm_var (i := 1)) pa_nilm)) pm_int (nomark _)) (pw_and1m (pt_cmp (om_neG hr.u65) (pm_var (i := 0)) pm_int (nomark _))))) (pss_onem (ps_retm (pm_call (cm_fnG (ok_power_text T) (hr.mono (by decide)) hg) (by rfl) T.g_power_text T.f_power_text.kp (pa_consm (pm_var (i := 0)) pa_nilm)))) pss_nilm)
    (pss_onem (ps_retm (pm_joined (.cons (pm_fmt (pm_callB cm_abs (by rfl) T.n_abs (by decide +kernel) (pa_consm (pm_var (i := 1)) pa_nilm))) (.cons (pm_fmt (pm_call (cm_fnG (ok_power_text T) (hr.mono (by decide)) hg) (by rfl) T.g_power_text T.f_power_text.kp (pa_consm (pm_var (i := 0)) pa_nilm))) .nil))))))
theorem sc_terms_text : FnScope ["terms", "text", "exponent", "factor", "sign", "ahead"] ["terms"] (defScope s_terms_text) := ⟨rfl, rfl, rfl, by decide +kernel, rfl, by decide +kernel, by decide +kernel⟩
def b_terms_text : MS := (sSeq (sSet 1 (mC (.str [])))
  (sSeq (sLock (mVar 0) (sFor (mItM itDi (mVar 0)) (.tp [(.nm 2), (.nm 3)]) (sSeq (sSet 4 (mIf (mTst cLt (mVar 3) (mC (.int 0))) (mC (.str [45])) (mC (.str [43]))))
  (sSeq (sSet 5 (mIf (mTst cNeG (mVar 1) (mC (.str []))) (mJoin [(mC (.str [32])), (mUn fmtV (mVar 4)), (mC (.str [32]))]) (mIf (mTst cLt (mVar 3) (mC (.int 0))) (mC (.str [45])) (mC (.str [])))))
  (sSet 1 (mJoin [(mUn fmtV (mVar 1)), (mUn fmtV (mVar 5)), (mUn fmtV (mCall m_term_text (mCons (mVar 2) (mCons (mVar 3) mNil))))]))))))
  (sRet (mOrT (mVar 1) (mC (.str [48]))))))
def m_terms_text : MF := mkF 6 1 b_terms_text
theorem ok_terms_text (T : TT P G mg base A) : FnG G P w mg base 3 A.a_terms_text m_terms_text :=
  fn_okG T.f_terms_text sc_terms_text rfl rfl (T.f_terms_text.binds fun _ _ _ _ _ _ us hl => match us, hl with | [_], _ => rfl) fun cdv Ar outer s H E hr hg =>
    (pss_consm (ps_setm (i := 1) sc_terms_text.nd (pm_str (by decide +kernel)))
    (pss_consm (ps_lockm (md := (mVar 0)) (ps_form (by rfl) (pi_itemsm (pm_var (i := 0))) (pgt (by rfl) (pgs1 (pgn (i := 2) sc_terms_text.nd) (pgs1 (pgn (i := 3) sc_terms_text.nd) pgs0))) (pss_consm (ps_setm (i := 4) sc_terms_text.nd (pm_ifexp (pt_cmp om_lt (pm_var (i := 3)) pm_int (nomark _)) (pm_str (by decide +kernel)) (pm_str (by decide +kernel))))
    (pss_consm (ps_setm (i := 5) sc_terms_text.nd (pm_ifexp (pt_cmp (om_neG hr.u65) (pm_var (i := 1)) (pm_str (by decide +kernel)) (nomark _)) (pm_joined (.cons (pm_str (by decide +kernel)) (.cons (pm_fmt (pm_var (i := 4))) (.cons (pm_str (by decide +kernel)) .nil)))) (pm_ifexp (pt_cmp om_lt (pm_var (i := 3)) pm_int (nomark _)) (pm_str (by decide +kernel)) (pm_str (by decide +kernel)))))
    (pss_onem (ps_setm (i := 1) sc_terms_text.nd (pm_joined (.cons (pm_fmt (pm_var (i := 1))) (.cons (pm_fmt (pm_var (i := 5))) (.cons (pm_fmt (pm_call (cm_fnG (ok_term_text T) (hr.mono (by decide)) hg) (by rfl) T.g_term_text T.f_term_text.kp (pa_consm (pm_var (i := 2)) (pa_consm (pm_var (i := 3)) pa_nilm)))) .nil))))))))))
    (pss_onem (ps_retm (pm_orT (pm_var (i := 1)) (pm_one (pm_str (by decide +kernel))))))))
theorem sc_quotient_terms : FnScope ["one", "other", "found", "rest", "low", "room", "here", "times", "left", "exponent", "factor"] ["one", "other"] (defScope s_quotient_terms) := ⟨rfl, rfl, rfl, by decide +kernel, rfl, by decide +kernel, by decide +kernel⟩
def b_quotient_terms : MS := (sSeq (sPar 2 3 (mCons mDct0 (mCons (mCall fDict (mCons (mVar 0) mNil)) mNil)))
  (sSeq (sAsgS [(.nm 4), (.nm 5)] (mTup (mCons (mCall fMin1 (mCons (mVar 1) mNil)) (mCons (mBin (binO [(15, m_Row_sub)] bSub) (mCall fMax1 (mCons (mVar 0) mNil)) (mCall fMax1 (mCons (mVar 1) mNil))) mNil))))
  (sSeq (whileLoop (mTst cNeG (mVar 3) mDct0) (sSeq (sSet 6 (mCall fMin1 (mCons (mVar 3) mNil)))
  (sSeq (sIf (tOrM (mTst cNeG (mBin bModG (mBin (ixO [(15, m_Row_getitem)] ixG) (mVar 3) (mVar 6)) (mBin (ixO [(15, m_Row_getitem)] ixG) (mVar 1) (mVar 4))) (mC (.int 0))) (mTst cGt (mBin (binO [(15, m_Row_sub)] bSub) (mVar 6) (mVar 4)) (mVar 5))) (sRet (mC .non)) sSkip)
  (sSeq (sSet 7 (mBin bDivG (mBin (ixO [(15, m_Row_getitem)] ixG) (mVar 3) (mVar 6)) (mBin (ixO [(15, m_Row_getitem)] ixG) (mVar 1) (mVar 4))))
  (sSeq (sStI stI (mVar 2) (mBin (binO [(15, m_Row_sub)] bSub) (mVar 6) (mVar 4)) (mVar 7))
  (sSeq (sSet 8 (mCall m_summed_terms (mCons (mVar 3) (mCons (mLock (mVar 1) (mDc (mItM itDi (mVar 1)) (.tp [(.nm 9), (.nm 10)]) tYesM (mBin (binO [(15, m_Row_sub)] bSub) (mBin (binO [(15, m_Row_add)] bAdd) (mVar 9) (mVar 6)) (mVar 4)) (mVar 10) [9, 10])) (mCons (mUn (unO [(15, m_Row_neg)] uNeg) (mVar 7)) mNil)))))
  (sLock (mVar 8) (sSet 3 (mDc (mItM itDi (mVar 8)) (.tp [(.nm 9), (.nm 10)]) (mTst cNeG (mVar 10) (mC (.int 0))) (mVar 9) (mVar 10) [9, 10])))))))) 100000)
  (sRet (mVar 2)))))
def m_quotient_terms : MF := mkF 11 2 b_quotient_terms
theorem ok_quotient_terms (T : TT P G mg base A) : FnG G P w mg base 11 A.a_quotient_terms m_quotient_terms :=
  fn_okG T.f_quotient_terms sc_quotient_terms rfl rfl (T.f_quotient_terms.binds fun _ _ _ _ _ _ us hl => match us, hl with | [_, _], _ => rfl) fun cdv Ar outer s H E hr hg =>
    (pss_consm (ps_parm (i := 2) (j := 3) (fun _ h => ps_par (by rfl) sc_quotient_terms.nd rfl rfl (by decide) rfl rfl h (by rfl)) (pa_consm pm_dct0 (pa_consm (pm_callT (cm_dict rfl) (by rfl) T.n_dict (by decide +kernel) (pa_consm (pm_var (i := 0)) pa_nilm)) pa_nilm)))
    (pss_consm (ps_asgS (by rfl) (pm_tup (pa_consm (pm_callB (cm_min1 rfl) (by rfl) T.n_min (by decide +kernel) (pa_consm (pm_var (i := 1)) pa_nilm)) (pa_consm (pm_bin (om_binO (.cons (boOk T.ca_Row T.bo_Row_sub (cm_fnG (ok_Row_sub T) (hr.mono (by decide)) hg)) .nil) om_sub) (pm_callB (cm_max1 rfl) (by rfl) T.n_max (by decide +kernel) (pa_consm (pm_var (i := 0)) pa_nilm)) (pm_callB (cm_max1 rfl) (by rfl) T.n_max (by decide +kernel) (pa_consm (pm_var (i := 1)) pa_nilm))) pa_nilm))) (pgs1 (pgn (i := 4) sc_quotient_terms.nd) (pgs1 (pgn (i := 5) sc_quotient_terms.nd) pgs0)))
    (pss_consm (ps_whilem 100000 (pt_cmp (om_neG hr.u65) (pm_var (i := 3)) pm_dct0 (nomark _)) (pss_consm (ps_setm (i := 6) sc_quotient_terms.nd (pm_callB (cm_min1 rfl) (by rfl) T.n_min (by decide +kernel) (pa_consm (pm_var (i := 3)) pa_nilm)))
    (pss_consm (ps_ifm (pt_w (pw_orm (pt_cmp (om_neG hr.u65) (pm_bin om_modG (pm_ixM (ixm_o (.cons (giOk T.ca_Row T.me_Row_getitem T.fi_Row_getitem (ok_Row_getitem T) (hr.mono (by decide)) hg) .nil) (ixm_g hr.u1 (fun _ _ => rfl))) (pm_var (i := 3)) (pm_var (i := 6))) (pm_ixM (ixm_o (.cons (giOk T.ca_Row T.me_Row_getitem T.fi_Row_getitem (ok_Row_getitem T) (hr.mono (by decide)) hg) .nil) (ixm_g hr.u1 (fun _ _ => rfl))) (pm_var (i := 1)) (pm_var (i := 4)))) pm_int (nomark _)) (pw_or1m (pt_cmp om_gt (pm_bin (om_binO (.cons (boOk T.ca_Row T.bo_Row_sub (cm_fnG (ok_Row_sub T) (hr.mono (by decide)) hg)) .nil) om_sub) (pm_var (i := 6)) (pm_var (i := 4))) (pm_var (i := 5)) (nomark _))))) (pss_onem (ps_retm pm_non)) pss_nilm)
    (pss_consm (ps_setm (i := 7) sc_quotient_terms.nd (pm_bin om_divG (pm_ixM (ixm_o (.cons (giOk T.ca_Row T.me_Row_getitem T.fi_Row_getitem (ok_Row_getitem T) (hr.mono (by decide)) hg) .nil) (ixm_g hr.u1 (fun _ _ => rfl))) (pm_var (i := 3)) (pm_var (i := 6))) (pm_ixM (ixm_o (.cons (giOk T.ca_Row T.me_Row_getitem T.fi_Row_getitem (ok_Row_getitem T) (hr.mono (by decide)) hg) .nil) (ixm_g hr.u1 (fun _ _ => rfl))) (pm_var (i := 1)) (pm_var (i := 4)))))
    (pss_consm (ps_stI (set_i hr.u1) (pm_var (i := 2)) (pm_bin (om_binO (.cons (boOk T.ca_Row T.bo_Row_sub (cm_fnG (ok_Row_sub T) (hr.mono (by decide)) hg)) .nil) om_sub) (pm_var (i := 6)) (pm_var (i := 4))) (pm_var (i := 7)))
    (pss_consm (ps_setm (i := 8) sc_quotient_terms.nd (pm_call (cm_fnG (ok_summed_terms T) (hr.mono (by decide)) hg) (by rfl) T.g_summed_terms T.f_summed_terms.kp (pa_consm (pm_var (i := 3)) (pa_consm (pm_lock (md := (mVar 1)) (pm_dc (own := [("exponent", 9), ("factor", 10)]) (by rfl) sc_quotient_terms.nd (pi_itemsm (pm_var (i := 1))) (blkOk_by (own := [("exponent", 9), ("factor", 10)]) (N := ["one", "other", "found", "rest", "low", "room", "here", "times", "left", "exponent", "factor"]) (sc := defScope s_quotient_terms) (by decide +kernel)) (fun _ _ _ _ _ => (pgt (by rfl) (pgs1 (pgn (i := 9) sc_quotient_terms.nd) (pgs1 (pgn (i := 10) sc_quotient_terms.nd) pgs0)))) (fun _ _ _ _ _ => pts_nilm) (fun _ _ _ _ _ => (pm_bin (om_binO (.cons (boOk T.ca_Row T.bo_Row_sub (cm_fnG (ok_Row_sub T) (hr.mono (by decide)) hg)) .nil) om_sub) (pm_bin (om_binO (.cons (boOk T.ca_Row T.bo_Row_add (cm_fnG (ok_Row_add T) (hr.mono (by decide)) hg)) .nil) om_add) (pm_var (i := 9)) (pm_var (i := 6))) (pm_var (i := 4)))) (fun _ _ _ _ _ => (pm_var (i := 10))))) (pa_consm (pm_un (um_negO (.cons (ngOk T.ca_Row T.me_Row_neg (cm_fnG (ok_Row_neg T) (hr.mono (by decide)) hg)) .nil) um_neg) (pm_var (i := 7))) pa_nilm)))))
    (pss_onem (ps_lockm (md := (mVar 8)) (ps_setDcm (i := 3) (own := [("exponent", 9), ("factor", 10)]) (by rfl) sc_quotient_terms.nd (pi_itemsm (pm_var (i := 8))) (blkOk_by (own := [("exponent", 9), ("factor", 10)]) (N := ["one", "other", "found", "rest", "low", "room", "here", "times", "left", "exponent", "factor"]) (sc := defScope s_quotient_terms) (by decide +kernel)) (fun _ _ _ _ _ => (pgt (by rfl) (pgs1 (pgn (i := 9) sc_quotient_terms.nd) (pgs1 (pgn (i := 10) sc_quotient_terms.nd) pgs0)))) (fun _ _ _ _ _ => (pts_onem (pt_cmp (om_neG hr.u65) (pm_var (i := 10)) pm_int (nomark _)))) (fun _ _ _ _ _ => (pm_var (i := 9))) (fun _ _ _ _ _ => (pm_var (i := 10))))))))))))
    (pss_onem (ps_retm (pm_var (i := 2)))))))
theorem sc_require_row : FnScope ["value"] ["value"] (defScope s_require_row) := ⟨rfl, rfl, rfl, by decide +kernel, rfl, by decide +kernel, by decide +kernel⟩
def b_require_row : MS := (sIf (tNotM (mTru (mCall (fIsE kit kix) (mCons (mVar 0) (mCons (mC (.cls 15)) mNil))))) (sRaiseP 11) sSkip)
def m_require_row : MF := mkF 1 1 b_require_row
theorem ok_require_row (T : TT P G mg base A) : FnG G P w mg base 1 A.a_require_row m_require_row :=
  fn_okG T.f_require_row sc_require_row rfl rfl (T.f_require_row.binds fun _ _ _ _ _ _ us hl => match us, hl with | [_], _ => rfl) fun cdv Ar outer s H E hr hg =>
    (pss_onem (ps_ifm (pt_notm (pt_tru (pm_callB (cm_ise T.ko T.kx) (by rfl) T.n_isinstance (by decide +kernel) (pa_consm (pm_var (i := 0)) (pa_consm (pm_clsO (by rfl) T.g_Row T.ca_Row) pa_nilm))))) (pss_onem (ps_raiseP rfl T.ca_InvalidRow T.kp_InvalidRow (by rfl) T.g_InvalidRow)) pss_nilm))
theorem sc_Ldice : FnScope ["_law_script", "_law_spot", "_law_cell", "_law_left"] ["_law_script", "_law_spot"] (defScope s_Ldice) := ⟨rfl, rfl, rfl, by decide +kernel, rfl, by decide +kernel, by decide +kernel⟩
def b_Ldice : MS := (sSeq (sSet 2 (mIf (mTst cLt (mVar 1) (mCall fLen (mCons (mVar 0) mNil))) (mCall fInt (mCons (mBin ixD (mVar 0) (mVar 1)) mNil)) (mBin bAdd (mBin bMul (mC (.int 67)) (mVar 1)) (mC (.int 19)))))
  (sSeq (sSet 3 (mBin bMod (mCall fMax2 (mCons (mC (.int 0)) (mCons (mBin bSub (mCall fAbs (mCons (mVar 2) mNil)) (mBin bPow (mC (.int 10)) (mC (.int 16)))) mNil))) (mBin bMul (mBin bPow (mC (.int 10)) (mC (.int 60))) (mBin bPow (mC (.int 10)) (mC (.int 60))))))
  (sRet (mLst (mCons (mVar 3) (mCons (mBin bAdd (mBin bAdd (mBin bAdd (mBin bMul (mBin bMod (mCall fAbs (mCons (mVar 2) mNil)) (mC (.int 1152921504606846817))) (mC (.int 47))) (mBin bMul (mC (.int 821)) (mVar 1))) (mBin bMul (mC (.int 31)) (mCall fInt (mCons (mBin cLt (mVar 2) (mC (.int 0))) mNil)))) (mC (.int 3))) (mCons (mC (.int 0)) mNil)))))))
def m_Ldice : MF := mkF 4 2 b_Ldice
theorem ok0_Ldice (T : TT P G mg base A) : FnM G P w mg base 1 A.a_Ldice m_Ldice :=
  fn_ok T.f_Ldice sc_Ldice rfl rfl (T.f_Ldice.binds fun _ _ _ _ _ _ us hl => match us, hl with | [_, _], _ => rfl) fun cdv Ar outer s H E hr =>
    (pss_consm (ps_setm (i := 2) sc_Ldice.nd (pm_ifexp (pt_cmp om_lt (pm_var (i := 1)) (pm_callB cm_len (by rfl) T.n_len (by decide +kernel) (pa_consm (pm_var (i := 0)) pa_nilm)) (nomark _)) (pm_callT cm_int (by rfl) T.n_int (by decide +kernel) (pa_consm (pm_ix (pm_var (i := 0)) (pm_var (i := 1))) pa_nilm)) (pm_bin om_add (pm_bin om_mul pm_int (pm_var (i := 1))) pm_int)))
    (pss_consm (ps_setm (i := 3) sc_Ldice.nd (pm_bin om_mod (pm_callB (cm_max2 rfl) (by rfl) T.n_max (by decide +kernel) (pa_consm pm_int (pa_consm (pm_bin om_sub (pm_callB cm_abs (by rfl) T.n_abs (by decide +kernel) (pa_consm (pm_var (i := 2)) pa_nilm)) (pm_bin om_pow pm_int pm_int)) pa_nilm))) (pm_bin om_mul (pm_bin om_pow pm_int pm_int) (pm_bin om_pow pm_int pm_int))))
    (pss_onem (ps_retm (pm_lst (pa_consm (pm_var (i := 3)) (pa_consm (pm_bin om_add (pm_bin om_add (pm_bin om_add (pm_bin om_mul (pm_bin om_mod (pm_callB cm_abs (by rfl) T.n_abs (by decide +kernel) (pa_consm (pm_var (i := 2)) pa_nilm)) pm_int) pm_int) (pm_bin om_mul pm_int (pm_var (i := 1)))) (pm_bin om_mul pm_int (pm_callT cm_int (by rfl) T.n_int (by decide +kernel) (pa_consm (pm_cmp om_lt (pm_var (i := 2)) pm_int (nomark _)) pa_nilm)))) pm_int) (pa_consm pm_int pa_nilm))))))))
theorem ok_Ldice (T : TT P G mg base A) : FnG G P w mg base 1 A.a_Ldice mDice := (fn_dice (ok0_Ldice T) run_dice).g
theorem sc_Lroll : FnScope ["_law_dice_here", "_law_total", "_law_found", "_law_one", "_law_two"] ["_law_dice_here", "_law_total"] (defScope s_Lroll) := ⟨rfl, rfl, rfl, by decide +kernel, rfl, by decide +kernel, by decide +kernel⟩
def b_Lroll : MS := (sSeq (sIf (mTst cGt (mBin ixD (mVar 0) (mC (.int 0))) (mC (.int 0))) (sSeq (sSet 2 (mBin bMod (mCall fInt (mCons (mBin ixD (mVar 0) (mC (.int 0))) mNil)) (mVar 1)))
  (sSeq (sStL (mVar 0) (mC (.int 0)) (mBin bDiv (mBin ixD (mVar 0) (mC (.int 0))) (mVar 1)))
  (sRet (mVar 2)))) sSkip)
  (sSeq (sStL (mVar 0) (mC (.int 2)) (mBin bAdd (mBin ixD (mVar 0) (mC (.int 2))) (mC (.int 1))))
  (sSeq (sSet 3 (mBin bMod (mCall fInt (mCons (mBin bAdd (mBin ixD (mVar 0) (mC (.int 1))) (mBin bMul (mC (.int 49979719)) (mBin ixD (mVar 0) (mC (.int 2))))) mNil)) (mC (.int 2305843009213693613))))
  (sSeq (sSet 4 (mBin bAdd (mBin bMul (mBin bMod (mCall fInt (mCons (mBin bAdd (mBin bMul (mVar 3) (mVar 3)) (mBin bMul (mC (.int 97)) (mBin ixD (mVar 0) (mC (.int 2))))) mNil)) (mC (.int 2305843009213693907))) (mC (.int 7368797))) (mVar 3)))
  (sRet (mBin bMod (mCall fInt (mCons (mBin bDiv (mVar 4) (mC (.int 65536))) mNil)) (mVar 1)))))))
def m_Lroll : MF := mkF 5 2 b_Lroll
theorem ok0_Lroll (T : TT P G mg base A) : FnM G P w mg base 1 A.a_Lroll m_Lroll :=
  fn_ok T.f_Lroll sc_Lroll rfl rfl (T.f_Lroll.binds fun _ _ _ _ _ _ us hl => match us, hl with | [_, _], _ => rfl) fun cdv Ar outer s H E hr =>
    (pss_consm (ps_ifm (pt_cmp om_gt (pm_ix (pm_var (i := 0)) pm_int) pm_int (nomark _)) (pss_consm (ps_setm (i := 2) sc_Lroll.nd (pm_bin om_mod (pm_callT cm_int (by rfl) T.n_int (by decide +kernel) (pa_consm (pm_ix (pm_var (i := 0)) pm_int) pa_nilm)) (pm_var (i := 1))))
    (pss_consm (ps_stL (pm_var (i := 0)) pm_int (pm_bin om_div (pm_ix (pm_var (i := 0)) pm_int) (pm_var (i := 1))))
    (pss_onem (ps_retm (pm_var (i := 2)))))) pss_nilm)
    (pss_consm (ps_stL (pm_var (i := 0)) pm_int (pm_bin om_add (pm_ix (pm_var (i := 0)) pm_int) pm_int))
    (pss_consm (ps_setm (i := 3) sc_Lroll.nd (pm_bin om_mod (pm_callT cm_int (by rfl) T.n_int (by decide +kernel) (pa_consm (pm_bin om_add (pm_ix (pm_var (i := 0)) pm_int) (pm_bin om_mul pm_int (pm_ix (pm_var (i := 0)) pm_int))) pa_nilm)) pm_int))
    (pss_consm (ps_setm (i := 4) sc_Lroll.nd (pm_bin om_add (pm_bin om_mul (pm_bin om_mod (pm_callT cm_int (by rfl) T.n_int (by decide +kernel) (pa_consm (pm_bin om_add (pm_bin om_mul (pm_var (i := 3)) (pm_var (i := 3))) (pm_bin om_mul pm_int (pm_ix (pm_var (i := 0)) pm_int))) pa_nilm)) pm_int) pm_int) (pm_var (i := 3))))
    (pss_onem (ps_retm (pm_bin om_mod (pm_callT cm_int (by rfl) T.n_int (by decide +kernel) (pa_consm (pm_bin om_div (pm_var (i := 4)) pm_int) pa_nilm)) (pm_var (i := 1)))))))))
theorem ok_Lroll (T : TT P G mg base A) : FnG G P w mg base 1 A.a_Lroll mRoll := (fn_roll (ok0_Lroll T) run_roll).g
theorem sc_Row_len : FnScope ["self"] ["self"] (defScope s_Row_len) := ⟨rfl, rfl, rfl, by decide +kernel, rfl, by decide +kernel, by decide +kernel⟩
def b_Row_len : MS := (sRet (mCall fLenG (mCons (mUn (atD [(15, .slot 0)]) (mVar 0)) mNil)))
def m_Row_len : MF := mkF 1 1 b_Row_len
theorem ok_Row_len (T : TT P G mg base A) : FnG G P w mg base 1 A.a_Row_len m_Row_len :=
  fn_okG T.f_Row_len sc_Row_len rfl rfl (T.f_Row_len.binds fun _ _ _ _ _ _ us hl => match us, hl with | [_], _ => rfl) fun cdv Ar outer s H E hr hg =>
    (pss_onem (ps_retm (pm_callB cm_lenG (by rfl) T.n_len (by decide +kernel) (pa_consm (pm_at (.cons (atSl T.ca_Row T.sc_Row.1 T.s1_Row_own_terms) .nil) (pm_var (i := 0))) pa_nilm))))
theorem sc_Lpick : FnScope ["_law_dice_here", "_law_items"] ["_law_dice_here", "_law_items"] (defScope s_Lpick) := ⟨rfl, rfl, rfl, by decide +kernel, rfl, by decide +kernel, by decide +kernel⟩
def b_Lpick : MS := (sRet (mBin (ixO [(15, m_Row_getitem)] ixG) (mVar 1) (mCall mRoll (mCons (mVar 0) (mCons (mCall (fLenO [(15, m_Row_len)]) (mCons (mVar 1) mNil)) mNil)))))
def m_Lpick : MF := mkF 2 2 b_Lpick
theorem ok_Lpick (T : TT P G mg base A) : FnG G P w mg base 5 A.a_Lpick m_Lpick :=
  fn_okG T.f_Lpick sc_Lpick rfl rfl (T.f_Lpick.binds fun _ _ _ _ _ _ us hl => match us, hl with | [_, _], _ => rfl) fun cdv Ar outer s H E hr hg =>
    (pss_onem (ps_retm (pm_ixM (ixm_o (.cons (giOk T.ca_Row T.me_Row_getitem T.fi_Row_getitem (ok_Row_getitem T) (hr.mono (by decide)) hg) .nil) (ixm_g hr.u1 (fun _ _ => rfl))) (pm_var (i := 1)) (pm_call (cm_fnG (ok_Lroll T) (hr.mono (by decide)) hg) (by rfl) T.g_Lroll T.f_Lroll.kp (pa_consm (pm_var (i := 0)) (pa_consm (pm_callB (cm_lenO (.cons (loOk T.ca_Row T.me_Row_len (ok_Row_len T) (hr.mono (by decide)) hg) .nil)) (by rfl) T.n_len (by decide +kernel) (pa_consm (pm_var (i := 1)) pa_nilm)) pa_nilm))))))
theorem sc_Lword : FnScope ["_law_call", "e"] ["_law_call"] (defScope s_Lword) := ⟨rfl, rfl, rfl, by decide +kernel, rfl, by decide +kernel, by decide +kernel⟩
abbrev g_Row_init_2 : List D → List D → List D := fun ds _ => ds ++ [.bl false]
theorem B_Row_init_2 (T : TT P G mg base A) : BnD G A.fd_Row_init ["self", "terms", "is_known"] 2 [] g_Row_init_2 := bnd_dfl (T.f_Row_init.binds0 (ps := ["self", "terms", "is_known"]) 2 (by intro z; cases z) rfl (fun _ _ _ _ _ _ us ks hu hk => match us, ks, hu, hk with | [_, _], [_], _, _ => ⟨_, _, _, _, _, _, rfl, rfl, rfl⟩)) rfl [.bl false] (fun _ _ => (.cons rel_bl .nil))
def n_Row_init_2 : MK := mkObj 15 (mkK 2 0 g_Row_init_2 m_Row_init)
theorem sc_Row_none : FnScope ["cls"] ["cls"] (defScope s_Row_none) := ⟨rfl, rfl, rfl, by decide +kernel, rfl, by decide +kernel, by decide +kernel⟩
def b_Row_none : MS := (sRet (mCall (fun ds S => n_Row_init_2 ds [] S) (mCons mDct0 mNil)))
def m_Row_none : MF := mkF 1 1 b_Row_none
theorem ok_Row_none (T : TT P G mg base A) : FnB G P w mg base 8 A.a_Row_none A.fd_Row_none ["cls"] m_Row_none :=
  fn_okB (Fun_d T.f_Row_none) sc_Row_none rfl rfl fun cdv Ar outer s H E hr hg =>
    (pss_onem (ps_retm (pm_call (CallMK.pos (cm_make T.ca_Row T.mk_Row (ok_Row_init T) (B_Row_init_2 T) (hr.mono (by decide)) hg)) (by rfl) T.g_Row T.mk_Row.kp (pa_consm pm_dct0 pa_nilm))))
abbrev g_Row_none_1 : List D → List D → List D := fun ds _ => ds
theorem B_Row_none_1 (T : TT P G mg base A) : BnD G A.fd_Row_none ["cls"] 1 [] g_Row_none_1 := bnd_all (T.f_Row_none.binds fun _ _ _ _ _ _ us hl => match us, hl with | [_], _ => rfl)
theorem sc_Row_power : FnScope ["cls", "exponent", "many"] ["cls", "exponent", "many"] (defScope s_Row_power) := ⟨rfl, rfl, rfl, by decide +kernel, rfl, by decide +kernel, by decide +kernel⟩
def b_Row_power : MS := (sSeq (sIf (tOrM (tNotM (mTru (mCall m_is_power (mCons (mVar 1) mNil)))) (tNotM (mTru (mCall m_is_integer (mCons (mVar 2) mNil))))) (sRaiseP 11) sSkip)
  (sRet (mCallK n_Row_init_2_is_known (mCons (mDisp [((mVar 1), (mVar 2))]) mNil) (mCons (mC (.bl true)) mNil))))
def m_Row_power : MF := mkF 3 3 b_Row_power
theorem ok_Row_power (T : TT P G mg base A) : FnB G P w mg base 8 A.a_Row_power A.fd_Row_power ["cls", "exponent", "many"] m_Row_power :=
  fn_okB T.f_Row_power sc_Row_power rfl rfl fun cdv Ar outer s H E hr hg =>
    (pss_consm (ps_ifm (pt_w (pw_orm (pt_notm (pt_tru (pm_call (cm_fnG (ok_is_power T) (hr.mono (by decide)) hg) (by rfl) T.g_is_power T.f_is_power.kp (pa_consm (pm_var (i := 1)) pa_nilm)))) (pw_or1m (pt_notm (pt_tru (pm_call (cm_fnG (ok_is_integer T) (hr.mono (by decide)) hg) (by rfl) T.g_is_integer T.f_is_integer.kp (pa_consm (pm_var (i := 2)) pa_nilm))))))) (pss_onem (ps_raiseP rfl T.ca_InvalidRow T.kp_InvalidRow (by rfl) T.g_InvalidRow)) pss_nilm)
    (pss_onem (ps_retm (pm_callK (cm_make T.ca_Row T.mk_Row (ok_Row_init T) (B_Row_init_2_is_known T) (hr.mono (by decide)) hg) (by rfl) T.g_Row T.mk_Row.kp (pa_consm (pm_disp (.cons (pm_var (i := 1)) (pm_var (i := 2)) .nil)) pa_nilm) (pk_consm pm_bl pk_nilm)))))
abbrev g_Row_power_2_many : List D → List D → List D := fun ds es => ds ++ es
theorem B_Row_power_2_many (T : TT P G mg base A) : BnD G A.fd_Row_power ["cls", "exponent", "many"] 2 ["many"] g_Row_power_2_many :=
  let ⟨_, h⟩ := T.f_Row_power.kbinds0 (ps := ["cls", "exponent", "many"]) 2 ["many"] [] (fun us _ ws => us ++ ws) (by intro z; cases z) (by intro q hq; cases hq) (fun a _ c => a.append c) (fun _ _ _ _ _ _ us mv ws hu hm hw => match us, mv, ws, hu, hm, hw with | [_, _], [], [_], _, _, _ => by rfl)
  bnd_kw h fun _ _ _ _ _ _ _ _ a b => a.append b
theorem sc_Lmade_right : FnScope ["_law_dice_here", "_law_bad", "_law_exponent", "_law_many", "_law_fine", "_law_told"] ["_law_dice_here"] (defScope s_Lmade_right) := ⟨rfl, rfl, rfl, by decide +kernel, rfl, by decide +kernel, by decide +kernel⟩
def b_Lmade_right : MS := (sSeq (sSet 1 (mLst (mCons (mC .non) (mCons (mC (.int 0)) (mCons (mTup mNil) (mCons (mLst mNil) (mCons (mLst (mCons (mTup (mCons (mC (.int 1)) (mCons (mC (.int 1)) mNil))) mNil)) (mCons (mC (.str [120])) (mCons (mDisp [((mC (.int 1)), (mC (.int 0)))]) (mCons (mDispR okB (mC (.bl true)) (mC (.int 1))) (mCons (mDisp [((mC (.int 1)), (mC (.bl true)))]) (mCons (mDisp [((mC (.str [49])), (mC (.int 1)))]) (mCons (mDisp [((mC (.int 1)), (mC .non))]) (mCons (mDisp [((mC (.int 10001)), (mC (.int 1)))]) (mCons (mDisp [((mUn uNeg (mC (.int 10001))), (mC (.int 2)))]) (mCons (mDisp [((mC (.int 0)), (mBin bPow (mC (.int 10)) (mC (.int 60))))]) mNil))))))))))))))))
  (sSeq (sSet 1 (mBin (binO [(15, m_Row_add)] bAdd) (mVar 1) (mLst (mCons (mDispR okU (mTup (mCons (mC (.int 1)) mNil)) (mC (.int 1))) (mCons (mDisp [((mC (.int 0)), (mC (.str [49])))]) (mCons (mDisp [((mC (.int 1)), (mC (.int 1))), ((mC (.int 2)), (mC (.int 0)))]) (mCons (mCmeth 15 (mkK 1 0 g_Row_none_1 m_Row_none) mNil) mNil)))))))
  (sSeq (sSet 2 (mCall m_Lpick (mCons (mVar 0) (mCons (mLst (mCons (mC (.int 0)) (mCons (mC (.int 3)) (mCons (mUn uNeg (mC (.int 10000))) (mCons (mC (.int 10000)) (mCons (mC (.int 10001)) (mCons (mUn uNeg (mC (.int 10001))) (mCons (mC (.bl true)) (mCons (mC .non) (mCons (mC (.str [49])) (mCons (mBin bPow (mC (.int 10)) (mC (.int 60))) mNil))))))))))) mNil))))
  (sSeq (sSet 3 (mCall m_Lpick (mCons (mVar 0) (mCons (mLst (mCons (mC (.int 0)) (mCons (mC (.int 1)) (mCons (mUn (unO [(15, m_Row_neg)] uNeg) (mBin bPow (mC (.int 10)) (mC (.int 59)))) (mCons (mC (.bl true)) (mCons (mC .non) (mCons (mC (.str [49])) (mCons (mTup (mCons (mC (.int 1)) mNil)) (mCons (mBin bPow (mC (.int 10)) (mC (.int 60))) mNil))))))))) mNil))))
  (sSeq (sSet 4 (mAndT (mBin cIn (mCall fReprD (mCons (mVar 2) mNil)) (mLst (mCons (mC (.str [48])) (mCons (mC (.str [51])) (mCons (mC (.str [45, 49, 48, 48, 48, 48])) (mCons (mC (.str [49, 48, 48, 48, 48])) mNil)))))) (mBin cIn (mCall fReprD (mCons (mVar 3) mNil)) (mLst (mCons (mC (.str [48])) (mCons (mC (.str [49])) (mCons (mCall fReprD (mCons (mUn (unO [(15, m_Row_neg)] uNeg) (mBin bPow (mC (.int 10)) (mC (.int 59)))) mNil)) mNil)))))))
  (sSeq (sSet 5 (mLst (mCons (mWord kix [⟨11, none, [114, 111, 119]⟩, ⟨12, none, [111, 112, 101, 114, 97, 116, 105, 111, 110]⟩, ⟨13, some "value", [110, 117, 109, 98, 101, 114, 32]⟩, ⟨14, some "limit", [109, 97, 110, 121, 32]⟩] [102, 105, 110, 101] (mCall (fun ds S => n_Row_init_2 ds [] S) (mCons (mCall m_Lpick (mCons (mVar 0) (mCons (mVar 1) mNil))) mNil))) mNil)))
  (sSeq (sExpr (mMeth isLst fAppend (mVar 5) (mCons (mWord kix [⟨11, none, [114, 111, 119]⟩, ⟨12, none, [111, 112, 101, 114, 97, 116, 105, 111, 110]⟩, ⟨13, some "value", [110, 117, 109, 98, 101, 114, 32]⟩, ⟨14, some "limit", [109, 97, 110, 121, 32]⟩] [102, 105, 110, 101] (mCmethK 15 (mkK 2 1 g_Row_power_2_many m_Row_power) (mCons (mVar 2) mNil) (mCons (mVar 3) mNil))) mNil)))
  (sRet (mBin cEqG (mVar 5) (mLst (mCons (mC (.str [114, 111, 119])) (mCons (mIf (mTru (mVar 4)) (mC (.str [102, 105, 110, 101])) (mC (.str [114, 111, 119]))) mNil))))))))))))
def m_Lmade_right : MF := mkF 6 1 b_Lmade_right
theorem ok_Lmade_right (T : TT P G mg base A) : FnG G P w mg base 11 A.a_Lmade_right m_Lmade_right :=
  fn_okC T.f_Lmade_right sc_Lmade_right rfl rfl (T.f_Lmade_right.binds fun _ _ _ _ _ _ us hl => match us, hl with | [_], _ => rfl) T.cd_Lmade_right fun Ar outer s H E hr hg =>
    (pss_consm (ps_setm (i := 1) sc_Lmade_right.nd (pm_lst (pa_consm pm_non (pa_consm pm_int (pa_consm (pm_tup pa_nilm) (pa_consm (pm_lst pa_nilm) (pa_consm (pm_lst (pa_consm (pm_tup (pa_consm pm_int (pa_consm pm_int pa_nilm))) pa_nilm)) (pa_consm (pm_str (by decide +kernel)) (pa_consm (pm_disp (.cons pm_int pm_int .nil)) (pa_consm (pm_dispB (.cons pm_bl pm_int .nil)) (pa_consm (pm_disp (.cons pm_int pm_bl .nil)) (pa_consm (pm_disp (.cons (pm_str (by decide +kernel)) pm_int .nil)) (pa_consm (pm_disp (.cons pm_int pm_non .nil)) (pa_consm (pm_disp (.cons pm_int pm_int .nil)) (pa_consm (pm_disp (.cons (pm_un um_neg pm_int) pm_int .nil)) (pa_consm (pm_disp (.cons pm_int (pm_bin om_pow pm_int pm_int) .nil)) pa_nilm))))))))))))))))
    (pss_consm (ps_setm (i := 1) sc_Lmade_right.nd (pm_bin (om_binO (.cons (boOk T.ca_Row T.bo_Row_add (cm_fnG (ok_Row_add T) (hr.mono (by decide)) hg)) .nil) om_add) (pm_var (i := 1)) (pm_lst (pa_consm (pm_dispU hr.u1 (.cons (pm_tup (pa_consm pm_int pa_nilm)) pm_int .nil)) (pa_consm (pm_disp (.cons pm_int (pm_str (by decide +kernel)) .nil)) (pa_consm (pm_disp (.cons pm_int pm_int (.cons pm_int pm_int .nil))) (pa_consm (pm_cmeth0 T.ca_Row (by rfl) T.g_Row T.cm_Row_none (ok_Row_none T) (B_Row_none_1 T) (hr.mono (by decide)) hg) pa_nilm)))))))
    (pss_consm (ps_setm (i := 2) sc_Lmade_right.nd (pm_call (cm_fnG (ok_Lpick T) (hr.mono (by decide)) hg) (by rfl) T.g_Lpick T.f_Lpick.kp (pa_consm (pm_var (i := 0)) (pa_consm (pm_lst (pa_consm pm_int (pa_consm pm_int (pa_consm (pm_un um_neg pm_int) (pa_consm pm_int (pa_consm pm_int (pa_consm (pm_un um_neg pm_int) (pa_consm pm_bl (pa_consm pm_non (pa_consm (pm_str (by decide +kernel)) (pa_consm (pm_bin om_pow pm_int pm_int) pa_nilm))))))))))) pa_nilm))))
    (pss_consm (ps_setm (i := 3) sc_Lmade_right.nd (pm_call (cm_fnG (ok_Lpick T) (hr.mono (by decide)) hg) (by rfl) T.g_Lpick T.f_Lpick.kp (pa_consm (pm_var (i := 0)) (pa_consm (pm_lst (pa_consm pm_int (pa_consm pm_int (pa_consm (pm_un (um_negO (.cons (ngOk T.ca_Row T.me_Row_neg (cm_fnG (ok_Row_neg T) (hr.mono (by decide)) hg)) .nil) um_neg) (pm_bin om_pow pm_int pm_int)) (pa_consm pm_bl (pa_consm pm_non (pa_consm (pm_str (by decide +kernel)) (pa_consm (pm_tup (pa_consm pm_int pa_nilm)) (pa_consm (pm_bin om_pow pm_int pm_int) pa_nilm))))))))) pa_nilm))))
    (pss_consm (ps_setm (i := 4) sc_Lmade_right.nd (pm_andT (pm_cmp (om_in hr.u65) (pm_callB (cm_reprD hg hr.units) (by rfl) T.n_repr (by decide +kernel) (pa_consm (pm_var (i := 2)) pa_nilm)) (pm_lst (pa_consm (pm_str (by decide +kernel)) (pa_consm (pm_str (by decide +kernel)) (pa_consm (pm_str (by decide +kernel)) (pa_consm (pm_str (by decide +kernel)) pa_nilm))))) (by rfl)) (pm_one (pm_cmp (om_in hr.u65) (pm_callB (cm_reprD hg hr.units) (by rfl) T.n_repr (by decide +kernel) (pa_consm (pm_var (i := 3)) pa_nilm)) (pm_lst (pa_consm (pm_str (by decide +kernel)) (pa_consm (pm_str (by decide +kernel)) (pa_consm (pm_callB (cm_reprD hg hr.units) (by rfl) T.n_repr (by decide +kernel) (pa_consm (pm_un (um_negO (.cons (ngOk T.ca_Row T.me_Row_neg (cm_fnG (ok_Row_neg T) (hr.mono (by decide)) hg)) .nil) um_neg) (pm_bin om_pow pm_int pm_int)) pa_nilm)) pa_nilm)))) (by rfl)))))
    (pss_consm (ps_setm (i := 5) sc_Lmade_right.nd (pm_lst (pa_consm (pm_word (k := 7) (Ng := ["_law_call", "e"]) T.xm (by rfl) T.g_Lword T.f_Lword sc_Lword (T.f_Lword.binds fun _ _ _ _ _ _ us hl => match us, hl with | [_], _ => rfl) (by rfl) (by decide +kernel) (.plain (by decide +kernel) (by rfl) (by decide) (T.g_InvalidRow.trans (congrArg some T.ca_InvalidRow.symm)) (.plain (by decide +kernel) (by rfl) (by decide) (T.g_InvalidOperation.trans (congrArg some T.ca_InvalidOperation.symm)) (.named (by decide +kernel) (by rfl) (by decide) (T.g_InvalidNumber.trans (congrArg some T.ca_InvalidNumber.symm)) (by rfl) (by rfl) (by decide) (by decide) (by rfl) T.n_repr (xf_of (l := [13]) (by decide) (fun t ht => by rcases List.mem_singleton.mp ht with rfl; exact ⟨_, T.ca_InvalidNumber, T.kx_InvalidNumber.xf, T.kx_InvalidNumber.nof⟩)) (.named (by decide +kernel) (by rfl) (by decide) (T.g_TooMany.trans (congrArg some T.ca_TooMany.symm)) (by rfl) (by rfl) (by decide) (by decide) (by rfl) T.n_repr (xf_of (l := [14]) (by decide) (fun t ht => by rcases List.mem_singleton.mp ht with rfl; exact ⟨_, T.ca_TooMany, T.kx_TooMany.xf, T.kx_TooMany.nof⟩)) .nil)))) T.tb_Lmade_right (by rfl) T.tq_Lmade_right T.tu_Lmade_right (hr.mono (by decide)) hg (LamX.lamS_by (sc := defScope s_Lmade_right) (by decide +kernel)) (by rfl) (fun _ _ _ _ _ => by rfl) (fun _ _ _ _ _ _ _ hr hg => (pm_call (CallMK.pos (cm_make T.ca_Row T.mk_Row (ok_Row_init T) (B_Row_init_2 T) (hr.mono (by decide)) hg)) (by rfl) T.g_Row T.mk_Row.kp (pa_consm (pm_call (cm_fnG (ok_Lpick T) (hr.mono (by decide)) hg) (by rfl) T.g_Lpick T.f_Lpick.kp (pa_consm (pm_var (i := 0)) (pa_consm (pm_var (i := 1)) pa_nilm))) pa_nilm))) (by rfl) (by first | exact Or.inl rfl | exact Or.inr (Or.inl rfl) | exact Or.inr (Or.inr rfl))) pa_nilm)))
    (pss_consm (ps_exprm (pm_append (pm_var (i := 5)) (pm_word (k := 8) (Ng := ["_law_call", "e"]) T.xm (by rfl) T.g_Lword T.f_Lword sc_Lword (T.f_Lword.binds fun _ _ _ _ _ _ us hl => match us, hl with | [_], _ => rfl) (by rfl) (by decide +kernel) (.plain (by decide +kernel) (by rfl) (by decide) (T.g_InvalidRow.trans (congrArg some T.ca_InvalidRow.symm)) (.plain (by decide +kernel) (by rfl) (by decide) (T.g_InvalidOperation.trans (congrArg some T.ca_InvalidOperation.symm)) (.named (by decide +kernel) (by rfl) (by decide) (T.g_InvalidNumber.trans (congrArg some T.ca_InvalidNumber.symm)) (by rfl) (by rfl) (by decide) (by decide) (by rfl) T.n_repr (xf_of (l := [13]) (by decide) (fun t ht => by rcases List.mem_singleton.mp ht with rfl; exact ⟨_, T.ca_InvalidNumber, T.kx_InvalidNumber.xf, T.kx_InvalidNumber.nof⟩)) (.named (by decide +kernel) (by rfl) (by decide) (T.g_TooMany.trans (congrArg some T.ca_TooMany.symm)) (by rfl) (by rfl) (by decide) (by decide) (by rfl) T.n_repr (xf_of (l := [14]) (by decide) (fun t ht => by rcases List.mem_singleton.mp ht with rfl; exact ⟨_, T.ca_TooMany, T.kx_TooMany.xf, T.kx_TooMany.nof⟩)) .nil)))) T.tb_Lmade_right (by rfl) T.tq_Lmade_right T.tu_Lmade_right (hr.mono (by decide)) hg (LamX.lamS_by (sc := defScope s_Lmade_right) (by decide +kernel)) (by rfl) (fun _ _ _ _ _ => by rfl) (fun _ _ _ _ _ _ _ hr hg => (pm_cmethK (ks := ["many"]) T.ca_Row (by rfl) T.g_Row T.cm_Row_power (ok_Row_power T) (B_Row_power_2_many T) (hr.mono (by decide)) hg (pa_consm (pm_var (i := 2)) pa_nilm) (pk_consm (pm_var (i := 3)) pk_nilm))) (by rfl) (by first | exact Or.inl rfl | exact Or.inr (Or.inl rfl) | exact Or.inr (Or.inr rfl)))))
    (pss_onem (ps_retm (pm_cmp (om_eqG hr.u65) (pm_var (i := 5)) (pm_lst (pa_consm (pm_str (by decide +kernel)) (pa_consm (pm_ifexp (pt_tru (pm_var (i := 4))) (pm_str (by decide +kernel)) (pm_str (by decide +kernel))) pa_nilm))) (nomark _)))))))))))
theorem sc_Row_shifted : FnScope ["self", "many", "exponent", "factor"] ["self", "many"] (defScope s_Row_shifted) := ⟨rfl, rfl, rfl, by decide +kernel, rfl, by decide +kernel, by decide +kernel⟩
def b_Row_shifted : MS := (sSeq (sIf (tNotM (mTru (mCall m_is_integer (mCons (mVar 1) mNil)))) (sRaiseK 13 "value" (mVar 1)) sSkip)
  (sRet (mCallK n_Row_init_2_is_known (mCons (mLock (mUn (atD [(15, .slot 0)]) (mVar 0)) (mDc (mItM itDi (mUn (atD [(15, .slot 0)]) (mVar 0))) (.tp [(.nm 2), (.nm 3)]) tYesM (mBin (binO [(15, m_Row_add)] bAdd) (mVar 2) (mVar 1)) (mVar 3) [2, 3])) mNil) (mCons (mC (.bl true)) mNil))))
def m_Row_shifted : MF := mkF 4 2 b_Row_shifted
theorem ok_Row_shifted (T : TT P G mg base A) : FnG G P w mg base 11 A.a_Row_shifted m_Row_shifted :=
  fn_okG T.f_Row_shifted sc_Row_shifted rfl rfl (T.f_Row_shifted.binds fun _ _ _ _ _ _ us hl => match us, hl with | [_, _], _ => rfl) fun cdv Ar outer s H E hr hg =>
    (pss_consm (ps_ifm (pt_notm (pt_tru (pm_call (cm_fnG (ok_is_integer T) (hr.mono (by decide)) hg) (by rfl) T.g_is_integer T.f_is_integer.kp (pa_consm (pm_var (i := 1)) pa_nilm)))) (pss_onem (ps_raiseK (k := 0) rfl T.ca_InvalidNumber T.kx_InvalidNumber T.n_super (hr.mono (by decide)) (by rfl) T.g_InvalidNumber (pm_var (i := 1)))) pss_nilm)
    (pss_onem (ps_retm (pm_callK (cm_make T.ca_Row T.mk_Row (ok_Row_init T) (B_Row_init_2_is_known T) (hr.mono (by decide)) hg) (by rfl) T.g_Row T.mk_Row.kp (pa_consm (pm_lock (md := (mUn (atD [(15, .slot 0)]) (mVar 0))) (pm_dc (own := [("exponent", 2), ("factor", 3)]) (by rfl) sc_Row_shifted.nd (pi_itemsm (pm_at (.cons (atSl T.ca_Row T.sc_Row.1 T.s1_Row_own_terms) .nil) (pm_var (i := 0)))) (blkOk_by (own := [("exponent", 2), ("factor", 3)]) (N := ["self", "many", "exponent", "factor"]) (sc := defScope s_Row_shifted) (by decide +kernel)) (fun _ _ _ _ _ => (pgt (by rfl) (pgs1 (pgn (i := 2) sc_Row_shifted.nd) (pgs1 (pgn (i := 3) sc_Row_shifted.nd) pgs0)))) (fun _ _ _ _ _ => pts_nilm) (fun _ _ _ _ _ => (pm_bin (om_binO (.cons (boOk T.ca_Row T.bo_Row_add (cm_fnG (ok_Row_add T) (hr.mono (by decide)) hg)) .nil) om_add) (pm_var (i := 2)) (pm_var (i := 1)))) (fun _ _ _ _ _ => (pm_var (i := 3))))) pa_nilm) (pk_consm pm_bl pk_nilm)))))
theorem sc_Row_spread : FnScope ["self", "many", "exponent", "factor"] ["self", "many"] (defScope s_Row_spread) := ⟨rfl, rfl, rfl, by decide +kernel, rfl, by decide +kernel, by decide +kernel⟩
def b_Row_spread : MS := (sSeq (sIf (tOrM (tNotM (mTru (mCall m_is_integer (mCons (mVar 1) mNil)))) (mTst cEqG (mVar 1) (mC (.int 0)))) (sRaiseK 13 "value" (mVar 1)) sSkip)
  (sRet (mCallK n_Row_init_2_is_known (mCons (mLock (mUn (atD [(15, .slot 0)]) (mVar 0)) (mDc (mItM itDi (mUn (atD [(15, .slot 0)]) (mVar 0))) (.tp [(.nm 2), (.nm 3)]) tYesM (mBin (binO [(15, m_Row_mul)] bMul) (mVar 2) (mVar 1)) (mVar 3) [2, 3])) mNil) (mCons (mC (.bl true)) mNil))))
def m_Row_spread : MF := mkF 4 2 b_Row_spread
theorem ok_Row_spread (T : TT P G mg base A) : FnG G P w mg base 9 A.a_Row_spread m_Row_spread :=
  fn_okG T.f_Row_spread sc_Row_spread rfl rfl (T.f_Row_spread.binds fun _ _ _ _ _ _ us hl => match us, hl with | [_, _], _ => rfl) fun cdv Ar outer s H E hr hg =>
    (pss_consm (ps_ifm (pt_w (pw_orm (pt_notm (pt_tru (pm_call (cm_fnG (ok_is_integer T) (hr.mono (by decide)) hg) (by rfl) T.g_is_integer T.f_is_integer.kp (pa_consm (pm_var (i := 1)) pa_nilm)))) (pw_or1m (pt_cmp (om_eqG hr.u65) (pm_var (i := 1)) pm_int (nomark _))))) (pss_onem (ps_raiseK (k := 0) rfl T.ca_InvalidNumber T.kx_InvalidNumber T.n_super (hr.mono (by decide)) (by rfl) T.g_InvalidNumber (pm_var (i := 1)))) pss_nilm)
    (pss_onem (ps_retm (pm_callK (cm_make T.ca_Row T.mk_Row (ok_Row_init T) (B_Row_init_2_is_known T) (hr.mono (by decide)) hg) (by rfl) T.g_Row T.mk_Row.kp (pa_consm (pm_lock (md := (mUn (atD [(15, .slot 0)]) (mVar 0))) (pm_dc (own := [("exponent", 2), ("factor", 3)]) (by rfl) sc_Row_spread.nd (pi_itemsm (pm_at (.cons (atSl T.ca_Row T.sc_Row.1 T.s1_Row_own_terms) .nil) (pm_var (i := 0)))) (blkOk_by (own := [("exponent", 2), ("factor", 3)]) (N := ["self", "many", "exponent", "factor"]) (sc := defScope s_Row_spread) (by decide +kernel)) (fun _ _ _ _ _ => (pgt (by rfl) (pgs1 (pgn (i := 2) sc_Row_spread.nd) (pgs1 (pgn (i := 3) sc_Row_spread.nd) pgs0)))) (fun _ _ _ _ _ => pts_nilm) (fun _ _ _ _ _ => (pm_bin (om_binO (.cons (boOk T.ca_Row T.bo_Row_mul (cm_fnG (ok_Row_mul T) (hr.mono (by decide)) hg)) .nil) om_mul) (pm_var (i := 2)) (pm_var (i := 1)))) (fun _ _ _ _ _ => (pm_var (i := 3))))) pa_nilm) (pk_consm pm_bl pk_nilm)))))
theorem sc_Row_at : FnScope ["self", "value", "exponent", "factor"] ["self", "value"] (defScope s_Row_at) := ⟨rfl, rfl, rfl, by decide +kernel, rfl, by decide +kernel, by decide +kernel⟩
def b_Row_at : MS := (sSeq (sIf (tOrM (tNotM (mTru (mCall m_is_integer (mCons (mVar 1) mNil)))) (mTst cNeG (mCall fAbs (mCons (mVar 1) mNil)) (mC (.int 1)))) (sRaiseK 13 "value" (mVar 1)) sSkip)
  (sRet (mCall fSum (mCons (mLock (mUn (atD [(15, .slot 0)]) (mVar 0)) (mLc (mItM itDi (mUn (atD [(15, .slot 0)]) (mVar 0))) (.tp [(.nm 2), (.nm 3)]) tYesM (mIf (mTst cEqG (mBin bMod (mVar 2) (mC (.int 2))) (mC (.int 0))) (mVar 3) (mBin (binO [(15, m_Row_mul)] bMul) (mVar 3) (mVar 1))) [2, 3])) mNil))))
def m_Row_at : MF := mkF 4 2 b_Row_at
theorem ok_Row_at (T : TT P G mg base A) : FnG G P w mg base 9 A.a_Row_at m_Row_at :=
  fn_okG T.f_Row_at sc_Row_at rfl rfl (T.f_Row_at.binds fun _ _ _ _ _ _ us hl => match us, hl with | [_, _], _ => rfl) fun cdv Ar outer s H E hr hg =>
    (pss_consm (ps_ifm (pt_w (pw_orm (pt_notm (pt_tru (pm_call (cm_fnG (ok_is_integer T) (hr.mono (by decide)) hg) (by rfl) T.g_is_integer T.f_is_integer.kp (pa_consm (pm_var (i := 1)) pa_nilm)))) (pw_or1m (pt_cmp (om_neG hr.u65) (pm_callB cm_abs (by rfl) T.n_abs (by decide +kernel) (pa_consm (pm_var (i := 1)) pa_nilm)) pm_int (nomark _))))) (pss_onem (ps_raiseK (k := 0) rfl T.ca_InvalidNumber T.kx_InvalidNumber T.n_super (hr.mono (by decide)) (by rfl) T.g_InvalidNumber (pm_var (i := 1)))) pss_nilm)
    (pss_onem (ps_retm (pm_callB (cm_sum rfl) (by rfl) T.n_sum (by decide +kernel) (pa_consm (pm_lock (md := (mUn (atD [(15, .slot 0)]) (mVar 0))) (pm_lc (own := [("exponent", 2), ("factor", 3)]) (by rfl) sc_Row_at.nd (pi_itemsm (pm_at (.cons (atSl T.ca_Row T.sc_Row.1 T.s1_Row_own_terms) .nil) (pm_var (i := 0)))) (blkOk_by (own := [("exponent", 2), ("factor", 3)]) (N := ["self", "value", "exponent", "factor"]) (sc := defScope s_Row_at) (by decide +kernel)) (fun _ _ _ _ _ => (pgt (by rfl) (pgs1 (pgn (i := 2) sc_Row_at.nd) (pgs1 (pgn (i := 3) sc_Row_at.nd) pgs0)))) (fun _ _ _ _ _ => pts_nilm) (fun _ _ _ _ _ => (pm_ifexp (pt_cmp (om_eqG hr.u65) (pm_bin om_mod (pm_var (i := 2)) pm_int) pm_int (nomark _)) (pm_var (i := 3)) (pm_bin (om_binO (.cons (boOk T.ca_Row T.bo_Row_mul (cm_fnG (ok_Row_mul T) (hr.mono (by decide)) hg)) .nil) om_mul) (pm_var (i := 3)) (pm_var (i := 1))))))) pa_nilm)))))
theorem sc_Row_turned : FnScope ["self", "exponent", "factor"] ["self"] (defScope s_Row_turned) := ⟨rfl, rfl, rfl, by decide +kernel, rfl, by decide +kernel, by decide +kernel⟩
def b_Row_turned : MS := (sRet (mCallK n_Row_init_2_is_known (mCons (mLock (mUn (atD [(15, .slot 0)]) (mVar 0)) (mDc (mItM itDi (mUn (atD [(15, .slot 0)]) (mVar 0))) (.tp [(.nm 1), (.nm 2)]) tYesM (mUn (unO [(15, m_Row_neg)] uNeg) (mVar 1)) (mVar 2) [1, 2])) mNil) (mCons (mC (.bl true)) mNil)))
def m_Row_turned : MF := mkF 3 1 b_Row_turned
theorem ok_Row_turned (T : TT P G mg base A) : FnG G P w mg base 11 A.a_Row_turned m_Row_turned :=
  fn_okG T.f_Row_turned sc_Row_turned rfl rfl (T.f_Row_turned.binds fun _ _ _ _ _ _ us hl => match us, hl with | [_], _ => rfl) fun cdv Ar outer s H E hr hg =>
    (pss_onem (ps_retm (pm_callK (cm_make T.ca_Row T.mk_Row (ok_Row_init T) (B_Row_init_2_is_known T) (hr.mono (by decide)) hg) (by rfl) T.g_Row T.mk_Row.kp (pa_consm (pm_lock (md := (mUn (atD [(15, .slot 0)]) (mVar 0))) (pm_dc (own := [("exponent", 1), ("factor", 2)]) (by rfl) sc_Row_turned.nd (pi_itemsm (pm_at (.cons (atSl T.ca_Row T.sc_Row.1 T.s1_Row_own_terms) .nil) (pm_var (i := 0)))) (blkOk_by (own := [("exponent", 1), ("factor", 2)]) (N := ["self", "exponent", "factor"]) (sc := defScope s_Row_turned) (by decide +kernel)) (fun _ _ _ _ _ => (pgt (by rfl) (pgs1 (pgn (i := 1) sc_Row_turned.nd) (pgs1 (pgn (i := 2) sc_Row_turned.nd) pgs0)))) (fun _ _ _ _ _ => pts_nilm) (fun _ _ _ _ _ => (pm_un (um_negO (.cons (ngOk T.ca_Row T.me_Row_neg (cm_fnG (ok_Row_neg T) (hr.mono (by decide)) hg)) .nil) um_neg) (pm_var (i := 1)))) (fun _ _ _ _ _ => (pm_var (i := 2))))) pa_nilm) (pk_consm pm_bl pk_nilm))))
abbrev g_Row_power_2 : List D → List D → List D := fun ds _ => ds ++ [.int 1]
theorem B_Row_power_2 (T : TT P G mg base A) : BnD G A.fd_Row_power ["cls", "exponent", "many"] 2 [] g_Row_power_2 := bnd_dfl (T.f_Row_power.binds0 (ps := ["cls", "exponent", "many"]) 2 (by intro z; cases z) rfl (fun _ _ _ _ _ _ us ks hu hk => match us, ks, hu, hk with | [_, _], [_], _, _ => ⟨_, _, _, _, _, _, rfl, rfl, rfl⟩)) rfl [.int 1] (fun _ _ => (.cons rel_int .nil))
theorem sc_Row_raised : FnScope ["self", "many", "exponent", "base", "found", "turn"] ["self", "many"] (defScope s_Row_raised) := ⟨rfl, rfl, rfl, by decide +kernel, rfl, by decide +kernel, by decide +kernel⟩
def b_Row_raised : MS := (sSeq (sIf (tOrM (tNotM (mTru (mCall m_is_integer (mCons (mVar 1) mNil)))) (mTst cGt (mCall fAbs (mCons (mVar 1) mNil)) (mC (.int 100)))) (sRaiseK 13 "value" (mVar 1)) sSkip)
  (sSeq (sIf (tAndM (mTst cLt (mVar 1) (mC (.int 0))) (tOrM (mTst cNeG (mCall (fLenO [(15, m_Row_len)]) (mCons (mUn (atD [(15, .slot 0)]) (mVar 0)) mNil)) (mC (.int 1))) (mTst cNeG (mCall fAbs (mCons (mBin (ixO [(15, m_Row_getitem)] ixG) (mUn fValues (mUn (atD [(15, .slot 0)]) (mVar 0))) (mC (.int 0))) mNil)) (mC (.int 1))))) (sRaiseP 12) sSkip)
  (sSeq (sIf (mTru (mCall fAny (mCons (mLock (mUn (atD [(15, .slot 0)]) (mVar 0)) (mLc (mIt (mUn (atD [(15, .slot 0)]) (mVar 0))) (.nm 2) tYesM (mBin cGt (mCall fAbs (mCons (mBin (binO [(15, m_Row_mul)] bMul) (mVar 2) (mVar 1)) mNil)) (mC (.int 10000))) [2])) mNil))) (sRaiseK 14 "limit" (mC (.int 10000))) sSkip)
  (sSeq (sSet 3 (mIf (mTst cGe (mVar 1) (mC (.int 0))) (mVar 0) (mUn (atD [(15, .prop m_Row_turned)]) (mVar 0))))
  (sSeq (sSet 4 (mCmeth 15 (mkK 2 0 g_Row_power_2 m_Row_power) (mCons (mC (.int 0)) mNil)))
  (sSeq (sFor (mIts itRng1 (mCons (mCall fAbs (mCons (mVar 1) mNil)) mNil)) (.nm 5) (sSet 4 (mBin (binO [(15, m_Row_mul)] bMul) (mVar 4) (mVar 3))))
  (sRet (mVar 4))))))))
def m_Row_raised : MF := mkF 6 2 b_Row_raised
theorem ok_Row_raised (T : TT P G mg base A) : FnG G P w mg base 13 A.a_Row_raised m_Row_raised :=
  fn_okG T.f_Row_raised sc_Row_raised rfl rfl (T.f_Row_raised.binds fun _ _ _ _ _ _ us hl => match us, hl with | [_, _], _ => rfl) fun cdv Ar outer s H E hr hg =>
    (pss_consm (ps_ifm (pt_w (pw_orm (pt_notm (pt_tru (pm_call (cm_fnG (ok_is_integer T) (hr.mono (by decide)) hg) (by rfl) T.g_is_integer T.f_is_integer.kp (pa_consm (pm_var (i := 1)) pa_nilm)))) (pw_or1m (pt_cmp om_gt (pm_callB cm_abs (by rfl) T.n_abs (by decide +kernel) (pa_consm (pm_var (i := 1)) pa_nilm)) (pm_globE (T.c_MAX_RAISED)) (nomark _))))) (pss_onem (ps_raiseK (k := 0) rfl T.ca_InvalidNumber T.kx_InvalidNumber T.n_super (hr.mono (by decide)) (by rfl) T.g_InvalidNumber (pm_var (i := 1)))) pss_nilm)
    (pss_consm (ps_ifm (pt_w (pw_andm (pt_cmp om_lt (pm_var (i := 1)) pm_int (nomark _)) (pw_and1m (pt_w (pw_orm (pt_cmp (om_neG hr.u65) (pm_callB (cm_lenO (.cons (loOk T.ca_Row T.me_Row_len (ok_Row_len T) (hr.mono (by decide)) hg) .nil)) (by rfl) T.n_len (by decide +kernel) (pa_consm (pm_at (.cons (atSl T.ca_Row T.sc_Row.1 T.s1_Row_own_terms) .nil) (pm_var (i := 0))) pa_nilm)) pm_int (nomark _)) (pw_or1m (pt_cmp (om_neG hr.u65) (pm_callB cm_abs (by rfl) T.n_abs (by decide +kernel) (pa_consm (pm_ixM (ixm_o (.cons (giOk T.ca_Row T.me_Row_getitem T.fi_Row_getitem (ok_Row_getitem T) (hr.mono (by decide)) hg) .nil) (ixm_g hr.u1 (fun _ _ => rfl))) (pm_listValues rfl (pm_at (.cons (atSl T.ca_Row T.sc_Row.1 T.s1_Row_own_terms) .nil) (pm_var (i := 0))) (by rfl) T.n_list) pm_int) pa_nilm)) pm_int (nomark _)))))))) (pss_onem (ps_raiseP rfl T.ca_InvalidOperation T.kp_InvalidOperation (by rfl) T.g_InvalidOperation)) pss_nilm)
    (pss_consm (ps_ifm (pt_tru (pm_callB (cm_any rfl) (by rfl) T.n_any (by decide +kernel) (pa_consm (pm_lock (md := (mUn (atD [(15, .slot 0)]) (mVar 0))) (pm_lc (own := [("exponent", 2)]) (by rfl) sc_Row_raised.nd (pi_anym (pm_at (.cons (atSl T.ca_Row T.sc_Row.1 T.s1_Row_own_terms) .nil) (pm_var (i := 0)))) (blkOk_by (own := [("exponent", 2)]) (N := ["self", "many", "exponent", "base", "found", "turn"]) (sc := defScope s_Row_raised) (by decide +kernel)) (fun _ _ _ _ _ => (pgn (i := 2) sc_Row_raised.nd)) (fun _ _ _ _ _ => pts_nilm) (fun _ _ _ _ _ => (pm_cmp om_gt (pm_callB cm_abs (by rfl) T.n_abs (by decide +kernel) (pa_consm (pm_bin (om_binO (.cons (boOk T.ca_Row T.bo_Row_mul (cm_fnG (ok_Row_mul T) (hr.mono (by decide)) hg)) .nil) om_mul) (pm_var (i := 2)) (pm_var (i := 1))) pa_nilm)) (pm_globE (T.c_MAX_POWER)) (nomark _))))) pa_nilm))) (pss_onem (ps_raiseK (k := 0) rfl T.ca_TooMany T.kx_TooMany T.n_super (hr.mono (by decide)) (by rfl) T.g_TooMany (pm_globE (T.c_MAX_POWER)))) pss_nilm)
    (pss_consm (ps_setm (i := 3) sc_Row_raised.nd (pm_ifexp (pt_cmp om_ge (pm_var (i := 1)) pm_int (nomark _)) (pm_var (i := 0)) (pm_at (.cons (atPr T.ca_Row T.sc_Row.1 T.pr_Row_turned (ok_Row_turned T) (hr.mono (by decide)) hg) .nil) (pm_var (i := 0)))))
    (pss_consm (ps_setm (i := 4) sc_Row_raised.nd (pm_cmeth T.ca_Row (by rfl) T.g_Row T.cm_Row_power (ok_Row_power T) (B_Row_power_2 T) (hr.mono (by decide)) hg (pa_consm pm_int pa_nilm)))
    (pss_consm (ps_form (by rfl) (pi_range1m (by rfl) T.n_range (pa_consm (pm_callB cm_abs (by rfl) T.n_abs (by decide +kernel) (pa_consm (pm_var (i := 1)) pa_nilm)) pa_nilm)) (pgn (i := 5) sc_Row_raised.nd) (pss_onem (ps_setm (i := 4) sc_Row_raised.nd (pm_bin (om_binO (.cons (boOk T.ca_Row T.bo_Row_mul (cm_fnG (ok_Row_mul T) (hr.mono (by decide)) hg)) .nil) om_mul) (pm_var (i := 4)) (pm_var (i := 3))))))
    (pss_onem (ps_retm (pm_var (i := 4))))))))))
theorem sc_Lnumbers_right : FnScope ["_law_dice_here", "_law_row", "_law_odd", "_law_shift", "_law_told", "_law_value", "_law_power"] ["_law_dice_here", "_law_row"] (defScope s_Lnumbers_right) := ⟨rfl, rfl, rfl, by decide +kernel, rfl, by decide +kernel, by decide +kernel⟩
def b_Lnumbers_right : MS := (sSeq (sSet 2 (mCall m_Lpick (mCons (mVar 0) (mCons (mLst (mCons (mC .non) (mCons (mC (.bl true)) (mCons (mC (.str [49])) (mCons (mTup (mCons (mC (.int 1)) mNil)) (mCons (mLst mNil) (mCons (mBin bPow (mC (.int 10)) (mC (.int 60))) (mCons mDct0 mNil)))))))) mNil))))
  (sSeq (sSet 3 (mCall m_Lpick (mCons (mVar 0) (mCons (mLst (mCons (mC (.int 0)) (mCons (mC (.int 9996)) (mCons (mC (.int 9997)) (mCons (mUn uNeg (mC (.int 9998))) (mCons (mUn uNeg (mC (.int 9999))) (mCons (mBin bPow (mC (.int 10)) (mC (.int 50))) mNil))))))) mNil))))
  (sSeq (sSet 4 (mLst (mCons (mWord kix [⟨11, none, [114, 111, 119]⟩, ⟨12, none, [111, 112, 101, 114, 97, 116, 105, 111, 110]⟩, ⟨13, some "value", [110, 117, 109, 98, 101, 114, 32]⟩, ⟨14, some "limit", [109, 97, 110, 121, 32]⟩] [102, 105, 110, 101] (mBin (ixO [(15, m_Row_getitem)] ixG) (mVar 1) (mVar 2))) mNil)))
  (sSeq (sExpr (mMeth isLst fAppend (mVar 4) (mCons (mWord kix [⟨11, none, [114, 111, 119]⟩, ⟨12, none, [111, 112, 101, 114, 97, 116, 105, 111, 110]⟩, ⟨13, some "value", [110, 117, 109, 98, 101, 114, 32]⟩, ⟨14, some "limit", [109, 97, 110, 121, 32]⟩] [102, 105, 110, 101] (mMethO [(15, m_Row_shifted)] (mVar 1) (mCons (mVar 2) mNil))) mNil)))
  (sSeq (sExpr (mMeth isLst fAppend (mVar 4) (mCons (mWord kix [⟨11, none, [114, 111, 119]⟩, ⟨12, none, [111, 112, 101, 114, 97, 116, 105, 111, 110]⟩, ⟨13, some "value", [110, 117, 109, 98, 101, 114, 32]⟩, ⟨14, some "limit", [109, 97, 110, 121, 32]⟩] [102, 105, 110, 101] (mMethO [(15, m_Row_spread)] (mVar 1) (mCons (mVar 2) mNil))) mNil)))
  (sSeq (sExpr (mMeth isLst fAppend (mVar 4) (mCons (mWord kix [⟨11, none, [114, 111, 119]⟩, ⟨12, none, [111, 112, 101, 114, 97, 116, 105, 111, 110]⟩, ⟨13, some "value", [110, 117, 109, 98, 101, 114, 32]⟩, ⟨14, some "limit", [109, 97, 110, 121, 32]⟩] [102, 105, 110, 101] (mMethO [(15, m_Row_at)] (mVar 1) (mCons (mVar 2) mNil))) mNil)))
  (sSeq (sExpr (mMeth isLst fAppend (mVar 4) (mCons (mWord kix [⟨11, none, [114, 111, 119]⟩, ⟨12, none, [111, 112, 101, 114, 97, 116, 105, 111, 110]⟩, ⟨13, some "value", [110, 117, 109, 98, 101, 114, 32]⟩, ⟨14, some "limit", [109, 97, 110, 121, 32]⟩] [102, 105, 110, 101] (mMethO [(15, m_Row_raised)] (mVar 1) (mCons (mVar 2) mNil))) mNil)))
  (sSeq (sIf (tOrM (mTst (neO [(15, m_Row_eq)] eqts cNeG) (mVar 4) (mBin (binO [(15, m_Row_mul)] bMul) (mLst (mCons (mBin (binO [(15, m_Row_add)] bAdd) (mC (.str [110, 117, 109, 98, 101, 114, 32])) (mCall fReprD (mCons (mVar 2) mNil))) mNil)) (mC (.int 5)))) (mTst cNeG (mWord kix [⟨11, none, [114, 111, 119]⟩, ⟨12, none, [111, 112, 101, 114, 97, 116, 105, 111, 110]⟩, ⟨13, some "value", [110, 117, 109, 98, 101, 114, 32]⟩, ⟨14, some "limit", [109, 97, 110, 121, 32]⟩] [102, 105, 110, 101] (mMethO [(15, m_Row_spread)] (mVar 1) (mCons (mC (.int 0)) mNil))) (mC (.str [110, 117, 109, 98, 101, 114, 32, 48])))) (sRet (mC (.bl false))) sSkip)
  (sSeq (sSet 5 (mCall m_Lpick (mCons (mVar 0) (mCons (mLst (mCons (mC (.int 0)) (mCons (mC (.int 2)) (mCons (mUn uNeg (mC (.int 2))) (mCons (mBin bPow (mC (.int 10)) (mC (.int 59))) mNil))))) mNil))))
  (sSeq (sSet 6 (mCall m_Lpick (mCons (mVar 0) (mCons (mLst (mCons (mC (.int 101)) (mCons (mUn uNeg (mC (.int 101))) (mCons (mBin bPow (mC (.int 10)) (mC (.int 59))) mNil)))) mNil))))
  (sSeq (sSet 4 (mLst (mCons (mWord kix [⟨11, none, [114, 111, 119]⟩, ⟨12, none, [111, 112, 101, 114, 97, 116, 105, 111, 110]⟩, ⟨13, some "value", [110, 117, 109, 98, 101, 114, 32]⟩, ⟨14, some "limit", [109, 97, 110, 121, 32]⟩] [102, 105, 110, 101] (mMethO [(15, m_Row_at)] (mVar 1) (mCons (mVar 5) mNil))) mNil)))
  (sSeq (sExpr (mMeth isLst fAppend (mVar 4) (mCons (mWord kix [⟨11, none, [114, 111, 119]⟩, ⟨12, none, [111, 112, 101, 114, 97, 116, 105, 111, 110]⟩, ⟨13, some "value", [110, 117, 109, 98, 101, 114, 32]⟩, ⟨14, some "limit", [109, 97, 110, 121, 32]⟩] [102, 105, 110, 101] (mMethO [(15, m_Row_raised)] (mVar 1) (mCons (mVar 6) mNil))) mNil)))
  (sSeq (sIf (mTst cNeG (mVar 4) (mLst (mCons (mBin (binO [(15, m_Row_add)] bAdd) (mC (.str [110, 117, 109, 98, 101, 114, 32])) (mCall fReprD (mCons (mVar 5) mNil))) (mCons (mBin (binO [(15, m_Row_add)] bAdd) (mC (.str [110, 117, 109, 98, 101, 114, 32])) (mCall fReprD (mCons (mVar 6) mNil))) mNil)))) (sRet (mC (.bl false))) sSkip)
  (sRet (mBin (eqO [(15, m_Row_eq)] eqts cEqG) (mWord kix [⟨11, none, [114, 111, 119]⟩, ⟨12, none, [111, 112, 101, 114, 97, 116, 105, 111, 110]⟩, ⟨13, some "value", [110, 117, 109, 98, 101, 114, 32]⟩, ⟨14, some "limit", [109, 97, 110, 121, 32]⟩] [102, 105, 110, 101] (mMethO [(15, m_Row_shifted)] (mVar 1) (mCons (mVar 3) mNil))) (mIf (mTst cIn (mVar 3) (mTup (mCons (mC (.int 0)) (mCons (mC (.int 9996)) (mCons (mUn uNeg (mC (.int 9998))) mNil))))) (mC (.str [102, 105, 110, 101])) (mC (.str [109, 97, 110, 121, 32, 49, 48, 48, 48, 48]))))))))))))))))))
def m_Lnumbers_right : MF := mkF 7 2 b_Lnumbers_right
theorem ok_Lnumbers_right (T : TT P G mg base A) : FnG G P w mg base 16 A.a_Lnumbers_right m_Lnumbers_right :=
  fn_okC T.f_Lnumbers_right sc_Lnumbers_right rfl rfl (T.f_Lnumbers_right.binds fun _ _ _ _ _ _ us hl => match us, hl with | [_, _], _ => rfl) T.cd_Lnumbers_right fun Ar outer s H E hr hg =>
    (pss_consm (ps_setm (i := 2) sc_Lnumbers_right.nd (pm_call (cm_fnG (ok_Lpick T) (hr.mono (by decide)) hg) (by rfl) T.g_Lpick T.f_Lpick.kp (pa_consm (pm_var (i := 0)) (pa_consm (pm_lst (pa_consm pm_non (pa_consm pm_bl (pa_consm (pm_str (by decide +kernel)) (pa_consm (pm_tup (pa_consm pm_int pa_nilm)) (pa_consm (pm_lst pa_nilm) (pa_consm (pm_bin om_pow pm_int pm_int) (pa_consm pm_dct0 pa_nilm)))))))) pa_nilm))))
    (pss_consm (ps_setm (i := 3) sc_Lnumbers_right.nd (pm_call (cm_fnG (ok_Lpick T) (hr.mono (by decide)) hg) (by rfl) T.g_Lpick T.f_Lpick.kp (pa_consm (pm_var (i := 0)) (pa_consm (pm_lst (pa_consm pm_int (pa_consm pm_int (pa_consm pm_int (pa_consm (pm_un um_neg pm_int) (pa_consm (pm_un um_neg pm_int) (pa_consm (pm_bin om_pow pm_int pm_int) pa_nilm))))))) pa_nilm))))
    (pss_consm (ps_setm (i := 4) sc_Lnumbers_right.nd (pm_lst (pa_consm (pm_word (k := 4) (Ng := ["_law_call", "e"]) T.xm (by rfl) T.g_Lword T.f_Lword sc_Lword (T.f_Lword.binds fun _ _ _ _ _ _ us hl => match us, hl with | [_], _ => rfl) (by rfl) (by decide +kernel) (.plain (by decide +kernel) (by rfl) (by decide) (T.g_InvalidRow.trans (congrArg some T.ca_InvalidRow.symm)) (.plain (by decide +kernel) (by rfl) (by decide) (T.g_InvalidOperation.trans (congrArg some T.ca_InvalidOperation.symm)) (.named (by decide +kernel) (by rfl) (by decide) (T.g_InvalidNumber.trans (congrArg some T.ca_InvalidNumber.symm)) (by rfl) (by rfl) (by decide) (by decide) (by rfl) T.n_repr (xf_of (l := [13]) (by decide) (fun t ht => by rcases List.mem_singleton.mp ht with rfl; exact ⟨_, T.ca_InvalidNumber, T.kx_InvalidNumber.xf, T.kx_InvalidNumber.nof⟩)) (.named (by decide +kernel) (by rfl) (by decide) (T.g_TooMany.trans (congrArg some T.ca_TooMany.symm)) (by rfl) (by rfl) (by decide) (by decide) (by rfl) T.n_repr (xf_of (l := [14]) (by decide) (fun t ht => by rcases List.mem_singleton.mp ht with rfl; exact ⟨_, T.ca_TooMany, T.kx_TooMany.xf, T.kx_TooMany.nof⟩)) .nil)))) T.tb_Lnumbers_right (by rfl) T.tq_Lnumbers_right T.tu_Lnumbers_right (hr.mono (by decide)) hg (LamX.lamS_by (sc := defScope s_Lnumbers_right) (by decide +kernel)) (by rfl) (fun _ _ _ _ _ => by rfl) (fun _ _ _ _ _ _ _ hr hg => (pm_ixM (ixm_o (.cons (giOk T.ca_Row T.me_Row_getitem T.fi_Row_getitem (ok_Row_getitem T) (hr.mono (by decide)) hg) .nil) (ixm_g hr.u1 (fun _ _ => rfl))) (pm_var (i := 1)) (pm_var (i := 2)))) (by rfl) (by first | exact Or.inl rfl | exact Or.inr (Or.inl rfl) | exact Or.inr (Or.inr rfl))) pa_nilm)))
    (pss_consm (ps_exprm (pm_append (pm_var (i := 4)) (pm_word (k := 11) (Ng := ["_law_call", "e"]) T.xm (by rfl) T.g_Lword T.f_Lword sc_Lword (T.f_Lword.binds fun _ _ _ _ _ _ us hl => match us, hl with | [_], _ => rfl) (by rfl) (by decide +kernel) (.plain (by decide +kernel) (by rfl) (by decide) (T.g_InvalidRow.trans (congrArg some T.ca_InvalidRow.symm)) (.plain (by decide +kernel) (by rfl) (by decide) (T.g_InvalidOperation.trans (congrArg some T.ca_InvalidOperation.symm)) (.named (by decide +kernel) (by rfl) (by decide) (T.g_InvalidNumber.trans (congrArg some T.ca_InvalidNumber.symm)) (by rfl) (by rfl) (by decide) (by decide) (by rfl) T.n_repr (xf_of (l := [13]) (by decide) (fun t ht => by rcases List.mem_singleton.mp ht with rfl; exact ⟨_, T.ca_InvalidNumber, T.kx_InvalidNumber.xf, T.kx_InvalidNumber.nof⟩)) (.named (by decide +kernel) (by rfl) (by decide) (T.g_TooMany.trans (congrArg some T.ca_TooMany.symm)) (by rfl) (by rfl) (by decide) (by decide) (by rfl) T.n_repr (xf_of (l := [14]) (by decide) (fun t ht => by rcases List.mem_singleton.mp ht with rfl; exact ⟨_, T.ca_TooMany, T.kx_TooMany.xf, T.kx_TooMany.nof⟩)) .nil)))) T.tb_Lnumbers_right (by rfl) T.tq_Lnumbers_right T.tu_Lnumbers_right (hr.mono (by decide)) hg (LamX.lamS_by (sc := defScope s_Lnumbers_right) (by decide +kernel)) (by rfl) (fun _ _ _ _ _ => by rfl) (fun _ _ _ _ _ _ _ hr hg => (pm_methO (.cons (meOk T.ca_Row T.sc_Row.1 T.me_Row_shifted (cm_fnG (ok_Row_shifted T) (hr.mono (by decide)) hg)) .nil) (pm_var (i := 1)) (pa_consm (pm_var (i := 2)) pa_nilm))) (by rfl) (by first | exact Or.inl rfl | exact Or.inr (Or.inl rfl) | exact Or.inr (Or.inr rfl)))))
    (pss_consm (ps_exprm (pm_append (pm_var (i := 4)) (pm_word (k := 9) (Ng := ["_law_call", "e"]) T.xm (by rfl) T.g_Lword T.f_Lword sc_Lword (T.f_Lword.binds fun _ _ _ _ _ _ us hl => match us, hl with | [_], _ => rfl) (by rfl) (by decide +kernel) (.plain (by decide +kernel) (by rfl) (by decide) (T.g_InvalidRow.trans (congrArg some T.ca_InvalidRow.symm)) (.plain (by decide +kernel) (by rfl) (by decide) (T.g_InvalidOperation.trans (congrArg some T.ca_InvalidOperation.symm)) (.named (by decide +kernel) (by rfl) (by decide) (T.g_InvalidNumber.trans (congrArg some T.ca_InvalidNumber.symm)) (by rfl) (by rfl) (by decide) (by decide) (by rfl) T.n_repr (xf_of (l := [13]) (by decide) (fun t ht => by rcases List.mem_singleton.mp ht with rfl; exact ⟨_, T.ca_InvalidNumber, T.kx_InvalidNumber.xf, T.kx_InvalidNumber.nof⟩)) (.named (by decide +kernel) (by rfl) (by decide) (T.g_TooMany.trans (congrArg some T.ca_TooMany.symm)) (by rfl) (by rfl) (by decide) (by decide) (by rfl) T.n_repr (xf_of (l := [14]) (by decide) (fun t ht => by rcases List.mem_singleton.mp ht with rfl; exact ⟨_, T.ca_TooMany, T.kx_TooMany.xf, T.kx_TooMany.nof⟩)) .nil)))) T.tb_Lnumbers_right (by rfl) T.tq_Lnumbers_right T.tu_Lnumbers_right (hr.mono (by decide)) hg (LamX.lamS_by (sc := defScope s_Lnumbers_right) (by decide +kernel)) (by rfl) (fun _ _ _ _ _ => by rfl) (fun _ _ _ _ _ _ _ hr hg => (pm_methO (.cons (meOk T.ca_Row T.sc_Row.1 T.me_Row_spread (cm_fnG (ok_Row_spread T) (hr.mono (by decide)) hg)) .nil) (pm_var (i := 1)) (pa_consm (pm_var (i := 2)) pa_nilm))) (by rfl) (by first | exact Or.inl rfl | exact Or.inr (Or.inl rfl) | exact Or.inr (Or.inr rfl)))))
    (pss_consm (ps_exprm (pm_append (pm_var (i := 4)) (pm_word (k := 9) (Ng := ["_law_call", "e"]) T.xm (by rfl) T.g_Lword T.f_Lword sc_Lword (T.f_Lword.binds fun _ _ _ _ _ _ us hl => match us, hl with | [_], _ => rfl) (by rfl) (by decide +kernel) (.plain (by decide +kernel) (by rfl) (by decide) (T.g_InvalidRow.trans (congrArg some T.ca_InvalidRow.symm)) (.plain (by decide +kernel) (by rfl) (by decide) (T.g_InvalidOperation.trans (congrArg some T.ca_InvalidOperation.symm)) (.named (by decide +kernel) (by rfl) (by decide) (T.g_InvalidNumber.trans (congrArg some T.ca_InvalidNumber.symm)) (by rfl) (by rfl) (by decide) (by decide) (by rfl) T.n_repr (xf_of (l := [13]) (by decide) (fun t ht => by rcases List.mem_singleton.mp ht with rfl; exact ⟨_, T.ca_InvalidNumber, T.kx_InvalidNumber.xf, T.kx_InvalidNumber.nof⟩)) (.named (by decide +kernel) (by rfl) (by decide) (T.g_TooMany.trans (congrArg some T.ca_TooMany.symm)) (by rfl) (by rfl) (by decide) (by decide) (by rfl) T.n_repr (xf_of (l := [14]) (by decide) (fun t ht => by rcases List.mem_singleton.mp ht with rfl; exact ⟨_, T.ca_TooMany, T.kx_TooMany.xf, T.kx_TooMany.nof⟩)) .nil)))) T.tb_Lnumbers_right (by rfl) T.tq_Lnumbers_right T.tu_Lnumbers_right (hr.mono (by decide)) hg (LamX.lamS_by (sc := defScope s_Lnumbers_right) (by decide +kernel)) (by rfl) (fun _ _ _ _ _ => by rfl) (fun _ _ _ _ _ _ _ hr hg => (pm_methO (.cons (meOk T.ca_Row T.sc_Row.1 T.me_Row_at (cm_fnG (ok_Row_at T) (hr.mono (by decide)) hg)) .nil) (pm_var (i := 1)) (pa_consm (pm_var (i := 2)) pa_nilm))) (by rfl) (by first | exact Or.inl rfl | exact Or.inr (Or.inl rfl) | exact Or.inr (Or.inr rfl)))))
    (pss_consm (ps_exprm (pm_append (pm_var (i := 4)) (pm_word (k := 13) (Ng := ["_law_call", "e"]) T.xm (by rfl) T.g_Lword T.f_Lword sc_Lword (T.f_Lword.binds fun _ _ _ _ _ _ us hl => match us, hl with | [_], _ => rfl) (by rfl) (by decide +kernel) (.plain (by decide +kernel) (by rfl) (by decide) (T.g_InvalidRow.trans (congrArg some T.ca_InvalidRow.symm)) (.plain (by decide +kernel) (by rfl) (by decide) (T.g_InvalidOperation.trans (congrArg some T.ca_InvalidOperation.symm)) (.named (by decide +kernel) (by rfl) (by decide) (T.g_InvalidNumber.trans (congrArg some T.ca_InvalidNumber.symm)) (by rfl) (by rfl) (by decide) (by decide) (by rfl) T.n_repr (xf_of (l := [13]) (by decide) (fun t ht => by rcases List.mem_singleton.mp ht with rfl; exact ⟨_, T.ca_InvalidNumber, T.kx_InvalidNumber.xf, T.kx_InvalidNumber.nof⟩)) (.named (by decide +kernel) (by rfl) (by decide) (T.g_TooMany.trans (congrArg some T.ca_TooMany.symm)) (by rfl) (by rfl) (by decide) (by decide) (by rfl) T.n_repr (xf_of (l := [14]) (by decide) (fun t ht => by rcases List.mem_singleton.mp ht with rfl; exact ⟨_, T.ca_TooMany, T.kx_TooMany.xf, T.kx_TooMany.nof⟩)) .nil)))) T.tb_Lnumbers_right (by rfl) T.tq_Lnumbers_right T.tu_Lnumbers_right (hr.mono (by decide)) hg (LamX.lamS_by (sc := defScope s_Lnumbers_right) (by decide +kernel)) (by rfl) (fun _ _ _ _ _ => by rfl) (fun _ _ _ _ _ _ _ hr hg => (pm_methO (.cons (meOk T.ca_Row T.sc_Row.1 T.me_Row_raised (cm_fnG (ok_Row_raised T) (hr.mono (by decide)) hg)) .nil) (pm_var (i := 1)) (pa_consm (pm_var (i := 2)) pa_nilm))) (by rfl) (by first | exact Or.inl rfl | exact Or.inr (Or.inl rfl) | exact Or.inr (Or.inr rfl)))))
    (pss_consm (ps_ifm (pt_w (pw_orm (pt_cmp (om_neO T.ko.bt (.cons (eqOk T.ca_Row T.eq_Row (ok_Row_eq T) (hr.mono (by decide)) hg) .nil) (om_neG hr.u65)) (pm_var (i := 4)) (pm_bin (om_binO (.cons (boOk T.ca_Row T.bo_Row_mul (cm_fnG (ok_Row_mul T) (hr.mono (by decide)) hg)) .nil) om_mul) (pm_lst (pa_consm (pm_bin (om_binO (.cons (boOk T.ca_Row T.bo_Row_add (cm_fnG (ok_Row_add T) (hr.mono (by decide)) hg)) .nil) om_add) (pm_str (by decide +kernel)) (pm_callB (cm_reprD hg hr.units) (by rfl) T.n_repr (by decide +kernel) (pa_consm (pm_var (i := 2)) pa_nilm))) pa_nilm)) pm_int) (nomark _)) (pw_or1m (pt_cmp (om_neG hr.u65) (pm_word (k := 9) (Ng := ["_law_call", "e"]) T.xm (by rfl) T.g_Lword T.f_Lword sc_Lword (T.f_Lword.binds fun _ _ _ _ _ _ us hl => match us, hl with | [_], _ => rfl) (by rfl) (by decide +kernel) (.plain (by decide +kernel) (by rfl) (by decide) (T.g_InvalidRow.trans (congrArg some T.ca_InvalidRow.symm)) (.plain (by decide +kernel) (by rfl) (by decide) (T.g_InvalidOperation.trans (congrArg some T.ca_InvalidOperation.symm)) (.named (by decide +kernel) (by rfl) (by decide) (T.g_InvalidNumber.trans (congrArg some T.ca_InvalidNumber.symm)) (by rfl) (by rfl) (by decide) (by decide) (by rfl) T.n_repr (xf_of (l := [13]) (by decide) (fun t ht => by rcases List.mem_singleton.mp ht with rfl; exact ⟨_, T.ca_InvalidNumber, T.kx_InvalidNumber.xf, T.kx_InvalidNumber.nof⟩)) (.named (by decide +kernel) (by rfl) (by decide) (T.g_TooMany.trans (congrArg some T.ca_TooMany.symm)) (by rfl) (by rfl) (by decide) (by decide) (by rfl) T.n_repr (xf_of (l := [14]) (by decide) (fun t ht => by rcases List.mem_singleton.mp ht with rfl; exact ⟨_, T.ca_TooMany, T.kx_TooMany.xf, T.kx_TooMany.nof⟩)) .nil)))) T.tb_Lnumbers_right (by rfl) T.tq_Lnumbers_right T.tu_Lnumbers_right (hr.mono (by decide)) hg (LamX.lamS_by (sc := defScope s_Lnumbers_right) (by decide +kernel)) (by rfl) (fun _ _ _ _ _ => by rfl) (fun _ _ _ _ _ _ _ hr hg => (pm_methO (.cons (meOk T.ca_Row T.sc_Row.1 T.me_Row_spread (cm_fnG (ok_Row_spread T) (hr.mono (by decide)) hg)) .nil) (pm_var (i := 1)) (pa_consm pm_int pa_nilm))) (by rfl) (by first | exact Or.inl rfl | exact Or.inr (Or.inl rfl) | exact Or.inr (Or.inr rfl))) (pm_str (by decide +kernel)) (nomark _))))) (pss_onem (ps_retm pm_bl)) pss_nilm)
    (pss_consm (ps_setm (i := 5) sc_Lnumbers_right.nd (pm_call (cm_fnG (ok_Lpick T) (hr.mono (by decide)) hg) (by rfl) T.g_Lpick T.f_Lpick.kp (pa_consm (pm_var (i := 0)) (pa_consm (pm_lst (pa_consm pm_int (pa_consm pm_int (pa_consm (pm_un um_neg pm_int) (pa_consm (pm_bin om_pow pm_int pm_int) pa_nilm))))) pa_nilm))))
    (pss_consm (ps_setm (i := 6) sc_Lnumbers_right.nd (pm_call (cm_fnG (ok_Lpick T) (hr.mono (by decide)) hg) (by rfl) T.g_Lpick T.f_Lpick.kp (pa_consm (pm_var (i := 0)) (pa_consm (pm_lst (pa_consm pm_int (pa_consm (pm_un um_neg pm_int) (pa_consm (pm_bin om_pow pm_int pm_int) pa_nilm)))) pa_nilm))))
    (pss_consm (ps_setm (i := 4) sc_Lnumbers_right.nd (pm_lst (pa_consm (pm_word (k := 9) (Ng := ["_law_call", "e"]) T.xm (by rfl) T.g_Lword T.f_Lword sc_Lword (T.f_Lword.binds fun _ _ _ _ _ _ us hl => match us, hl with | [_], _ => rfl) (by rfl) (by decide +kernel) (.plain (by decide +kernel) (by rfl) (by decide) (T.g_InvalidRow.trans (congrArg some T.ca_InvalidRow.symm)) (.plain (by decide +kernel) (by rfl) (by decide) (T.g_InvalidOperation.trans (congrArg some T.ca_InvalidOperation.symm)) (.named (by decide +kernel) (by rfl) (by decide) (T.g_InvalidNumber.trans (congrArg some T.ca_InvalidNumber.symm)) (by rfl) (by rfl) (by decide) (by decide) (by rfl) T.n_repr (xf_of (l := [13]) (by decide) (fun t ht => by rcases List.mem_singleton.mp ht with rfl; exact ⟨_, T.ca_InvalidNumber, T.kx_InvalidNumber.xf, T.kx_InvalidNumber.nof⟩)) (.named (by decide +kernel) (by rfl) (by decide) (T.g_TooMany.trans (congrArg some T.ca_TooMany.symm)) (by rfl) (by rfl) (by decide) (by decide) (by rfl) T.n_repr (xf_of (l := [14]) (by decide) (fun t ht => by rcases List.mem_singleton.mp ht with rfl; exact ⟨_, T.ca_TooMany, T.kx_TooMany.xf, T.kx_TooMany.nof⟩)) .nil)))) T.tb_Lnumbers_right (by rfl) T.tq_Lnumbers_right T.tu_Lnumbers_right (hr.mono (by decide)) hg (LamX.lamS_by (sc := defScope s_Lnumbers_right) (by decide +kernel)) (by rfl) (fun _ _ _ _ _ => by rfl) (fun _ _ _ _ _ _ _ hr hg => (pm_methO (.cons (meOk T.ca_Row T.sc_Row.1 T.me_Row_at (cm_fnG (ok_Row_at T) (hr.mono (by decide)) hg)) .nil) (pm_var (i := 1)) (pa_consm (pm_var (i := 5)) pa_nilm))) (by rfl) (by first | exact Or.inl rfl | exact Or.inr (Or.inl rfl) | exact Or.inr (Or.inr rfl))) pa_nilm)))
    (pss_consm (ps_exprm (pm_append (pm_var (i := 4)) (pm_word (k := 13) (Ng := ["_law_call", "e"]) T.xm (by rfl) T.g_Lword T.f_Lword sc_Lword (T.f_Lword.binds fun _ _ _ _ _ _ us hl => match us, hl with | [_], _ => rfl) (by rfl) (by decide +kernel) (.plain (by decide +kernel) (by rfl) (by decide) (T.g_InvalidRow.trans (congrArg some T.ca_InvalidRow.symm)) (.plain (by decide +kernel) (by rfl) (by decide) (T.g_InvalidOperation.trans (congrArg some T.ca_InvalidOperation.symm)) (.named (by decide +kernel) (by rfl) (by decide) (T.g_InvalidNumber.trans (congrArg some T.ca_InvalidNumber.symm)) (by rfl) (by rfl) (by decide) (by decide) (by rfl) T.n_repr (xf_of (l := [13]) (by decide) (fun t ht => by rcases List.mem_singleton.mp ht with rfl; exact ⟨_, T.ca_InvalidNumber, T.kx_InvalidNumber.xf, T.kx_InvalidNumber.nof⟩)) (.named (by decide +kernel) (by rfl) (by decide) (T.g_TooMany.trans (congrArg some T.ca_TooMany.symm)) (by rfl) (by rfl) (by decide) (by decide) (by rfl) T.n_repr (xf_of (l := [14]) (by decide) (fun t ht => by rcases List.mem_singleton.mp ht with rfl; exact ⟨_, T.ca_TooMany, T.kx_TooMany.xf, T.kx_TooMany.nof⟩)) .nil)))) T.tb_Lnumbers_right (by rfl) T.tq_Lnumbers_right T.tu_Lnumbers_right (hr.mono (by decide)) hg (LamX.lamS_by (sc := defScope s_Lnumbers_right) (by decide +kernel)) (by rfl) (fun _ _ _ _ _ => by rfl) (fun _ _ _ _ _ _ _ hr hg => (pm_methO (.cons (meOk T.ca_Row T.sc_Row.1 T.me_Row_raised (cm_fnG (ok_Row_raised T) (hr.mono (by decide)) hg)) .nil) (pm_var (i := 1)) (pa_consm (pm_var (i := 6)) pa_nilm))) (by rfl) (by first | exact Or.inl rfl | exact Or.inr (Or.inl rfl) | exact Or.inr (Or.inr rfl)))))
    (pss_consm (ps_ifm (pt_cmp (om_neG hr.u65) (pm_var (i := 4)) (pm_lst (pa_consm (pm_bin (om_binO (.cons (boOk T.ca_Row T.bo_Row_add (cm_fnG (ok_Row_add T) (hr.mono (by decide)) hg)) .nil) om_add) (pm_str (by decide +kernel)) (pm_callB (cm_reprD hg hr.units) (by rfl) T.n_repr (by decide +kernel) (pa_consm (pm_var (i := 5)) pa_nilm))) (pa_consm (pm_bin (om_binO (.cons (boOk T.ca_Row T.bo_Row_add (cm_fnG (ok_Row_add T) (hr.mono (by decide)) hg)) .nil) om_add) (pm_str (by decide +kernel)) (pm_callB (cm_reprD hg hr.units) (by rfl) T.n_repr (by decide +kernel) (pa_consm (pm_var (i := 6)) pa_nilm))) pa_nilm))) (nomark _)) (pss_onem (ps_retm pm_bl)) pss_nilm)
    (pss_onem (ps_retm (pm_cmp (om_eqO T.ko.bt (.cons (eqOk T.ca_Row T.eq_Row (ok_Row_eq T) (hr.mono (by decide)) hg) .nil) (om_eqG hr.u65)) (pm_word (k := 11) (Ng := ["_law_call", "e"]) T.xm (by rfl) T.g_Lword T.f_Lword sc_Lword (T.f_Lword.binds fun _ _ _ _ _ _ us hl => match us, hl with | [_], _ => rfl) (by rfl) (by decide +kernel) (.plain (by decide +kernel) (by rfl) (by decide) (T.g_InvalidRow.trans (congrArg some T.ca_InvalidRow.symm)) (.plain (by decide +kernel) (by rfl) (by decide) (T.g_InvalidOperation.trans (congrArg some T.ca_InvalidOperation.symm)) (.named (by decide +kernel) (by rfl) (by decide) (T.g_InvalidNumber.trans (congrArg some T.ca_InvalidNumber.symm)) (by rfl) (by rfl) (by decide) (by decide) (by rfl) T.n_repr (xf_of (l := [13]) (by decide) (fun t ht => by rcases List.mem_singleton.mp ht with rfl; exact ⟨_, T.ca_InvalidNumber, T.kx_InvalidNumber.xf, T.kx_InvalidNumber.nof⟩)) (.named (by decide +kernel) (by rfl) (by decide) (T.g_TooMany.trans (congrArg some T.ca_TooMany.symm)) (by rfl) (by rfl) (by decide) (by decide) (by rfl) T.n_repr (xf_of (l := [14]) (by decide) (fun t ht => by rcases List.mem_singleton.mp ht with rfl; exact ⟨_, T.ca_TooMany, T.kx_TooMany.xf, T.kx_TooMany.nof⟩)) .nil)))) T.tb_Lnumbers_right (by rfl) T.tq_Lnumbers_right T.tu_Lnumbers_right (hr.mono (by decide)) hg (LamX.lamS_by (sc := defScope s_Lnumbers_right) (by decide +kernel)) (by rfl) (fun _ _ _ _ _ => by rfl) (fun _ _ _ _ _ _ _ hr hg => (pm_methO (.cons (meOk T.ca_Row T.sc_Row.1 T.me_Row_shifted (cm_fnG (ok_Row_shifted T) (hr.mono (by decide)) hg)) .nil) (pm_var (i := 1)) (pa_consm (pm_var (i := 3)) pa_nilm))) (by rfl) (by first | exact Or.inl rfl | exact Or.inr (Or.inl rfl) | exact Or.inr (Or.inr rfl))) (pm_ifexp (pt_cmp (om_in hr.u65) (pm_var (i := 3)) (pm_tup (pa_consm pm_int (pa_consm pm_int (pa_consm (pm_un um_neg pm_int) pa_nilm)))) (by rfl)) (pm_str (by decide +kernel)) (pm_str (by decide +kernel))) (nomark _)))))))))))))))))
theorem sc_Row_quotient : FnScope ["self", "other", "found"] ["self", "other"] (defScope s_Row_quotient) := ⟨rfl, rfl, rfl, by decide +kernel, rfl, by decide +kernel, by decide +kernel⟩
def b_Row_quotient : MS := (sSeq (sExpr (mCall m_require_row (mCons (mVar 1) mNil)))
  (sSeq (sIf (mTst cEqG (mUn (atD [(15, .slot 0)]) (mVar 1)) mDct0) (sRaiseP 12) sSkip)
  (sSeq (sSet 2 (mIf (mTst cNeG (mUn (atD [(15, .slot 0)]) (mVar 0)) mDct0) (mCall m_quotient_terms (mCons (mUn (atD [(15, .slot 0)]) (mVar 0)) (mCons (mUn (atD [(15, .slot 0)]) (mVar 1)) mNil))) mDct0))
  (sSeq (sIf (mTst cIs (mVar 2) (mC .non)) (sRaiseP 12) sSkip)
  (sRet (mCallK n_Row_init_2_is_known (mCons (mVar 2) mNil) (mCons (mC (.bl true)) mNil)))))))
def m_Row_quotient : MF := mkF 3 2 b_Row_quotient
theorem ok_Row_quotient (T : TT P G mg base A) : FnG G P w mg base 12 A.a_Row_quotient m_Row_quotient :=
  fn_okG T.f_Row_quotient sc_Row_quotient rfl rfl (T.f_Row_quotient.binds fun _ _ _ _ _ _ us hl => match us, hl with | [_, _], _ => rfl) fun cdv Ar outer s H E hr hg =>
    (pss_consm (ps_exprm (pm_call (cm_fnG (ok_require_row T) (hr.mono (by decide)) hg) (by rfl) T.g_require_row T.f_require_row.kp (pa_consm (pm_var (i := 1)) pa_nilm)))
    (pss_consm (ps_ifm (pt_cmp (om_eqG hr.u65) (pm_at (.cons (atSl T.ca_Row T.sc_Row.1 T.s1_Row_own_terms) .nil) (pm_var (i := 1))) pm_dct0 (nomark _)) (pss_onem (ps_raiseP rfl T.ca_InvalidOperation T.kp_InvalidOperation (by rfl) T.g_InvalidOperation)) pss_nilm)
    (pss_consm (ps_setm (i := 2) sc_Row_quotient.nd (pm_ifexp (pt_cmp (om_neG hr.u65) (pm_at (.cons (atSl T.ca_Row T.sc_Row.1 T.s1_Row_own_terms) .nil) (pm_var (i := 0))) pm_dct0 (nomark _)) (pm_call (cm_fnG (ok_quotient_terms T) (hr.mono (by decide)) hg) (by rfl) T.g_quotient_terms T.f_quotient_terms.kp (pa_consm (pm_at (.cons (atSl T.ca_Row T.sc_Row.1 T.s1_Row_own_terms) .nil) (pm_var (i := 0))) (pa_consm (pm_at (.cons (atSl T.ca_Row T.sc_Row.1 T.s1_Row_own_terms) .nil) (pm_var (i := 1))) pa_nilm))) pm_dct0))
    (pss_consm (ps_ifm (pt_cmp om_is (pm_var (i := 2)) pm_non (nomark _)) (pss_onem (ps_raiseP rfl T.ca_InvalidOperation T.kp_InvalidOperation (by rfl) T.g_InvalidOperation)) pss_nilm)
    (pss_onem (ps_retm (pm_callK (cm_make T.ca_Row T.mk_Row (ok_Row_init T) (B_Row_init_2_is_known T) (hr.mono (by decide)) hg) (by rfl) T.g_Row T.mk_Row.kp (pa_consm (pm_var (i := 2)) pa_nilm) (pk_consm pm_bl pk_nilm))))))))
theorem sc_Row_low : FnScope ["self"] ["self"] (defScope s_Row_low) := ⟨rfl, rfl, rfl, by decide +kernel, rfl, by decide +kernel, by decide +kernel⟩
def b_Row_low : MS := (sRet (mCallK fMinD (mCons (mUn (atD [(15, .slot 0)]) (mVar 0)) mNil) (mCons (mC .non) mNil)))
def m_Row_low : MF := mkF 1 1 b_Row_low
theorem ok_Row_low (T : TT P G mg base A) : FnG G P w mg base 1 A.a_Row_low m_Row_low :=
  fn_okG T.f_Row_low sc_Row_low rfl rfl (T.f_Row_low.binds fun _ _ _ _ _ _ us hl => match us, hl with | [_], _ => rfl) fun cdv Ar outer s H E hr hg =>
    (pss_onem (ps_retm (pm_minD rfl (pm_at (.cons (atSl T.ca_Row T.sc_Row.1 T.s1_Row_own_terms) .nil) (pm_var (i := 0))) pm_non (by rfl) T.n_min)))
theorem sc_Lrest_right : FnScope ["_law_dice_here", "_law_row", "_law_odd", "_law_told", "_law_great", "_law_due"] ["_law_dice_here", "_law_row"] (defScope s_Lrest_right) := ⟨rfl, rfl, rfl, by decide +kernel, rfl, by decide +kernel, by decide +kernel⟩
def b_Lrest_right : MS := (sSeq (sSet 2 (mCall m_Lpick (mCons (mVar 0) (mCons (mLst (mCons (mC .non) (mCons (mC (.int 0)) (mCons (mC (.int 1)) (mCons (mC (.str [120])) (mCons (mTup mNil) (mCons (mDisp [((mC (.int 0)), (mC (.int 1)))]) (mCons (mLst (mCons (mVar 1) mNil)) mNil)))))))) mNil))))
  (sSeq (sSet 3 (mLst (mCons (mWord kix [⟨11, none, [114, 111, 119]⟩, ⟨12, none, [111, 112, 101, 114, 97, 116, 105, 111, 110]⟩, ⟨13, some "value", [110, 117, 109, 98, 101, 114, 32]⟩, ⟨14, some "limit", [109, 97, 110, 121, 32]⟩] [102, 105, 110, 101] (mMethO [(15, m_Row_quotient)] (mVar 1) (mCons (mVar 2) mNil))) mNil)))
  (sSeq (sExpr (mMeth isLst fAppend (mVar 3) (mCons (mWord kix [⟨11, none, [114, 111, 119]⟩, ⟨12, none, [111, 112, 101, 114, 97, 116, 105, 111, 110]⟩, ⟨13, some "value", [110, 117, 109, 98, 101, 114, 32]⟩, ⟨14, some "limit", [109, 97, 110, 121, 32]⟩] [102, 105, 110, 101] (mMethO [(15, m_Row_quotient)] (mVar 1) (mCons (mCmeth 15 (mkK 1 0 g_Row_none_1 m_Row_none) mNil) mNil))) mNil)))
  (sSeq (sExpr (mMeth isLst fAppend (mVar 3) (mCons (mWord kix [⟨11, none, [114, 111, 119]⟩, ⟨12, none, [111, 112, 101, 114, 97, 116, 105, 111, 110]⟩, ⟨13, some "value", [110, 117, 109, 98, 101, 114, 32]⟩, ⟨14, some "limit", [109, 97, 110, 121, 32]⟩] [102, 105, 110, 101] (mMethO [(15, m_Row_raised)] (mVar 1) (mCons (mUn (unO [(15, m_Row_neg)] uNeg) (mCall m_Lpick (mCons (mVar 0) (mCons (mLst (mCons (mC (.int 1)) (mCons (mC (.int 2)) (mCons (mC (.int 100)) mNil)))) mNil)))) mNil))) mNil)))
  (sSeq (sExpr (mMeth isLst fAppend (mVar 3) (mCons (mWord kix [⟨11, none, [114, 111, 119]⟩, ⟨12, none, [111, 112, 101, 114, 97, 116, 105, 111, 110]⟩, ⟨13, some "value", [110, 117, 109, 98, 101, 114, 32]⟩, ⟨14, some "limit", [109, 97, 110, 121, 32]⟩] [102, 105, 110, 101] (mMethO [(15, m_Row_raised)] (mCmeth 15 (mkK 1 0 g_Row_none_1 m_Row_none) mNil) (mCons (mUn uNeg (mC (.int 1))) mNil))) mNil)))
  (sSeq (sExpr (mMeth isLst fAppend (mVar 3) (mCons (mWord kix [⟨11, none, [114, 111, 119]⟩, ⟨12, none, [111, 112, 101, 114, 97, 116, 105, 111, 110]⟩, ⟨13, some "value", [110, 117, 109, 98, 101, 114, 32]⟩, ⟨14, some "limit", [109, 97, 110, 121, 32]⟩] [102, 105, 110, 101] (mMethO [(15, m_Row_raised)] (mCmethK 15 (mkK 2 1 g_Row_power_2_many m_Row_power) (mCons (mC (.int 2)) mNil) (mCons (mC (.int 2)) mNil)) (mCons (mUn uNeg (mC (.int 1))) mNil))) mNil)))
  (sSeq (sSet 4 (mCmeth 15 (mkK 2 0 g_Row_power_2 m_Row_power) (mCons (mCall m_Lpick (mCons (mVar 0) (mCons (mLst (mCons (mC (.int 5000)) (mCons (mUn uNeg (mC (.int 5000))) mNil))) mNil))) mNil)))
  (sSeq (sExpr (mMeth isLst fAppend (mVar 3) (mCons (mWord kix [⟨11, none, [114, 111, 119]⟩, ⟨12, none, [111, 112, 101, 114, 97, 116, 105, 111, 110]⟩, ⟨13, some "value", [110, 117, 109, 98, 101, 114, 32]⟩, ⟨14, some "limit", [109, 97, 110, 121, 32]⟩] [102, 105, 110, 101] (mBin (binO [(15, m_Row_mul)] bMul) (mVar 4) (mVar 4))) mNil)))
  (sSeq (sExpr (mMeth isLst fAppend (mVar 3) (mCons (mWord kix [⟨11, none, [114, 111, 119]⟩, ⟨12, none, [111, 112, 101, 114, 97, 116, 105, 111, 110]⟩, ⟨13, some "value", [110, 117, 109, 98, 101, 114, 32]⟩, ⟨14, some "limit", [109, 97, 110, 121, 32]⟩] [102, 105, 110, 101] (mBin (binO [(15, m_Row_mul)] bMul) (mBin (binO [(15, m_Row_mul)] bMul) (mVar 4) (mVar 4)) (mCmeth 15 (mkK 2 0 g_Row_power_2 m_Row_power) (mCons (mIf (mTst cGt (mUn (atD [(15, .prop m_Row_low)]) (mVar 4)) (mC (.int 0))) (mC (.int 1)) (mUn uNeg (mC (.int 1)))) mNil)))) mNil)))
  (sSeq (sExpr (mMeth isLst fAppend (mVar 3) (mCons (mWord kix [⟨11, none, [114, 111, 119]⟩, ⟨12, none, [111, 112, 101, 114, 97, 116, 105, 111, 110]⟩, ⟨13, some "value", [110, 117, 109, 98, 101, 114, 32]⟩, ⟨14, some "limit", [109, 97, 110, 121, 32]⟩] [102, 105, 110, 101] (mMethO [(15, m_Row_raised)] (mVar 4) (mCons (mC (.int 3)) mNil))) mNil)))
  (sSeq (sExpr (mMeth isLst fAppend (mVar 3) (mCons (mWord kix [⟨11, none, [114, 111, 119]⟩, ⟨12, none, [111, 112, 101, 114, 97, 116, 105, 111, 110]⟩, ⟨13, some "value", [110, 117, 109, 98, 101, 114, 32]⟩, ⟨14, some "limit", [109, 97, 110, 121, 32]⟩] [102, 105, 110, 101] (mMethO [(15, m_Row_spread)] (mVar 4) (mCons (mCall m_Lpick (mCons (mVar 0) (mCons (mLst (mCons (mC (.int 3)) (mCons (mUn uNeg (mC (.int 3))) mNil))) mNil))) mNil))) mNil)))
  (sSeq (sExpr (mMeth isLst fAppend (mVar 3) (mCons (mWord kix [⟨11, none, [114, 111, 119]⟩, ⟨12, none, [111, 112, 101, 114, 97, 116, 105, 111, 110]⟩, ⟨13, some "value", [110, 117, 109, 98, 101, 114, 32]⟩, ⟨14, some "limit", [109, 97, 110, 121, 32]⟩] [102, 105, 110, 101] (mMethO [(15, m_Row_shifted)] (mCmeth 15 (mkK 1 0 g_Row_none_1 m_Row_none) mNil) (mCons (mBin bPow (mC (.int 10)) (mC (.int 50))) mNil))) mNil)))
  (sSeq (sExpr (mMeth isLst fAppend (mVar 3) (mCons (mWord kix [⟨11, none, [114, 111, 119]⟩, ⟨12, none, [111, 112, 101, 114, 97, 116, 105, 111, 110]⟩, ⟨13, some "value", [110, 117, 109, 98, 101, 114, 32]⟩, ⟨14, some "limit", [109, 97, 110, 121, 32]⟩] [102, 105, 110, 101] (mMethO [(15, m_Row_quotient)] (mCmeth 15 (mkK 2 0 g_Row_power_2 m_Row_power) (mCons (mUn uNeg (mC (.int 10000))) mNil)) (mCons (mCmeth 15 (mkK 2 0 g_Row_power_2 m_Row_power) (mCons (mC (.int 1)) mNil)) mNil))) mNil)))
  (sSeq (sSet 5 (mLst (mCons (mC (.str [114, 111, 119])) (mCons (mC (.str [111, 112, 101, 114, 97, 116, 105, 111, 110])) (mCons (mC (.str [111, 112, 101, 114, 97, 116, 105, 111, 110])) (mCons (mC (.str [111, 112, 101, 114, 97, 116, 105, 111, 110])) (mCons (mC (.str [111, 112, 101, 114, 97, 116, 105, 111, 110])) (mCons (mC (.str [102, 105, 110, 101])) (mCons (mC (.str [109, 97, 110, 121, 32, 49, 48, 48, 48, 48])) (mCons (mC (.str [109, 97, 110, 121, 32, 49, 48, 48, 48, 48])) (mCons (mC (.str [109, 97, 110, 121, 32, 49, 48, 48, 48, 48])) (mCons (mC (.str [102, 105, 110, 101])) mNil))))))))))))
  (sRet (mBin (eqO [(15, m_Row_eq)] eqts cEqG) (mVar 3) (mBin (binO [(15, m_Row_add)] bAdd) (mVar 5) (mLst (mCons (mC (.str [109, 97, 110, 121, 32, 49, 48, 48, 48, 48])) mNil)))))))))))))))))))
def m_Lrest_right : MF := mkF 6 2 b_Lrest_right
theorem ok_Lrest_right (T : TT P G mg base A) : FnG G P w mg base 16 A.a_Lrest_right m_Lrest_right :=
  fn_okC T.f_Lrest_right sc_Lrest_right rfl rfl (T.f_Lrest_right.binds fun _ _ _ _ _ _ us hl => match us, hl with | [_, _], _ => rfl) T.cd_Lrest_right fun Ar outer s H E hr hg =>
    (pss_consm (ps_setm (i := 2) sc_Lrest_right.nd (pm_call (cm_fnG (ok_Lpick T) (hr.mono (by decide)) hg) (by rfl) T.g_Lpick T.f_Lpick.kp (pa_consm (pm_var (i := 0)) (pa_consm (pm_lst (pa_consm pm_non (pa_consm pm_int (pa_consm pm_int (pa_consm (pm_str (by decide +kernel)) (pa_consm (pm_tup pa_nilm) (pa_consm (pm_disp (.cons pm_int pm_int .nil)) (pa_consm (pm_lst (pa_consm (pm_var (i := 1)) pa_nilm)) pa_nilm)))))))) pa_nilm))))
    (pss_consm (ps_setm (i := 3) sc_Lrest_right.nd (pm_lst (pa_consm (pm_word (k := 12) (Ng := ["_law_call", "e"]) T.xm (by rfl) T.g_Lword T.f_Lword sc_Lword (T.f_Lword.binds fun _ _ _ _ _ _ us hl => match us, hl with | [_], _ => rfl) (by rfl) (by decide +kernel) (.plain (by decide +kernel) (by rfl) (by decide) (T.g_InvalidRow.trans (congrArg some T.ca_InvalidRow.symm)) (.plain (by decide +kernel) (by rfl) (by decide) (T.g_InvalidOperation.trans (congrArg some T.ca_InvalidOperation.symm)) (.named (by decide +kernel) (by rfl) (by decide) (T.g_InvalidNumber.trans (congrArg some T.ca_InvalidNumber.symm)) (by rfl) (by rfl) (by decide) (by decide) (by rfl) T.n_repr (xf_of (l := [13]) (by decide) (fun t ht => by rcases List.mem_singleton.mp ht with rfl; exact ⟨_, T.ca_InvalidNumber, T.kx_InvalidNumber.xf, T.kx_InvalidNumber.nof⟩)) (.named (by decide +kernel) (by rfl) (by decide) (T.g_TooMany.trans (congrArg some T.ca_TooMany.symm)) (by rfl) (by rfl) (by decide) (by decide) (by rfl) T.n_repr (xf_of (l := [14]) (by decide) (fun t ht => by rcases List.mem_singleton.mp ht with rfl; exact ⟨_, T.ca_TooMany, T.kx_TooMany.xf, T.kx_TooMany.nof⟩)) .nil)))) T.tb_Lrest_right (by rfl) T.tq_Lrest_right T.tu_Lrest_right (hr.mono (by decide)) hg (LamX.lamS_by (sc := defScope s_Lrest_right) (by decide +kernel)) (by rfl) (fun _ _ _ _ _ => by rfl) (fun _ _ _ _ _ _ _ hr hg => (pm_methO (.cons (meOk T.ca_Row T.sc_Row.1 T.me_Row_quotient (cm_fnG (ok_Row_quotient T) (hr.mono (by decide)) hg)) .nil) (pm_var (i := 1)) (pa_consm (pm_var (i := 2)) pa_nilm))) (by rfl) (by first | exact Or.inl rfl | exact Or.inr (Or.inl rfl) | exact Or.inr (Or.inr rfl))) pa_nilm)))
    (pss_consm (ps_exprm (pm_append (pm_var (i := 3)) (pm_word (k := 12) (Ng := ["_law_call", "e"]) T.xm (by rfl) T.g_Lword T.f_Lword sc_Lword (T.f_Lword.binds fun _ _ _ _ _ _ us hl => match us, hl with | [_], _ => rfl) (by rfl) (by decide +kernel) (.plain (by decide +kernel) (by rfl) (by decide) (T.g_InvalidRow.trans (congrArg some T.ca_InvalidRow.symm)) (.plain (by decide +kernel) (by rfl) (by decide) (T.g_InvalidOperation.trans (congrArg some T.ca_InvalidOperation.symm)) (.named (by decide +kernel) (by rfl) (by decide) (T.g_InvalidNumber.trans (congrArg some T.ca_InvalidNumber.symm)) (by rfl) (by rfl) (by decide) (by decide) (by rfl) T.n_repr (xf_of (l := [13]) (by decide) (fun t ht => by rcases List.mem_singleton.mp ht with rfl; exact ⟨_, T.ca_InvalidNumber, T.kx_InvalidNumber.xf, T.kx_InvalidNumber.nof⟩)) (.named (by decide +kernel) (by rfl) (by decide) (T.g_TooMany.trans (congrArg some T.ca_TooMany.symm)) (by rfl) (by rfl) (by decide) (by decide) (by rfl) T.n_repr (xf_of (l := [14]) (by decide) (fun t ht => by rcases List.mem_singleton.mp ht with rfl; exact ⟨_, T.ca_TooMany, T.kx_TooMany.xf, T.kx_TooMany.nof⟩)) .nil)))) T.tb_Lrest_right (by rfl) T.tq_Lrest_right T.tu_Lrest_right (hr.mono (by decide)) hg (LamX.lamS_by (sc := defScope s_Lrest_right) (by decide +kernel)) (by rfl) (fun _ _ _ _ _ => by rfl) (fun _ _ _ _ _ _ _ hr hg => (pm_methO (.cons (meOk T.ca_Row T.sc_Row.1 T.me_Row_quotient (cm_fnG (ok_Row_quotient T) (hr.mono (by decide)) hg)) .nil) (pm_var (i := 1)) (pa_consm (pm_cmeth0 T.ca_Row (by rfl) T.g_Row T.cm_Row_none (ok_Row_none T) (B_Row_none_1 T) (hr.mono (by decide)) hg) pa_nilm))) (by rfl) (by first | exact Or.inl rfl | exact Or.inr (Or.inl rfl) | exact Or.inr (Or.inr rfl)))))
    (pss_consm (ps_exprm (pm_append (pm_var (i := 3)) (pm_word (k := 13) (Ng := ["_law_call", "e"]) T.xm (by rfl) T.g_Lword T.f_Lword sc_Lword (T.f_Lword.binds fun _ _ _ _ _ _ us hl => match us, hl with | [_], _ => rfl) (by rfl) (by decide +kernel) (.plain (by decide +kernel) (by rfl) (by decide) (T.g_InvalidRow.trans (congrArg some T.ca_InvalidRow.symm)) (.plain (by decide +kernel) (by rfl) (by decide) (T.g_InvalidOperation.trans (congrArg some T.ca_InvalidOperation.symm)) (.named (by decide +kernel) (by rfl) (by decide) (T.g_InvalidNumber.trans (congrArg some T.ca_InvalidNumber.symm)) (by rfl) (by rfl) (by decide) (by decide) (by rfl) T.n_repr (xf_of (l := [13]) (by decide) (fun t ht => by rcases List.mem_singleton.mp ht with rfl; exact ⟨_, T.ca_InvalidNumber, T.kx_InvalidNumber.xf, T.kx_InvalidNumber.nof⟩)) (.named (by decide +kernel) (by rfl) (by decide) (T.g_TooMany.trans (congrArg some T.ca_TooMany.symm)) (by rfl) (by rfl) (by decide) (by decide) (by rfl) T.n_repr (xf_of (l := [14]) (by decide) (fun t ht => by rcases List.mem_singleton.mp ht with rfl; exact ⟨_, T.ca_TooMany, T.kx_TooMany.xf, T.kx_TooMany.nof⟩)) .nil)))) T.tb_Lrest_right (by rfl) T.tq_Lrest_right T.tu_Lrest_right (hr.mono (by decide)) hg (LamX.lamS_by (sc := defScope s_Lrest_right) (by decide +kernel)) (by rfl) (fun _ _ _ _ _ => by rfl) (fun _ _ _ _ _ _ _ hr hg => (pm_methO (.cons (meOk T.ca_Row T.sc_Row.1 T.me_Row_raised (cm_fnG (ok_Row_raised T) (hr.mono (by decide)) hg)) .nil) (pm_var (i := 1)) (pa_consm (pm_un (um_negO (.cons (ngOk T.ca_Row T.me_Row_neg (cm_fnG (ok_Row_neg T) (hr.mono (by decide)) hg)) .nil) um_neg) (pm_call (cm_fnG (ok_Lpick T) (hr.mono (by decide)) hg) (by rfl) T.g_Lpick T.f_Lpick.kp (pa_consm (pm_var (i := 0)) (pa_consm (pm_lst (pa_consm pm_int (pa_consm pm_int (pa_consm pm_int pa_nilm)))) pa_nilm)))) pa_nilm))) (by rfl) (by first | exact Or.inl rfl | exact Or.inr (Or.inl rfl) | exact Or.inr (Or.inr rfl)))))
    (pss_consm (ps_exprm (pm_append (pm_var (i := 3)) (pm_word (k := 13) (Ng := ["_law_call", "e"]) T.xm (by rfl) T.g_Lword T.f_Lword sc_Lword (T.f_Lword.binds fun _ _ _ _ _ _ us hl => match us, hl with | [_], _ => rfl) (by rfl) (by decide +kernel) (.plain (by decide +kernel) (by rfl) (by decide) (T.g_InvalidRow.trans (congrArg some T.ca_InvalidRow.symm)) (.plain (by decide +kernel) (by rfl) (by decide) (T.g_InvalidOperation.trans (congrArg some T.ca_InvalidOperation.symm)) (.named (by decide +kernel) (by rfl) (by decide) (T.g_InvalidNumber.trans (congrArg some T.ca_InvalidNumber.symm)) (by rfl) (by rfl) (by decide) (by decide) (by rfl) T.n_repr (xf_of (l := [13]) (by decide) (fun t ht => by rcases List.mem_singleton.mp ht with rfl; exact ⟨_, T.ca_InvalidNumber, T.kx_InvalidNumber.xf, T.kx_InvalidNumber.nof⟩)) (.named (by decide +kernel) (by rfl) (by decide) (T.g_TooMany.trans (congrArg some T.ca_TooMany.symm)) (by rfl) (by rfl) (by decide) (by decide) (by rfl) T.n_repr (xf_of (l := [14]) (by decide) (fun t ht => by rcases List.mem_singleton.mp ht with rfl; exact ⟨_, T.ca_TooMany, T.kx_TooMany.xf, T.kx_TooMany.nof⟩)) .nil)))) T.tb_Lrest_right (by rfl) T.tq_Lrest_right T.tu_Lrest_right (hr.mono (by decide)) hg (LamX.lamS_by (sc := defScope s_Lrest_right) (by decide +kernel)) (by rfl) (fun _ _ _ _ _ => by rfl) (fun _ _ _ _ _ _ _ hr hg => (pm_methO (.cons (meOk T.ca_Row T.sc_Row.1 T.me_Row_raised (cm_fnG (ok_Row_raised T) (hr.mono (by decide)) hg)) .nil) (pm_cmeth0 T.ca_Row (by rfl) T.g_Row T.cm_Row_none (ok_Row_none T) (B_Row_none_1 T) (hr.mono (by decide)) hg) (pa_consm (pm_un um_neg pm_int) pa_nilm))) (by rfl) (by first | exact Or.inl rfl | exact Or.inr (Or.inl rfl) | exact Or.inr (Or.inr rfl)))))
    (pss_consm (ps_exprm (pm_append (pm_var (i := 3)) (pm_word (k := 13) (Ng := ["_law_call", "e"]) T.xm (by rfl) T.g_Lword T.f_Lword sc_Lword (T.f_Lword.binds fun _ _ _ _ _ _ us hl => match us, hl with | [_], _ => rfl) (by rfl) (by decide +kernel) (.plain (by decide +kernel) (by rfl) (by decide) (T.g_InvalidRow.trans (congrArg some T.ca_InvalidRow.symm)) (.plain (by decide +kernel) (by rfl) (by decide) (T.g_InvalidOperation.trans (congrArg some T.ca_InvalidOperation.symm)) (.named (by decide +kernel) (by rfl) (by decide) (T.g_InvalidNumber.trans (congrArg some T.ca_InvalidNumber.symm)) (by rfl) (by rfl) (by decide) (by decide) (by rfl) T.n_repr (xf_of (l := [13]) (by decide) (fun t ht => by rcases List.mem_singleton.mp ht with rfl; exact ⟨_, T.ca_InvalidNumber, T.kx_InvalidNumber.xf, T.kx_InvalidNumber.nof⟩)) (.named (by decide +kernel) (by rfl) (by decide) (T.g_TooMany.trans (congrArg some T.ca_TooMany.symm)) (by rfl) (by rfl) (by decide) (by decide) (by rfl) T.n_repr (xf_of (l := [14]) (by decide) (fun t ht => by rcases List.mem_singleton.mp ht with rfl; exact ⟨_, T.ca_TooMany, T.kx_TooMany.xf, T.kx_TooMany.nof⟩)) .nil)))) T.tb_Lrest_right (by rfl) T.tq_Lrest_right T.tu_Lrest_right (hr.mono (by decide)) hg (LamX.lamS_by (sc := defScope s_Lrest_right) (by decide +kernel)) (by rfl) (fun _ _ _ _ _ => by rfl) (fun _ _ _ _ _ _ _ hr hg => (pm_methO (.cons (meOk T.ca_Row T.sc_Row.1 T.me_Row_raised (cm_fnG (ok_Row_raised T) (hr.mono (by decide)) hg)) .nil) (pm_cmethK (ks := ["many"]) T.ca_Row (by rfl) T.g_Row T.cm_Row_power (ok_Row_power T) (B_Row_power_2_many T) (hr.mono (by decide)) hg (pa_consm pm_int pa_nilm) (pk_consm pm_int pk_nilm)) (pa_consm (pm_un um_neg pm_int) pa_nilm))) (by rfl) (by first | exact Or.inl rfl | exact Or.inr (Or.inl rfl) | exact Or.inr (Or.inr rfl)))))
    (pss_consm (ps_setm (i := 4) sc_Lrest_right.nd (pm_cmeth T.ca_Row (by rfl) T.g_Row T.cm_Row_power (ok_Row_power T) (B_Row_power_2 T) (hr.mono (by decide)) hg (pa_consm (pm_call (cm_fnG (ok_Lpick T) (hr.mono (by decide)) hg) (by rfl) T.g_Lpick T.f_Lpick.kp (pa_consm (pm_var (i := 0)) (pa_consm (pm_lst (pa_consm pm_int (pa_consm (pm_un um_neg pm_int) pa_nilm))) pa_nilm))) pa_nilm)))
    (pss_consm (ps_exprm (pm_append (pm_var (i := 3)) (pm_word (k := 8) (Ng := ["_law_call", "e"]) T.xm (by rfl) T.g_Lword T.f_Lword sc_Lword (T.f_Lword.binds fun _ _ _ _ _ _ us hl => match us, hl with | [_], _ => rfl) (by rfl) (by decide +kernel) (.plain (by decide +kernel) (by rfl) (by decide) (T.g_InvalidRow.trans (congrArg some T.ca_InvalidRow.symm)) (.plain (by decide +kernel) (by rfl) (by decide) (T.g_InvalidOperation.trans (congrArg some T.ca_InvalidOperation.symm)) (.named (by decide +kernel) (by rfl) (by decide) (T.g_InvalidNumber.trans (congrArg some T.ca_InvalidNumber.symm)) (by rfl) (by rfl) (by decide) (by decide) (by rfl) T.n_repr (xf_of (l := [13]) (by decide) (fun t ht => by rcases List.mem_singleton.mp ht with rfl; exact ⟨_, T.ca_InvalidNumber, T.kx_InvalidNumber.xf, T.kx_InvalidNumber.nof⟩)) (.named (by decide +kernel) (by rfl) (by decide) (T.g_TooMany.trans (congrArg some T.ca_TooMany.symm)) (by rfl) (by rfl) (by decide) (by decide) (by rfl) T.n_repr (xf_of (l := [14]) (by decide) (fun t ht => by rcases List.mem_singleton.mp ht with rfl; exact ⟨_, T.ca_TooMany, T.kx_TooMany.xf, T.kx_TooMany.nof⟩)) .nil)))) T.tb_Lrest_right (by rfl) T.tq_Lrest_right T.tu_Lrest_right (hr.mono (by decide)) hg (LamX.lamS_by (sc := defScope s_Lrest_right) (by decide +kernel)) (by rfl) (fun _ _ _ _ _ => by rfl) (fun _ _ _ _ _ _ _ hr hg => (pm_bin (om_binO (.cons (boOk T.ca_Row T.bo_Row_mul (cm_fnG (ok_Row_mul T) (hr.mono (by decide)) hg)) .nil) om_mul) (pm_var (i := 4)) (pm_var (i := 4)))) (by rfl) (by first | exact Or.inl rfl | exact Or.inr (Or.inl rfl) | exact Or.inr (Or.inr rfl)))))
    (pss_consm (ps_exprm (pm_append (pm_var (i := 3)) (pm_word (k := 8) (Ng := ["_law_call", "e"]) T.xm (by rfl) T.g_Lword T.f_Lword sc_Lword (T.f_Lword.binds fun _ _ _ _ _ _ us hl => match us, hl with | [_], _ => rfl) (by rfl) (by decide +kernel) (.plain (by decide +kernel) (by rfl) (by decide) (T.g_InvalidRow.trans (congrArg some T.ca_InvalidRow.symm)) (.plain (by decide +kernel) (by rfl) (by decide) (T.g_InvalidOperation.trans (congrArg some T.ca_InvalidOperation.symm)) (.named (by decide +kernel) (by rfl) (by decide) (T.g_InvalidNumber.trans (congrArg some T.ca_InvalidNumber.symm)) (by rfl) (by rfl) (by decide) (by decide) (by rfl) T.n_repr (xf_of (l := [13]) (by decide) (fun t ht => by rcases List.mem_singleton.mp ht with rfl; exact ⟨_, T.ca_InvalidNumber, T.kx_InvalidNumber.xf, T.kx_InvalidNumber.nof⟩)) (.named (by decide +kernel) (by rfl) (by decide) (T.g_TooMany.trans (congrArg some T.ca_TooMany.symm)) (by rfl) (by rfl) (by decide) (by decide) (by rfl) T.n_repr (xf_of (l := [14]) (by decide) (fun t ht => by rcases List.mem_singleton.mp ht with rfl; exact ⟨_, T.ca_TooMany, T.kx_TooMany.xf, T.kx_TooMany.nof⟩)) .nil)))) T.tb_Lrest_right (by rfl) T.tq_Lrest_right T.tu_Lrest_right (hr.mono (by decide)) hg (LamX.lamS_by (sc := defScope s_Lrest_right) (by decide +kernel)) (by rfl) (fun _ _ _ _ _ => by rfl) (fun _ _ _ _ _ _ _ hr hg => (pm_bin (om_binO (.cons (boOk T.ca_Row T.bo_Row_mul (cm_fnG (ok_Row_mul T) (hr.mono (by decide)) hg)) .nil) om_mul) (pm_bin (om_binO (.cons (boOk T.ca_Row T.bo_Row_mul (cm_fnG (ok_Row_mul T) (hr.mono (by decide)) hg)) .nil) om_mul) (pm_var (i := 4)) (pm_var (i := 4))) (pm_cmeth T.ca_Row (by rfl) T.g_Row T.cm_Row_power (ok_Row_power T) (B_Row_power_2 T) (hr.mono (by decide)) hg (pa_consm (pm_ifexp (pt_cmp om_gt (pm_at (.cons (atPr T.ca_Row T.sc_Row.1 T.pr_Row_low (ok_Row_low T) (hr.mono (by decide)) hg) .nil) (pm_var (i := 4))) pm_int (nomark _)) pm_int (pm_un um_neg pm_int)) pa_nilm)))) (by rfl) (by first | exact Or.inl rfl | exact Or.inr (Or.inl rfl) | exact Or.inr (Or.inr rfl)))))
    (pss_consm (ps_exprm (pm_append (pm_var (i := 3)) (pm_word (k := 13) (Ng := ["_law_call", "e"]) T.xm (by rfl) T.g_Lword T.f_Lword sc_Lword (T.f_Lword.binds fun _ _ _ _ _ _ us hl => match us, hl with | [_], _ => rfl) (by rfl) (by decide +kernel) (.plain (by decide +kernel) (by rfl) (by decide) (T.g_InvalidRow.trans (congrArg some T.ca_InvalidRow.symm)) (.plain (by decide +kernel) (by rfl) (by decide) (T.g_InvalidOperation.trans (congrArg some T.ca_InvalidOperation.symm)) (.named (by decide +kernel) (by rfl) (by decide) (T.g_InvalidNumber.trans (congrArg some T.ca_InvalidNumber.symm)) (by rfl) (by rfl) (by decide) (by decide) (by rfl) T.n_repr (xf_of (l := [13]) (by decide) (fun t ht => by rcases List.mem_singleton.mp ht with rfl; exact ⟨_, T.ca_InvalidNumber, T.kx_InvalidNumber.xf, T.kx_InvalidNumber.nof⟩)) (.named (by decide +kernel) (by rfl) (by decide) (T.g_TooMany.trans (congrArg some T.ca_TooMany.symm)) (by rfl) (by rfl) (by decide) (by decide) (by rfl) T.n_repr (xf_of (l := [14]) (by decide) (fun t ht => by rcases List.mem_singleton.mp ht with rfl; exact ⟨_, T.ca_TooMany, T.kx_TooMany.xf, T.kx_TooMany.nof⟩)) .nil)))) T.tb_Lrest_right (by rfl) T.tq_Lrest_right T.tu_Lrest_right (hr.mono (by decide)) hg (LamX.lamS_by (sc := defScope s_Lrest_right) (by decide +kernel)) (by rfl) (fun _ _ _ _ _ => by rfl) (fun _ _ _ _ _ _ _ hr hg => (pm_methO (.cons (meOk T.ca_Row T.sc_Row.1 T.me_Row_raised (cm_fnG (ok_Row_raised T) (hr.mono (by decide)) hg)) .nil) (pm_var (i := 4)) (pa_consm pm_int pa_nilm))) (by rfl) (by first | exact Or.inl rfl | exact Or.inr (Or.inl rfl) | exact Or.inr (Or.inr rfl)))))
    (pss_consm (ps_exprm (pm_append (pm_var (i := 3)) (pm_word (k := 9) (Ng := ["_law_call", "e"]) T.xm (by rfl) T.g_Lword T.f_Lword sc_Lword (T.f_Lword.binds fun _ _ _ _ _ _ us hl => match us, hl with | [_], _ => rfl) (by rfl) (by decide +kernel) (.plain (by decide +kernel) (by rfl) (by decide) (T.g_InvalidRow.trans (congrArg some T.ca_InvalidRow.symm)) (.plain (by decide +kernel) (by rfl) (by decide) (T.g_InvalidOperation.trans (congrArg some T.ca_InvalidOperation.symm)) (.named (by decide +kernel) (by rfl) (by decide) (T.g_InvalidNumber.trans (congrArg some T.ca_InvalidNumber.symm)) (by rfl) (by rfl) (by decide) (by decide) (by rfl) T.n_repr (xf_of (l := [13]) (by decide) (fun t ht => by rcases List.mem_singleton.mp ht with rfl; exact ⟨_, T.ca_InvalidNumber, T.kx_InvalidNumber.xf, T.kx_InvalidNumber.nof⟩)) (.named (by decide +kernel) (by rfl) (by decide) (T.g_TooMany.trans (congrArg some T.ca_TooMany.symm)) (by rfl) (by rfl) (by decide) (by decide) (by rfl) T.n_repr (xf_of (l := [14]) (by decide) (fun t ht => by rcases List.mem_singleton.mp ht with rfl; exact ⟨_, T.ca_TooMany, T.kx_TooMany.xf, T.kx_TooMany.nof⟩)) .nil)))) T.tb_Lrest_right (by rfl) T.tq_Lrest_right T.tu_Lrest_right (hr.mono (by decide)) hg (LamX.lamS_by (sc := defScope s_Lrest_right) (by decide +kernel)) (by rfl) (fun _ _ _ _ _ => by rfl) (fun _ _ _ _ _ _ _ hr hg => (pm_methO (.cons (meOk T.ca_Row T.sc_Row.1 T.me_Row_spread (cm_fnG (ok_Row_spread T) (hr.mono (by decide)) hg)) .nil) (pm_var (i := 4)) (pa_consm (pm_call (cm_fnG (ok_Lpick T) (hr.mono (by decide)) hg) (by rfl) T.g_Lpick T.f_Lpick.kp (pa_consm (pm_var (i := 0)) (pa_consm (pm_lst (pa_consm pm_int (pa_consm (pm_un um_neg pm_int) pa_nilm))) pa_nilm))) pa_nilm))) (by rfl) (by first | exact Or.inl rfl | exact Or.inr (Or.inl rfl) | exact Or.inr (Or.inr rfl)))))
    (pss_consm (ps_exprm (pm_append (pm_var (i := 3)) (pm_word (k := 11) (Ng := ["_law_call", "e"]) T.xm (by rfl) T.g_Lword T.f_Lword sc_Lword (T.f_Lword.binds fun _ _ _ _ _ _ us hl => match us, hl with | [_], _ => rfl) (by rfl) (by decide +kernel) (.plain (by decide +kernel) (by rfl) (by decide) (T.g_InvalidRow.trans (congrArg some T.ca_InvalidRow.symm)) (.plain (by decide +kernel) (by rfl) (by decide) (T.g_InvalidOperation.trans (congrArg some T.ca_InvalidOperation.symm)) (.named (by decide +kernel) (by rfl) (by decide) (T.g_InvalidNumber.trans (congrArg some T.ca_InvalidNumber.symm)) (by rfl) (by rfl) (by decide) (by decide) (by rfl) T.n_repr (xf_of (l := [13]) (by decide) (fun t ht => by rcases List.mem_singleton.mp ht with rfl; exact ⟨_, T.ca_InvalidNumber, T.kx_InvalidNumber.xf, T.kx_InvalidNumber.nof⟩)) (.named (by decide +kernel) (by rfl) (by decide) (T.g_TooMany.trans (congrArg some T.ca_TooMany.symm)) (by rfl) (by rfl) (by decide) (by decide) (by rfl) T.n_repr (xf_of (l := [14]) (by decide) (fun t ht => by rcases List.mem_singleton.mp ht with rfl; exact ⟨_, T.ca_TooMany, T.kx_TooMany.xf, T.kx_TooMany.nof⟩)) .nil)))) T.tb_Lrest_right (by rfl) T.tq_Lrest_right T.tu_Lrest_right (hr.mono (by decide)) hg (LamX.lamS_by (sc := defScope s_Lrest_right) (by decide +kernel)) (by rfl) (fun _ _ _ _ _ => by rfl) (fun _ _ _ _ _ _ _ hr hg => (pm_methO (.cons (meOk T.ca_Row T.sc_Row.1 T.me_Row_shifted (cm_fnG (ok_Row_shifted T) (hr.mono (by decide)) hg)) .nil) (pm_cmeth0 T.ca_Row (by rfl) T.g_Row T.cm_Row_none (ok_Row_none T) (B_Row_none_1 T) (hr.mono (by decide)) hg) (pa_consm (pm_bin om_pow pm_int pm_int) pa_nilm))) (by rfl) (by first | exact Or.inl rfl | exact Or.inr (Or.inl rfl) | exact Or.inr (Or.inr rfl)))))
    (pss_consm (ps_exprm (pm_append (pm_var (i := 3)) (pm_word (k := 12) (Ng := ["_law_call", "e"]) T.xm (by rfl) T.g_Lword T.f_Lword sc_Lword (T.f_Lword.binds fun _ _ _ _ _ _ us hl => match us, hl with | [_], _ => rfl) (by rfl) (by decide +kernel) (.plain (by decide +kernel) (by rfl) (by decide) (T.g_InvalidRow.trans (congrArg some T.ca_InvalidRow.symm)) (.plain (by decide +kernel) (by rfl) (by decide) (T.g_InvalidOperation.trans (congrArg some T.ca_InvalidOperation.symm)) (.named (by decide +kernel) (by rfl) (by decide) (T.g_InvalidNumber.trans (congrArg some T.ca_InvalidNumber.symm)) (by rfl) (by rfl) (by decide) (by decide) (by rfl) T.n_repr (xf_of (l := [13]) (by decide) (fun t ht => by rcases List.mem_singleton.mp ht with rfl; exact ⟨_, T.ca_InvalidNumber, T.kx_InvalidNumber.xf, T.kx_InvalidNumber.nof⟩)) (.named (by decide +kernel) (by rfl) (by decide) (T.g_TooMany.trans (congrArg some T.ca_TooMany.symm)) (by rfl) (by rfl) (by decide) (by decide) (by rfl) T.n_repr (xf_of (l := [14]) (by decide) (fun t ht => by rcases List.mem_singleton.mp ht with rfl; exact ⟨_, T.ca_TooMany, T.kx_TooMany.xf, T.kx_TooMany.nof⟩)) .nil)))) T.tb_Lrest_right (by rfl) T.tq_Lrest_right T.tu_Lrest_right (hr.mono (by decide)) hg (LamX.lamS_by (sc := defScope s_Lrest_right) (by decide +kernel)) (by rfl) (fun _ _ _ _ _ => by rfl) (fun _ _ _ _ _ _ _ hr hg => (pm_methO (.cons (meOk T.ca_Row T.sc_Row.1 T.me_Row_quotient (cm_fnG (ok_Row_quotient T) (hr.mono (by decide)) hg)) .nil) (pm_cmeth T.ca_Row (by rfl) T.g_Row T.cm_Row_power (ok_Row_power T) (B_Row_power_2 T) (hr.mono (by decide)) hg (pa_consm (pm_un um_neg pm_int) pa_nilm)) (pa_consm (pm_cmeth T.ca_Row (by rfl) T.g_Row T.cm_Row_power (ok_Row_power T) (B_Row_power_2 T) (hr.mono (by decide)) hg (pa_consm pm_int pa_nilm)) pa_nilm))) (by rfl) (by first | exact Or.inl rfl | exact Or.inr (Or.inl rfl) | exact Or.inr (Or.inr rfl)))))
    (pss_consm (ps_setm (i := 5) sc_Lrest_right.nd (pm_lst (pa_consm (pm_str (by decide +kernel)) (pa_consm (pm_str (by decide +kernel)) (pa_consm (pm_str (by decide +kernel)) (pa_consm (pm_str (by decide +kernel)) (pa_consm (pm_str (by decide +kernel)) (pa_consm (pm_str (by decide +kernel)) (pa_consm (pm_str (by decide +kernel)) (pa_consm (pm_str (by decide +kernel)) (pa_consm (pm_str (by decide +kernel)) (pa_consm (pm_str (by decide +kernel)) pa_nilm))))))))))))
    (pss_onem (ps_retm (pm_cmp (om_eqO T.ko.bt (.cons (eqOk T.ca_Row T.eq_Row (ok_Row_eq T) (hr.mono (by decide)) hg) .nil) (om_eqG hr.u65)) (pm_var (i := 3)) (pm_bin (om_binO (.cons (boOk T.ca_Row T.bo_Row_add (cm_fnG (ok_Row_add T) (hr.mono (by decide)) hg)) .nil) om_add) (pm_var (i := 5)) (pm_lst (pa_consm (pm_str (by decide +kernel)) pa_nilm))) (nomark _))))))))))))))))))
theorem sc_law : FnScope ["_law_script", "_law_row", "_law_spot", "_law_dice_here", "_law_turn"] ["_law_script"] (defScope s_law) := ⟨rfl, rfl, rfl, by decide +kernel, rfl, by decide +kernel, by decide +kernel⟩
def b_law : MS := (sSeq (sSet 1 (mCall (fun ds S => n_Row_init_2 ds [] S) (mCons (mDisp [((mUn uNeg (mC (.int 2))), (mC (.int 1))), ((mC (.int 0)), (mUn uNeg (mC (.int 3)))), ((mC (.int 4)), (mC (.int 2)))]) mNil)))
  (sSeq (sFor (mIts itRng1 (mCons (mCall fMax2 (mCons (mC (.int 1)) (mCons (mCall fMin2 (mCons (mC (.int 4)) (mCons (mCall (fLenO [(15, m_Row_len)]) (mCons (mVar 0) mNil)) mNil))) mNil))) mNil)) (.nm 2) (sSeq (sSet 3 (mCall mDice (mCons (mVar 0) (mCons (mVar 2) mNil))))
  (sFor (mIts itRng1 (mCons (mC (.int 4)) mNil)) (.nm 4) (sIf (tOrM (tNotM (mTru (mCall m_Lmade_right (mCons (mVar 3) mNil)))) (tOrM (tNotM (mTru (mCall m_Lnumbers_right (mCons (mVar 3) (mCons (mVar 1) mNil))))) (tNotM (mTru (mCall m_Lrest_right (mCons (mVar 3) (mCons (mVar 1) mNil))))))) (sRet (mC (.bl false))) sSkip))))
  (sRet (mAndT (mBin cEqG (mC (.int 10000)) (mC (.int 10000))) (mAndT (mBin (eqO [(15, m_Row_eq)] eqts cEqG) (mVar 1) (mCall (fun ds S => n_Row_init_2 ds [] S) (mCons (mDisp [((mUn uNeg (mC (.int 2))), (mC (.int 1))), ((mC (.int 0)), (mUn uNeg (mC (.int 3)))), ((mC (.int 4)), (mC (.int 2)))]) mNil))) (mBin (eqO [(15, m_Row_eq)] eqts cEqG) (mMethO [(15, m_Row_raised)] (mVar 1) (mCons (mC (.int 0)) mNil)) (mCmeth 15 (mkK 2 0 g_Row_power_2 m_Row_power) (mCons (mC (.int 0)) mNil))))))))
def m_law : MF := mkF 5 1 b_law
def b_law0 : MS := (sSet 1 (mCall (fun ds S => n_Row_init_2 ds [] S) (mCons (mDisp [((mUn uNeg (mC (.int 2))), (mC (.int 1))), ((mC (.int 0)), (mUn uNeg (mC (.int 3)))), ((mC (.int 4)), (mC (.int 2)))]) mNil)))
def a_law1 : MA := (mCons (mCall fMax2 (mCons (mC (.int 1)) (mCons (mCall fMin2 (mCons (mC (.int 4)) (mCons (mCall (fLenO [(15, m_Row_len)]) (mCons (mVar 0) mNil)) mNil))) mNil))) mNil)
def b_lawD : MS := (sSet 3 (mCall mDice (mCons (mVar 0) (mCons (mVar 2) mNil))))
def a_law2 : MA := (mCons (mC (.int 4)) mNil)
def t_law0 : MT := (tNotM (mTru (mCall m_Lmade_right (mCons (mVar 3) mNil))))
def t_law1 : MT := (tNotM (mTru (mCall m_Lnumbers_right (mCons (mVar 3) (mCons (mVar 1) mNil)))))
def t_law2 : MT := (tNotM (mTru (mCall m_Lrest_right (mCons (mVar 3) (mCons (mVar 1) mNil)))))
def b_law3 : MS := (sRet (mAndT (mBin cEqG (mC (.int 10000)) (mC (.int 10000))) (mAndT (mBin (eqO [(15, m_Row_eq)] eqts cEqG) (mVar 1) (mCall (fun ds S => n_Row_init_2 ds [] S) (mCons (mDisp [((mUn uNeg (mC (.int 2))), (mC (.int 1))), ((mC (.int 0)), (mUn uNeg (mC (.int 3)))), ((mC (.int 4)), (mC (.int 2)))]) mNil))) (mBin (eqO [(15, m_Row_eq)] eqts cEqG) (mMethO [(15, m_Row_raised)] (mVar 1) (mCons (mC (.int 0)) mNil)) (mCmeth 15 (mkK 2 0 g_Row_power_2 m_Row_power) (mCons (mC (.int 0)) mNil))))))
theorem menu_law (T : TT P G mg base A) (sdP sdQ : List Int → SD) (SP SQ : Sto) (B : Nat) (j2 : Int)
    (h0 : ∀ ns, AllS (b_law0 (some (.scr ns) :: List.replicate 4 none) ⟨0, []⟩) (fun sd1 S1 => Weak sd1 S1 (sdP ns) SP) fun _ _ => False)
    (h1 : ∀ ns : List Int, ∃ j : Int, a_law1 (sdP ns) SP = .ok [.int j] SP ∧ 0 ≤ j ∧ j ≤ B) (hB : B < 1000)
    (h2 : ∀ ns (k : Nat), k < B → AllS (b_lawD ((sdP ns).set 2 (some (.int k))) SP) (fun sd1 S1 => Weak sd1 S1 (sdQ ns) SQ) fun _ _ => False)
    (h3 : ∀ ns, a_law2 (sdQ ns) SQ = .ok [.int j2] SQ) (hj2 : 0 ≤ j2 ∧ j2 < 1000)
    (hw : ∀ ns (k : Nat), Weak ((sdQ ns).set 4 (some (.int k))) SQ (sdQ ns) SQ)
    (t0 : ∀ ns, AllR (t_law0 (sdQ ns) SQ) fun b S1 => b = false ∧ Weak (sdQ ns) S1 (sdQ ns) SQ)
    (t1 : ∀ ns, AllR (t_law1 (sdQ ns) SQ) fun b S1 => b = false ∧ Weak (sdQ ns) S1 (sdQ ns) SQ)
    (t2 : ∀ ns, AllR (t_law2 (sdQ ns) SQ) fun b S1 => b = false ∧ Weak (sdQ ns) S1 (sdQ ns) SQ)
    (h5 : ∀ ns, Weak (sdQ ns) SQ (sdP ns) SP)
    (h6 : ∀ ns, AllS (b_law3 (sdP ns) SP) (fun _ _ => False) fun d _ => d = .bl true) : FnT G P w mg base 17 63 A.a_law :=
  fn_top T.f_law sc_law rfl (T.f_law.binds fun _ _ _ _ _ _ us hl => match us, hl with | [_], _ => rfl) fun cdv A outer s H W ns hn hr hg ok => by
    obtain ⟨j, ej, j1, j3⟩ := h1 ns
    refine ⟨_, (pss_cons (topS (ps_setm (i := 1) sc_law.nd (pm_call (CallMK.pos (cm_make T.ca_Row T.mk_Row (ok_Row_init T) (B_Row_init_2 T) (hr.mono (by decide)) hg)) (by rfl) T.g_Row T.mk_Row.kp (pa_consm (pm_disp (.cons (pm_un um_neg pm_int) pm_int (.cons pm_int (pm_un um_neg pm_int) (.cons pm_int pm_int .nil)))) pa_nilm))) ok (h0 ns)) (pss_cons (topF (i := 2) (sd := sdP ns) (sd' := sdP ns) (S := SP) (S' := SP) (j := j) ok (by rfl) (by rfl) T.n_range (pa_consm (pm_callB (cm_max2 rfl) (by rfl) T.n_max (by decide +kernel) (pa_consm pm_int (pa_consm (pm_callB (cm_min2 rfl) (by rfl) T.n_min (by decide +kernel) (pa_consm pm_int (pa_consm (pm_callB (cm_lenO (.cons (loOk T.ca_Row T.me_Row_len (ok_Row_len T) (hr.mono (by decide)) hg) .nil)) (by rfl) T.n_len (by decide +kernel) (pa_consm (pm_var (i := 0)) pa_nilm)) pa_nilm))) pa_nilm))) pa_nilm) (pgn (i := 2) sc_law.nd)
      (pss_cons (topSx (sd := fun k => (sdP ns).set 2 (some (.int k))) (n := B) (S := SP) (sd' := sdQ ns) (S' := SQ) (ps_setm (i := 3) sc_law.nd (pm_call (cm_fnG (ok_Ldice T) (hr.mono (by decide)) hg) (by rfl) T.g_Ldice T.f_Ldice.kp (pa_consm (pm_var (i := 0)) (pa_consm (pm_var (i := 2)) pa_nilm)))) ok (h2 ns))
        (pss_one (topF (i := 4) (sd := sdQ ns) (sd' := sdQ ns) (S := SQ) (S' := SQ) (j := j2) ok (by rfl) (by rfl) T.n_range (pa_consm pm_int pa_nilm) (pgn (i := 4) sc_law.nd)
          (pss_one (topI (sd := sdQ ns) (S := SQ) (neverW (neverWc (never1 (pt_notm (pt_tru (pm_call (cm_fnG (ok_Lmade_right T) (hr.mono (by decide)) hg) (by rfl) T.g_Lmade_right T.f_Lmade_right.kp (pa_consm (pm_var (i := 3)) pa_nilm)))) ok (t0 ns)) (neverWc (never1 (pt_notm (pt_tru (pm_call (cm_fnG (ok_Lnumbers_right T) (hr.mono (by decide)) hg) (by rfl) T.g_Lnumbers_right T.f_Lnumbers_right.kp (pa_consm (pm_var (i := 3)) (pa_consm (pm_var (i := 1)) pa_nilm))))) ok (t1 ns)) (neverW1 (never1 (pt_notm (pt_tru (pm_call (cm_fnG (ok_Lrest_right T) (hr.mono (by decide)) hg) (by rfl) T.g_Lrest_right T.f_Lrest_right.kp (pa_consm (pm_var (i := 3)) (pa_consm (pm_var (i := 1)) pa_nilm))))) ok (t2 ns))))))))
          (h3 ns) (by omega) Weak.refl))) ej (by omega) Weak.refl)
      (topE (sd := sdP ns) (S := SP) (pss_onem (ps_retm (pm_andT (pm_cmp (om_eqG hr.u65) (pm_globE (T.c_MAX_POWER)) pm_int (nomark _)) (pm_andT (pm_cmp (om_eqO T.ko.bt (.cons (eqOk T.ca_Row T.eq_Row (ok_Row_eq T) (hr.mono (by decide)) hg) .nil) (om_eqG hr.u65)) (pm_var (i := 1)) (pm_call (CallMK.pos (cm_make T.ca_Row T.mk_Row (ok_Row_init T) (B_Row_init_2 T) (hr.mono (by decide)) hg)) (by rfl) T.g_Row T.mk_Row.kp (pa_consm (pm_disp (.cons (pm_un um_neg pm_int) pm_int (.cons pm_int (pm_un um_neg pm_int) (.cons pm_int pm_int .nil)))) pa_nilm)) (nomark _)) (pm_one (pm_cmp (om_eqO T.ko.bt (.cons (eqOk T.ca_Row T.eq_Row (ok_Row_eq T) (hr.mono (by decide)) hg) .nil) (om_eqG hr.u65)) (pm_methO (.cons (meOk T.ca_Row T.sc_Row.1 T.me_Row_raised (cm_fnG (ok_Row_raised T) (hr.mono (by decide)) hg)) .nil) (pm_var (i := 1)) (pa_consm pm_int pa_nilm)) (pm_cmeth T.ca_Row (by rfl) T.g_Row T.cm_Row_power (ok_Row_power T) (B_Row_power_2 T) (hr.mono (by decide)) hg (pa_consm pm_int pa_nilm)) (nomark _))))))) ok (h6 ns)))), fun E σ H ht hE => ?_⟩
    exact ⟨ht, fun σ0 H0 ht0 => ⟨ht0, fun k hk σ' H' h1 => ⟨⟨k, by omega, h1⟩, fun σ2 H2 h2 => ⟨h2, fun jj hjj σ3 H3 h3 => ⟨h3.weak (hw ns jj), fun σ4 H4 h4 => h4⟩, fun σ3 H3 h3 => h3.weak (h5 ns)⟩⟩, fun σ2 H2 h2 => ⟨h2, hE⟩⟩⟩
end
def cal (C_InvalidRow C_InvalidNumber C_Row C_TooMany C_InvalidOperation : Addr) : Nat → Value := caL [(11, Value.ref C_InvalidRow), (13, Value.ref C_InvalidNumber), (15, Value.ref C_Row), (14, Value.ref C_TooMany), (12, Value.ref C_InvalidOperation)]
def tbl (P_Lmade_right P_Lnumbers_right P_Lrest_right : Addr) : List (Addr × Str) := [(P_Lmade_right, ("_law_made_right" : Str) ++ ".<locals>." ++ "<lambda>"), (P_Lnumbers_right, ("_law_numbers_right" : Str) ++ ".<locals>." ++ "<lambda>"), (P_Lrest_right, ("_law_rest_right" : Str) ++ ".<locals>." ++ "<lambda>")]
theorem all_mk {K : PySem.W.Frag} {ts : List Addr} {h : Heap} {mg : Str → Option Value} (X : K.In h) (Gn : h.Ns mainGlobals mg)
    {f_is_integer : Addr} {oc_is_integer kV_is_integer dc_is_integer pm_is_integer cd_is_integer ct_is_integer : Value} {od_is_integer an_is_integer : Option Addr} {sl_is_integer : Array (Option Value)}
    {f_is_power : Addr} {oc_is_power kV_is_power dc_is_power pm_is_power cd_is_power ct_is_power : Value} {od_is_power an_is_power : Option Addr} {sl_is_power : Array (Option Value)}
    {f_are_terms : Addr} {oc_are_terms kV_are_terms dc_are_terms pm_are_terms cd_are_terms ct_are_terms : Value} {od_are_terms an_are_terms : Option Addr} {sl_are_terms : Array (Option Value)}
    {f_Row_getitem : Addr} {oc_Row_getitem kV_Row_getitem dc_Row_getitem pm_Row_getitem cd_Row_getitem ct_Row_getitem : Value} {od_Row_getitem an_Row_getitem : Option Addr} {sl_Row_getitem : Array (Option Value)}
    {f_sorted_terms : Addr} {oc_sorted_terms kV_sorted_terms dc_sorted_terms pm_sorted_terms cd_sorted_terms ct_sorted_terms : Value} {od_sorted_terms an_sorted_terms : Option Addr} {sl_sorted_terms : Array (Option Value)}
    {f_Row_init : Addr} {oc_Row_init dc_Row_init pm_Row_init cd_Row_init ct_Row_init : Value} {od_Row_init an_Row_init : Option Addr} {sl_Row_init : Array (Option Value)}
    {kD_Row_init : Addr} {ku_Row_init : Value}
    {f_product_terms : Addr} {oc_product_terms kV_product_terms dc_product_terms pm_product_terms cd_product_terms ct_product_terms : Value} {od_product_terms an_product_terms : Option Addr} {sl_product_terms : Array (Option Value)}
    {f_operand_terms : Addr} {oc_operand_terms kV_operand_terms dc_operand_terms pm_operand_terms cd_operand_terms ct_operand_terms : Value} {od_operand_terms an_operand_terms : Option Addr} {sl_operand_terms : Array (Option Value)}
    {f_Row_mul : Addr} {oc_Row_mul kV_Row_mul dc_Row_mul pm_Row_mul cd_Row_mul ct_Row_mul : Value} {od_Row_mul an_Row_mul : Option Addr} {sl_Row_mul : Array (Option Value)}
    {f_summed_terms : Addr} {oc_summed_terms kV_summed_terms dc_summed_terms pm_summed_terms cd_summed_terms ct_summed_terms : Value} {od_summed_terms an_summed_terms : Option Addr} {sl_summed_terms : Array (Option Value)}
    {f_Row_add : Addr} {oc_Row_add kV_Row_add dc_Row_add pm_Row_add cd_Row_add ct_Row_add : Value} {od_Row_add an_Row_add : Option Addr} {sl_Row_add : Array (Option Value)}
    {f_Row_neg : Addr} {oc_Row_neg kV_Row_neg dc_Row_neg pm_Row_neg cd_Row_neg ct_Row_neg : Value} {od_Row_neg an_Row_neg : Option Addr} {sl_Row_neg : Array (Option Value)}
    {f_Row_sub : Addr} {oc_Row_sub kV_Row_sub dc_Row_sub pm_Row_sub cd_Row_sub ct_Row_sub : Value} {od_Row_sub an_Row_sub : Option Addr} {sl_Row_sub : Array (Option Value)}
    {f_Row_eq : Addr} {oc_Row_eq kV_Row_eq dc_Row_eq pm_Row_eq cd_Row_eq ct_Row_eq : Value} {od_Row_eq an_Row_eq : Option Addr} {sl_Row_eq : Array (Option Value)}
    {f_wall : Addr} {oc_wall kV_wall dc_wall pm_wall cd_wall ct_wall : Value} {od_wall an_wall : Option Addr} {sl_wall : Array (Option Value)}
    {f_power_text : Addr} {oc_power_text kV_power_text dc_power_text pm_power_text cd_power_text ct_power_text : Value} {od_power_text an_power_text : Option Addr} {sl_power_text : Array (Option Value)}
    {f_term_text : Addr} {oc_term_text kV_term_text dc_term_text pm_term_text cd_term_text ct_term_text : Value} {od_term_text an_term_text : Option Addr} {sl_term_text : Array (Option Value)}
    {f_terms_text : Addr} {oc_terms_text kV_terms_text dc_terms_text pm_terms_text cd_terms_text ct_terms_text : Value} {od_terms_text an_terms_text : Option Addr} {sl_terms_text : Array (Option Value)}
    {f_quotient_terms : Addr} {oc_quotient_terms kV_quotient_terms dc_quotient_terms pm_quotient_terms cd_quotient_terms ct_quotient_terms : Value} {od_quotient_terms an_quotient_terms : Option Addr} {sl_quotient_terms : Array (Option Value)}
    {f_require_row : Addr} {oc_require_row kV_require_row dc_require_row pm_require_row cd_require_row ct_require_row : Value} {od_require_row an_require_row : Option Addr} {sl_require_row : Array (Option Value)}
    {f_Ldice : Addr} {oc_Ldice kV_Ldice dc_Ldice pm_Ldice cd_Ldice ct_Ldice : Value} {od_Ldice an_Ldice : Option Addr} {sl_Ldice : Array (Option Value)}
    {f_Lroll : Addr} {oc_Lroll kV_Lroll dc_Lroll pm_Lroll cd_Lroll ct_Lroll : Value} {od_Lroll an_Lroll : Option Addr} {sl_Lroll : Array (Option Value)}
    {f_Row_len : Addr} {oc_Row_len kV_Row_len dc_Row_len pm_Row_len cd_Row_len ct_Row_len : Value} {od_Row_len an_Row_len : Option Addr} {sl_Row_len : Array (Option Value)}
    {f_Lpick : Addr} {oc_Lpick kV_Lpick dc_Lpick pm_Lpick cd_Lpick ct_Lpick : Value} {od_Lpick an_Lpick : Option Addr} {sl_Lpick : Array (Option Value)}
    {f_Lword : Addr} {oc_Lword kV_Lword dc_Lword pm_Lword cd_Lword ct_Lword : Value} {od_Lword an_Lword : Option Addr} {sl_Lword : Array (Option Value)}
    {f_Row_none : Addr} {oc_Row_none kV_Row_none dc_Row_none pm_Row_none cd_Row_none ct_Row_none : Value} {od_Row_none an_Row_none : Option Addr} {sl_Row_none : Array (Option Value)}
    {pp_Row_none : Addr} {pr_Row_none : List Value}
    {f_Row_power : Addr} {oc_Row_power dc_Row_power pm_Row_power cd_Row_power ct_Row_power : Value} {od_Row_power an_Row_power : Option Addr} {sl_Row_power : Array (Option Value)}
    {kD_Row_power : Addr} {ku_Row_power : Value}
    {pp_Row_power : Addr} {pr_Row_power : List Value}
    {f_Lmade_right : Addr} {oc_Lmade_right kV_Lmade_right dc_Lmade_right pm_Lmade_right ct_Lmade_right : Value} {od_Lmade_right an_Lmade_right : Option Addr} {sl_Lmade_right : Array (Option Value)}
    {cc_Lmade_right P_Lmade_right : Addr} {cl_Lmade_right : Value} {cdd_Lmade_right : Option Addr} {cvs_Lmade_right : Array Value} {csl_Lmade_right : Array (Option Value)}
    {f_Row_shifted : Addr} {oc_Row_shifted kV_Row_shifted dc_Row_shifted pm_Row_shifted cd_Row_shifted ct_Row_shifted : Value} {od_Row_shifted an_Row_shifted : Option Addr} {sl_Row_shifted : Array (Option Value)}
    {f_Row_spread : Addr} {oc_Row_spread kV_Row_spread dc_Row_spread pm_Row_spread cd_Row_spread ct_Row_spread : Value} {od_Row_spread an_Row_spread : Option Addr} {sl_Row_spread : Array (Option Value)}
    {f_Row_at : Addr} {oc_Row_at kV_Row_at dc_Row_at pm_Row_at cd_Row_at ct_Row_at : Value} {od_Row_at an_Row_at : Option Addr} {sl_Row_at : Array (Option Value)}
    {f_Row_turned : Addr} {oc_Row_turned kV_Row_turned dc_Row_turned pm_Row_turned cd_Row_turned ct_Row_turned : Value} {od_Row_turned an_Row_turned : Option Addr} {sl_Row_turned : Array (Option Value)}
    {pp_Row_turned : Addr} {pr_Row_turned : List Value}
    {f_Row_raised : Addr} {oc_Row_raised kV_Row_raised dc_Row_raised pm_Row_raised cd_Row_raised ct_Row_raised : Value} {od_Row_raised an_Row_raised : Option Addr} {sl_Row_raised : Array (Option Value)}
    {f_Lnumbers_right : Addr} {oc_Lnumbers_right kV_Lnumbers_right dc_Lnumbers_right pm_Lnumbers_right ct_Lnumbers_right : Value} {od_Lnumbers_right an_Lnumbers_right : Option Addr} {sl_Lnumbers_right : Array (Option Value)}
    {cc_Lnumbers_right P_Lnumbers_right : Addr} {cl_Lnumbers_right : Value} {cdd_Lnumbers_right : Option Addr} {cvs_Lnumbers_right : Array Value} {csl_Lnumbers_right : Array (Option Value)}
    {f_Row_quotient : Addr} {oc_Row_quotient kV_Row_quotient dc_Row_quotient pm_Row_quotient cd_Row_quotient ct_Row_quotient : Value} {od_Row_quotient an_Row_quotient : Option Addr} {sl_Row_quotient : Array (Option Value)}
    {f_Row_low : Addr} {oc_Row_low kV_Row_low dc_Row_low pm_Row_low cd_Row_low ct_Row_low : Value} {od_Row_low an_Row_low : Option Addr} {sl_Row_low : Array (Option Value)}
    {pp_Row_low : Addr} {pr_Row_low : List Value}
    {f_Lrest_right : Addr} {oc_Lrest_right kV_Lrest_right dc_Lrest_right pm_Lrest_right ct_Lrest_right : Value} {od_Lrest_right an_Lrest_right : Option Addr} {sl_Lrest_right : Array (Option Value)}
    {cc_Lrest_right P_Lrest_right : Addr} {cl_Lrest_right : Value} {cdd_Lrest_right : Option Addr} {cvs_Lrest_right : Array Value} {csl_Lrest_right : Array (Option Value)}
    {f_law : Addr} {oc_law kV_law dc_law pm_law cd_law ct_law : Value} {od_law an_law : Option Addr} {sl_law : Array (Option Value)}
    {t_BOUND : Tok}
    {t_MAX_POWER : Tok}
    {t_LETTER : Tok}
    {u_LETTER : Str}
    {t_MAX_RAISED : Tok}
    {C_InvalidRow : Addr}
    {C_InvalidNumber : Addr}
    {C_Row : Addr}
    {C_TooMany : Addr}
    {C_InvalidOperation : Addr}
    {P_Row_own_terms : Addr}
    {D_InvalidNumber I_InvalidNumber cc_InvalidNumber cda_InvalidNumber : Addr} {qu_InvalidNumber file_InvalidNumber : Str} {kV_InvalidNumber dc_InvalidNumber pm_InvalidNumber ct_InvalidNumber oc_InvalidNumber ccl_InvalidNumber cl_InvalidNumber : Value} {an_InvalidNumber od_InvalidNumber cdd_InvalidNumber cld_InvalidNumber : Option Addr} {osl_InvalidNumber ccs_InvalidNumber csl_InvalidNumber : Array (Option Value)} {vs_InvalidNumber : Array Value} {tf_InvalidNumber : Tok}
    {D_TooMany I_TooMany cc_TooMany cda_TooMany : Addr} {qu_TooMany file_TooMany : Str} {kV_TooMany dc_TooMany pm_TooMany ct_TooMany oc_TooMany ccl_TooMany cl_TooMany : Value} {an_TooMany od_TooMany cdd_TooMany cld_TooMany : Option Addr} {osl_TooMany ccs_TooMany csl_TooMany : Array (Option Value)} {vs_TooMany : Array Value} {tf_TooMany : Tok}
    (a_InvalidOperation : PySem.W.nsIn K mainGlobals "InvalidOperation" = some (some (.ref C_InvalidOperation)))
    (a_TooMany : PySem.W.nsIn K mainGlobals "TooMany" = some (some (.ref C_TooMany)))
    (a_Row : PySem.W.nsIn K mainGlobals "Row" = some (some (.ref C_Row)))
    (a_InvalidNumber : PySem.W.nsIn K mainGlobals "InvalidNumber" = some (some (.ref C_InvalidNumber)))
    (a_InvalidRow : PySem.W.nsIn K mainGlobals "InvalidRow" = some (some (.ref C_InvalidRow)))
    (a_is_integer : PySem.W.nsIn K mainGlobals "is_integer" = some (some (.ref f_is_integer)))
    (l_is_integer : K.lookup f_is_integer = some ⟨oc_is_integer, od_is_integer, .func (PySem.W.fnOf "is_integer" "is_integer" (defArgs s_is_integer) (defBody s_is_integer) (defScope s_is_integer) .none kV_is_integer dc_is_integer pm_is_integer an_is_integer cd_is_integer ct_is_integer), sl_is_integer⟩)
    (k_is_integer : PySem.W.codeIn K cd_is_integer "is_integer" = true)
    (q_is_integer : PySem.W.keepIn K (.ref f_is_integer) = true)
    (a_is_power : PySem.W.nsIn K mainGlobals "is_power" = some (some (.ref f_is_power)))
    (l_is_power : K.lookup f_is_power = some ⟨oc_is_power, od_is_power, .func (PySem.W.fnOf "is_power" "is_power" (defArgs s_is_power) (defBody s_is_power) (defScope s_is_power) .none kV_is_power dc_is_power pm_is_power an_is_power cd_is_power ct_is_power), sl_is_power⟩)
    (k_is_power : PySem.W.codeIn K cd_is_power "is_power" = true)
    (q_is_power : PySem.W.keepIn K (.ref f_is_power) = true)
    (a_are_terms : PySem.W.nsIn K mainGlobals "are_terms" = some (some (.ref f_are_terms)))
    (l_are_terms : K.lookup f_are_terms = some ⟨oc_are_terms, od_are_terms, .func (PySem.W.fnOf "are_terms" "are_terms" (defArgs s_are_terms) (defBody s_are_terms) (defScope s_are_terms) .none kV_are_terms dc_are_terms pm_are_terms an_are_terms cd_are_terms ct_are_terms), sl_are_terms⟩)
    (k_are_terms : PySem.W.codeIn K cd_are_terms "are_terms" = true)
    (q_are_terms : PySem.W.keepIn K (.ref f_are_terms) = true)
    (a_Row_getitem : PySem.W.findIn K (.ref C_Row) "__getitem__" = some (some (.ref f_Row_getitem)))
    (l_Row_getitem : K.lookup f_Row_getitem = some ⟨oc_Row_getitem, od_Row_getitem, .func (PySem.W.fnOf "__getitem__" "Row.__getitem__" (defArgs s_Row_getitem) (defBody s_Row_getitem) (defScope s_Row_getitem) .none kV_Row_getitem dc_Row_getitem pm_Row_getitem an_Row_getitem cd_Row_getitem ct_Row_getitem), sl_Row_getitem⟩)
    (k_Row_getitem : PySem.W.codeIn K cd_Row_getitem "Row.__getitem__" = true)
    (q_Row_getitem : PySem.W.keepIn K (.ref f_Row_getitem) = true)
    (a_sorted_terms : PySem.W.nsIn K mainGlobals "sorted_terms" = some (some (.ref f_sorted_terms)))
    (l_sorted_terms : K.lookup f_sorted_terms = some ⟨oc_sorted_terms, od_sorted_terms, .func (PySem.W.fnOf "sorted_terms" "sorted_terms" (defArgs s_sorted_terms) (defBody s_sorted_terms) (defScope s_sorted_terms) .none kV_sorted_terms dc_sorted_terms pm_sorted_terms an_sorted_terms cd_sorted_terms ct_sorted_terms), sl_sorted_terms⟩)
    (k_sorted_terms : PySem.W.codeIn K cd_sorted_terms "sorted_terms" = true)
    (q_sorted_terms : PySem.W.keepIn K (.ref f_sorted_terms) = true)
    (a_Row_init : PySem.W.findIn K (.ref C_Row) "__init__" = some (some (.ref f_Row_init)))
    (l_Row_init : K.lookup f_Row_init = some ⟨oc_Row_init, od_Row_init, .func (PySem.W.fnOf "__init__" "Row.__init__" (defArgs s_Row_init) (defBody s_Row_init) (defScope s_Row_init) .none (.ref kD_Row_init) dc_Row_init pm_Row_init an_Row_init cd_Row_init ct_Row_init), sl_Row_init⟩)
    (k_Row_init : PySem.W.codeIn K cd_Row_init "Row.__init__" = true)
    (q_Row_init : PySem.W.keepIn K (.ref f_Row_init) = true)
    (z_Row_init : PySem.W.nsIn K kD_Row_init "is_known" = some (some ku_Row_init))
    (y_Row_init : RelV (V.bl false) ku_Row_init)
    (a_product_terms : PySem.W.nsIn K mainGlobals "product_terms" = some (some (.ref f_product_terms)))
    (l_product_terms : K.lookup f_product_terms = some ⟨oc_product_terms, od_product_terms, .func (PySem.W.fnOf "product_terms" "product_terms" (defArgs s_product_terms) (defBody s_product_terms) (defScope s_product_terms) .none kV_product_terms dc_product_terms pm_product_terms an_product_terms cd_product_terms ct_product_terms), sl_product_terms⟩)
    (k_product_terms : PySem.W.codeIn K cd_product_terms "product_terms" = true)
    (q_product_terms : PySem.W.keepIn K (.ref f_product_terms) = true)
    (a_operand_terms : PySem.W.nsIn K mainGlobals "operand_terms" = some (some (.ref f_operand_terms)))
    (l_operand_terms : K.lookup f_operand_terms = some ⟨oc_operand_terms, od_operand_terms, .func (PySem.W.fnOf "operand_terms" "operand_terms" (defArgs s_operand_terms) (defBody s_operand_terms) (defScope s_operand_terms) .none kV_operand_terms dc_operand_terms pm_operand_terms an_operand_terms cd_operand_terms ct_operand_terms), sl_operand_terms⟩)
    (k_operand_terms : PySem.W.codeIn K cd_operand_terms "operand_terms" = true)
    (q_operand_terms : PySem.W.keepIn K (.ref f_operand_terms) = true)
    (a_Row_mul : PySem.W.findIn K (.ref C_Row) "__mul__" = some (some (.ref f_Row_mul)))
    (l_Row_mul : K.lookup f_Row_mul = some ⟨oc_Row_mul, od_Row_mul, .func (PySem.W.fnOf "__mul__" "Row.__mul__" (defArgs s_Row_mul) (defBody s_Row_mul) (defScope s_Row_mul) .none kV_Row_mul dc_Row_mul pm_Row_mul an_Row_mul cd_Row_mul ct_Row_mul), sl_Row_mul⟩)
    (k_Row_mul : PySem.W.codeIn K cd_Row_mul "Row.__mul__" = true)
    (q_Row_mul : PySem.W.keepIn K (.ref f_Row_mul) = true)
    (a_summed_terms : PySem.W.nsIn K mainGlobals "summed_terms" = some (some (.ref f_summed_terms)))
    (l_summed_terms : K.lookup f_summed_terms = some ⟨oc_summed_terms, od_summed_terms, .func (PySem.W.fnOf "summed_terms" "summed_terms" (defArgs s_summed_terms) (defBody s_summed_terms) (defScope s_summed_terms) .none kV_summed_terms dc_summed_terms pm_summed_terms an_summed_terms cd_summed_terms ct_summed_terms), sl_summed_terms⟩)
    (k_summed_terms : PySem.W.codeIn K cd_summed_terms "summed_terms" = true)
    (q_summed_terms : PySem.W.keepIn K (.ref f_summed_terms) = true)
    (a_Row_add : PySem.W.findIn K (.ref C_Row) "__add__" = some (some (.ref f_Row_add)))
    (l_Row_add : K.lookup f_Row_add = some ⟨oc_Row_add, od_Row_add, .func (PySem.W.fnOf "__add__" "Row.__add__" (defArgs s_Row_add) (defBody s_Row_add) (defScope s_Row_add) .none kV_Row_add dc_Row_add pm_Row_add an_Row_add cd_Row_add ct_Row_add), sl_Row_add⟩)
    (k_Row_add : PySem.W.codeIn K cd_Row_add "Row.__add__" = true)
    (q_Row_add : PySem.W.keepIn K (.ref f_Row_add) = true)
    (a_Row_neg : PySem.W.findIn K (.ref C_Row) "__neg__" = some (some (.ref f_Row_neg)))
    (l_Row_neg : K.lookup f_Row_neg = some ⟨oc_Row_neg, od_Row_neg, .func (PySem.W.fnOf "__neg__" "Row.__neg__" (defArgs s_Row_neg) (defBody s_Row_neg) (defScope s_Row_neg) .none kV_Row_neg dc_Row_neg pm_Row_neg an_Row_neg cd_Row_neg ct_Row_neg), sl_Row_neg⟩)
    (k_Row_neg : PySem.W.codeIn K cd_Row_neg "Row.__neg__" = true)
    (q_Row_neg : PySem.W.keepIn K (.ref f_Row_neg) = true)
    (a_Row_sub : PySem.W.findIn K (.ref C_Row) "__sub__" = some (some (.ref f_Row_sub)))
    (l_Row_sub : K.lookup f_Row_sub = some ⟨oc_Row_sub, od_Row_sub, .func (PySem.W.fnOf "__sub__" "Row.__sub__" (defArgs s_Row_sub) (defBody s_Row_sub) (defScope s_Row_sub) .none kV_Row_sub dc_Row_sub pm_Row_sub an_Row_sub cd_Row_sub ct_Row_sub), sl_Row_sub⟩)
    (k_Row_sub : PySem.W.codeIn K cd_Row_sub "Row.__sub__" = true)
    (q_Row_sub : PySem.W.keepIn K (.ref f_Row_sub) = true)
    (a_Row_eq : PySem.W.findIn K (.ref C_Row) "__eq__" = some (some (.ref f_Row_eq)))
    (l_Row_eq : K.lookup f_Row_eq = some ⟨oc_Row_eq, od_Row_eq, .func (PySem.W.fnOf "__eq__" "Row.__eq__" (defArgs s_Row_eq) (defBody s_Row_eq) (defScope s_Row_eq) .none kV_Row_eq dc_Row_eq pm_Row_eq an_Row_eq cd_Row_eq ct_Row_eq), sl_Row_eq⟩)
    (k_Row_eq : PySem.W.codeIn K cd_Row_eq "Row.__eq__" = true)
    (q_Row_eq : PySem.W.keepIn K (.ref f_Row_eq) = true)
    (a_wall : PySem.W.nsIn K mainGlobals "_wall" = some (some (.ref f_wall)))
    (l_wall : K.lookup f_wall = some ⟨oc_wall, od_wall, .func (PySem.W.fnOf "_wall" "_wall" (defArgs s_wall) (defBody s_wall) (defScope s_wall) .none kV_wall dc_wall pm_wall an_wall cd_wall ct_wall), sl_wall⟩)
    (k_wall : PySem.W.codeIn K cd_wall "_wall" = true)
    (q_wall : PySem.W.keepIn K (.ref f_wall) = true)
    (a_power_text : PySem.W.nsIn K mainGlobals "power_text" = some (some (.ref f_power_text)))
    (l_power_text : K.lookup f_power_text = some ⟨oc_power_text, od_power_text, .func (PySem.W.fnOf "power_text" "power_text" (defArgs s_power_text) (defBody s_power_text) (defScope s_power_text) .none kV_power_text dc_power_text pm_power_text an_power_text cd_power_text ct_power_text), sl_power_text⟩)
    (k_power_text : PySem.W.codeIn K cd_power_text "power_text" = true)
    (q_power_text : PySem.W.keepIn K (.ref f_power_text) = true)
    (a_term_text : PySem.W.nsIn K mainGlobals "term_text" = some (some (.ref f_term_text)))
    (l_term_text : K.lookup f_term_text = some ⟨oc_term_text, od_term_text, .func (PySem.W.fnOf "term_text" "term_text" (defArgs s_term_text) (defBody s_term_text) (defScope s_term_text) .none kV_term_text dc_term_text pm_term_text an_term_text cd_term_text ct_term_text), sl_term_text⟩)
    (k_term_text : PySem.W.codeIn K cd_term_text "term_text" = true)
    (q_term_text : PySem.W.keepIn K (.ref f_term_text) = true)
    (a_terms_text : PySem.W.nsIn K mainGlobals "terms_text" = some (some (.ref f_terms_text)))
    (l_terms_text : K.lookup f_terms_text = some ⟨oc_terms_text, od_terms_text, .func (PySem.W.fnOf "terms_text" "terms_text" (defArgs s_terms_text) (defBody s_terms_text) (defScope s_terms_text) .none kV_terms_text dc_terms_text pm_terms_text an_terms_text cd_terms_text ct_terms_text), sl_terms_text⟩)
    (k_terms_text : PySem.W.codeIn K cd_terms_text "terms_text" = true)
    (q_terms_text : PySem.W.keepIn K (.ref f_terms_text) = true)
    (a_quotient_terms : PySem.W.nsIn K mainGlobals "quotient_terms" = some (some (.ref f_quotient_terms)))
    (l_quotient_terms : K.lookup f_quotient_terms = some ⟨oc_quotient_terms, od_quotient_terms, .func (PySem.W.fnOf "quotient_terms" "quotient_terms" (defArgs s_quotient_terms) (defBody s_quotient_terms) (defScope s_quotient_terms) .none kV_quotient_terms dc_quotient_terms pm_quotient_terms an_quotient_terms cd_quotient_terms ct_quotient_terms), sl_quotient_terms⟩)
    (k_quotient_terms : PySem.W.codeIn K cd_quotient_terms "quotient_terms" = true)
    (q_quotient_terms : PySem.W.keepIn K (.ref f_quotient_terms) = true)
    (a_require_row : PySem.W.nsIn K mainGlobals "require_row" = some (some (.ref f_require_row)))
    (l_require_row : K.lookup f_require_row = some ⟨oc_require_row, od_require_row, .func (PySem.W.fnOf "require_row" "require_row" (defArgs s_require_row) (defBody s_require_row) (defScope s_require_row) .none kV_require_row dc_require_row pm_require_row an_require_row cd_require_row ct_require_row), sl_require_row⟩)
    (k_require_row : PySem.W.codeIn K cd_require_row "require_row" = true)
    (q_require_row : PySem.W.keepIn K (.ref f_require_row) = true)
    (a_Ldice : PySem.W.nsIn K mainGlobals "_law_dice" = some (some (.ref f_Ldice)))
    (l_Ldice : K.lookup f_Ldice = some ⟨oc_Ldice, od_Ldice, .func (PySem.W.fnOf "_law_dice" "_law_dice" (defArgs s_Ldice) (defBody s_Ldice) (defScope s_Ldice) .none kV_Ldice dc_Ldice pm_Ldice an_Ldice cd_Ldice ct_Ldice), sl_Ldice⟩)
    (k_Ldice : PySem.W.codeIn K cd_Ldice "_law_dice" = true)
    (q_Ldice : PySem.W.keepIn K (.ref f_Ldice) = true)
    (a_Lroll : PySem.W.nsIn K mainGlobals "_law_roll" = some (some (.ref f_Lroll)))
    (l_Lroll : K.lookup f_Lroll = some ⟨oc_Lroll, od_Lroll, .func (PySem.W.fnOf "_law_roll" "_law_roll" (defArgs s_Lroll) (defBody s_Lroll) (defScope s_Lroll) .none kV_Lroll dc_Lroll pm_Lroll an_Lroll cd_Lroll ct_Lroll), sl_Lroll⟩)
    (k_Lroll : PySem.W.codeIn K cd_Lroll "_law_roll" = true)
    (q_Lroll : PySem.W.keepIn K (.ref f_Lroll) = true)
    (a_Row_len : PySem.W.findIn K (.ref C_Row) "__len__" = some (some (.ref f_Row_len)))
    (l_Row_len : K.lookup f_Row_len = some ⟨oc_Row_len, od_Row_len, .func (PySem.W.fnOf "__len__" "Row.__len__" (defArgs s_Row_len) (defBody s_Row_len) (defScope s_Row_len) .none kV_Row_len dc_Row_len pm_Row_len an_Row_len cd_Row_len ct_Row_len), sl_Row_len⟩)
    (k_Row_len : PySem.W.codeIn K cd_Row_len "Row.__len__" = true)
    (q_Row_len : PySem.W.keepIn K (.ref f_Row_len) = true)
    (a_Lpick : PySem.W.nsIn K mainGlobals "_law_pick" = some (some (.ref f_Lpick)))
    (l_Lpick : K.lookup f_Lpick = some ⟨oc_Lpick, od_Lpick, .func (PySem.W.fnOf "_law_pick" "_law_pick" (defArgs s_Lpick) (defBody s_Lpick) (defScope s_Lpick) .none kV_Lpick dc_Lpick pm_Lpick an_Lpick cd_Lpick ct_Lpick), sl_Lpick⟩)
    (k_Lpick : PySem.W.codeIn K cd_Lpick "_law_pick" = true)
    (q_Lpick : PySem.W.keepIn K (.ref f_Lpick) = true)
    (a_Lword : PySem.W.nsIn K mainGlobals "_law_word" = some (some (.ref f_Lword)))
    (l_Lword : K.lookup f_Lword = some ⟨oc_Lword, od_Lword, .func (PySem.W.fnOf "_law_word" "_law_word" (defArgs s_Lword) (defBody s_Lword) (defScope s_Lword) .none kV_Lword dc_Lword pm_Lword an_Lword cd_Lword ct_Lword), sl_Lword⟩)
    (k_Lword : PySem.W.codeIn K cd_Lword "_law_word" = true)
    (q_Lword : PySem.W.keepIn K (.ref f_Lword) = true)
    (a_Row_none : PySem.W.findCls K (.ref C_Row) (.type "type") "none" = some (.get (.builtin "classmethod.__get__") (.ref pp_Row_none) .none (.ref C_Row)))
    (b_Row_none : PySem.W.recIn K pp_Row_none "classmethod" = some (.ref f_Row_none :: pr_Row_none))
    (l_Row_none : K.lookup f_Row_none = some ⟨oc_Row_none, od_Row_none, .func (PySem.W.fnOf "none" "Row.none" (defArgs s_Row_none) (defBody s_Row_none) (defScope s_Row_none) .none kV_Row_none dc_Row_none pm_Row_none an_Row_none cd_Row_none ct_Row_none), sl_Row_none⟩)
    (k_Row_none : PySem.W.codeIn K cd_Row_none "Row.none" = true)
    (q_Row_none : PySem.W.keepIn K (.ref f_Row_none) = true)
    (a_Row_power : PySem.W.findCls K (.ref C_Row) (.type "type") "power" = some (.get (.builtin "classmethod.__get__") (.ref pp_Row_power) .none (.ref C_Row)))
    (b_Row_power : PySem.W.recIn K pp_Row_power "classmethod" = some (.ref f_Row_power :: pr_Row_power))
    (l_Row_power : K.lookup f_Row_power = some ⟨oc_Row_power, od_Row_power, .func (PySem.W.fnOf "power" "Row.power" (defArgs s_Row_power) (defBody s_Row_power) (defScope s_Row_power) .none (.ref kD_Row_power) dc_Row_power pm_Row_power an_Row_power cd_Row_power ct_Row_power), sl_Row_power⟩)
    (k_Row_power : PySem.W.codeIn K cd_Row_power "Row.power" = true)
    (q_Row_power : PySem.W.keepIn K (.ref f_Row_power) = true)
    (z_Row_power : PySem.W.nsIn K kD_Row_power "many" = some (some ku_Row_power))
    (y_Row_power : RelV (V.int 1) ku_Row_power)
    (a_Lmade_right : PySem.W.nsIn K mainGlobals "_law_made_right" = some (some (.ref f_Lmade_right)))
    (l_Lmade_right : K.lookup f_Lmade_right = some ⟨oc_Lmade_right, od_Lmade_right, .func (PySem.W.fnOf "_law_made_right" "_law_made_right" (defArgs s_Lmade_right) (defBody s_Lmade_right) (defScope s_Lmade_right) .none kV_Lmade_right dc_Lmade_right pm_Lmade_right an_Lmade_right (.ref cc_Lmade_right) ct_Lmade_right), sl_Lmade_right⟩)
    (k_Lmade_right : PySem.W.codeIn K (.ref cc_Lmade_right) "_law_made_right" = true)
    (q_Lmade_right : PySem.W.keepIn K (.ref f_Lmade_right) = true)
    (kc_Lmade_right : K.lookup cc_Lmade_right = some ⟨cl_Lmade_right, cdd_Lmade_right, .fields cvs_Lmade_right, csl_Lmade_right⟩)
    (kt_Lmade_right : cvs_Lmade_right[11]? = some (.ref P_Lmade_right))
    (a_Row_shifted : PySem.W.findIn K (.ref C_Row) "shifted" = some (some (.ref f_Row_shifted)))
    (l_Row_shifted : K.lookup f_Row_shifted = some ⟨oc_Row_shifted, od_Row_shifted, .func (PySem.W.fnOf "shifted" "Row.shifted" (defArgs s_Row_shifted) (defBody s_Row_shifted) (defScope s_Row_shifted) .none kV_Row_shifted dc_Row_shifted pm_Row_shifted an_Row_shifted cd_Row_shifted ct_Row_shifted), sl_Row_shifted⟩)
    (k_Row_shifted : PySem.W.codeIn K cd_Row_shifted "Row.shifted" = true)
    (q_Row_shifted : PySem.W.keepIn K (.ref f_Row_shifted) = true)
    (a_Row_spread : PySem.W.findIn K (.ref C_Row) "spread" = some (some (.ref f_Row_spread)))
    (l_Row_spread : K.lookup f_Row_spread = some ⟨oc_Row_spread, od_Row_spread, .func (PySem.W.fnOf "spread" "Row.spread" (defArgs s_Row_spread) (defBody s_Row_spread) (defScope s_Row_spread) .none kV_Row_spread dc_Row_spread pm_Row_spread an_Row_spread cd_Row_spread ct_Row_spread), sl_Row_spread⟩)
    (k_Row_spread : PySem.W.codeIn K cd_Row_spread "Row.spread" = true)
    (q_Row_spread : PySem.W.keepIn K (.ref f_Row_spread) = true)
    (a_Row_at : PySem.W.findIn K (.ref C_Row) "at" = some (some (.ref f_Row_at)))
    (l_Row_at : K.lookup f_Row_at = some ⟨oc_Row_at, od_Row_at, .func (PySem.W.fnOf "at" "Row.at" (defArgs s_Row_at) (defBody s_Row_at) (defScope s_Row_at) .none kV_Row_at dc_Row_at pm_Row_at an_Row_at cd_Row_at ct_Row_at), sl_Row_at⟩)
    (k_Row_at : PySem.W.codeIn K cd_Row_at "Row.at" = true)
    (q_Row_at : PySem.W.keepIn K (.ref f_Row_at) = true)
    (a_Row_turned : PySem.W.findIn K (.ref C_Row) "turned" = some (some (.ref pp_Row_turned)))
    (b_Row_turned : PySem.W.recIn K pp_Row_turned "property" = some (.ref f_Row_turned :: pr_Row_turned))
    (l_Row_turned : K.lookup f_Row_turned = some ⟨oc_Row_turned, od_Row_turned, .func (PySem.W.fnOf "turned" "Row.turned" (defArgs s_Row_turned) (defBody s_Row_turned) (defScope s_Row_turned) .none kV_Row_turned dc_Row_turned pm_Row_turned an_Row_turned cd_Row_turned ct_Row_turned), sl_Row_turned⟩)
    (k_Row_turned : PySem.W.codeIn K cd_Row_turned "Row.turned" = true)
    (q_Row_turned : PySem.W.keepIn K (.ref f_Row_turned) = true)
    (a_Row_raised : PySem.W.findIn K (.ref C_Row) "raised" = some (some (.ref f_Row_raised)))
    (l_Row_raised : K.lookup f_Row_raised = some ⟨oc_Row_raised, od_Row_raised, .func (PySem.W.fnOf "raised" "Row.raised" (defArgs s_Row_raised) (defBody s_Row_raised) (defScope s_Row_raised) .none kV_Row_raised dc_Row_raised pm_Row_raised an_Row_raised cd_Row_raised ct_Row_raised), sl_Row_raised⟩)
    (k_Row_raised : PySem.W.codeIn K cd_Row_raised "Row.raised" = true)
    (q_Row_raised : PySem.W.keepIn K (.ref f_Row_raised) = true)
    (a_Lnumbers_right : PySem.W.nsIn K mainGlobals "_law_numbers_right" = some (some (.ref f_Lnumbers_right)))
    (l_Lnumbers_right : K.lookup f_Lnumbers_right = some ⟨oc_Lnumbers_right, od_Lnumbers_right, .func (PySem.W.fnOf "_law_numbers_right" "_law_numbers_right" (defArgs s_Lnumbers_right) (defBody s_Lnumbers_right) (defScope s_Lnumbers_right) .none kV_Lnumbers_right dc_Lnumbers_right pm_Lnumbers_right an_Lnumbers_right (.ref cc_Lnumbers_right) ct_Lnumbers_right), sl_Lnumbers_right⟩)
    (k_Lnumbers_right : PySem.W.codeIn K (.ref cc_Lnumbers_right) "_law_numbers_right" = true)
    (q_Lnumbers_right : PySem.W.keepIn K (.ref f_Lnumbers_right) = true)
    (kc_Lnumbers_right : K.lookup cc_Lnumbers_right = some ⟨cl_Lnumbers_right, cdd_Lnumbers_right, .fields cvs_Lnumbers_right, csl_Lnumbers_right⟩)
    (kt_Lnumbers_right : cvs_Lnumbers_right[11]? = some (.ref P_Lnumbers_right))
    (a_Row_quotient : PySem.W.findIn K (.ref C_Row) "quotient" = some (some (.ref f_Row_quotient)))
    (l_Row_quotient : K.lookup f_Row_quotient = some ⟨oc_Row_quotient, od_Row_quotient, .func (PySem.W.fnOf "quotient" "Row.quotient" (defArgs s_Row_quotient) (defBody s_Row_quotient) (defScope s_Row_quotient) .none kV_Row_quotient dc_Row_quotient pm_Row_quotient an_Row_quotient cd_Row_quotient ct_Row_quotient), sl_Row_quotient⟩)
    (k_Row_quotient : PySem.W.codeIn K cd_Row_quotient "Row.quotient" = true)
    (q_Row_quotient : PySem.W.keepIn K (.ref f_Row_quotient) = true)
    (a_Row_low : PySem.W.findIn K (.ref C_Row) "low" = some (some (.ref pp_Row_low)))
    (b_Row_low : PySem.W.recIn K pp_Row_low "property" = some (.ref f_Row_low :: pr_Row_low))
    (l_Row_low : K.lookup f_Row_low = some ⟨oc_Row_low, od_Row_low, .func (PySem.W.fnOf "low" "Row.low" (defArgs s_Row_low) (defBody s_Row_low) (defScope s_Row_low) .none kV_Row_low dc_Row_low pm_Row_low an_Row_low cd_Row_low ct_Row_low), sl_Row_low⟩)
    (k_Row_low : PySem.W.codeIn K cd_Row_low "Row.low" = true)
    (q_Row_low : PySem.W.keepIn K (.ref f_Row_low) = true)
    (a_Lrest_right : PySem.W.nsIn K mainGlobals "_law_rest_right" = some (some (.ref f_Lrest_right)))
    (l_Lrest_right : K.lookup f_Lrest_right = some ⟨oc_Lrest_right, od_Lrest_right, .func (PySem.W.fnOf "_law_rest_right" "_law_rest_right" (defArgs s_Lrest_right) (defBody s_Lrest_right) (defScope s_Lrest_right) .none kV_Lrest_right dc_Lrest_right pm_Lrest_right an_Lrest_right (.ref cc_Lrest_right) ct_Lrest_right), sl_Lrest_right⟩)
    (k_Lrest_right : PySem.W.codeIn K (.ref cc_Lrest_right) "_law_rest_right" = true)
    (q_Lrest_right : PySem.W.keepIn K (.ref f_Lrest_right) = true)
    (kc_Lrest_right : K.lookup cc_Lrest_right = some ⟨cl_Lrest_right, cdd_Lrest_right, .fields cvs_Lrest_right, csl_Lrest_right⟩)
    (kt_Lrest_right : cvs_Lrest_right[11]? = some (.ref P_Lrest_right))
    (a_law : PySem.W.nsIn K mainGlobals "law" = some (some (.ref f_law)))
    (l_law : K.lookup f_law = some ⟨oc_law, od_law, .func (PySem.W.fnOf "law" "law" (defArgs s_law) (defBody s_law) (defScope s_law) .none kV_law dc_law pm_law an_law cd_law ct_law), sl_law⟩)
    (k_law : PySem.W.codeIn K cd_law "law" = true)
    (q_law : PySem.W.keepIn K (.ref f_law) = true)
    (n_isinstance : PySem.W.nsIn K mainGlobals "isinstance" = some none)
    (n_dict : PySem.W.nsIn K mainGlobals "dict" = some none)
    (n_all : PySem.W.nsIn K mainGlobals "all" = some none)
    (n_int : PySem.W.nsIn K mainGlobals "int" = some none)
    (n_bool : PySem.W.nsIn K mainGlobals "bool" = some none)
    (n_abs : PySem.W.nsIn K mainGlobals "abs" = some none)
    (n_sorted : PySem.W.nsIn K mainGlobals "sorted" = some none)
    (n_super : PySem.W.nsIn K mainGlobals "super" = some none)
    (n_any : PySem.W.nsIn K mainGlobals "any" = some none)
    (n_max : PySem.W.nsIn K mainGlobals "max" = some none)
    (n_min : PySem.W.nsIn K mainGlobals "min" = some none)
    (n_len : PySem.W.nsIn K mainGlobals "len" = some none)
    (n_repr : PySem.W.nsIn K mainGlobals "repr" = some none)
    (n_sum : PySem.W.nsIn K mainGlobals "sum" = some none)
    (n_list : PySem.W.nsIn K mainGlobals "list" = some none)
    (n_range : PySem.W.nsIn K mainGlobals "range" = some none)
    (v_BOUND : PySem.W.nsIn K mainGlobals "BOUND" = some (some (.int 1000000000000000000000000000000000000000000000000000000000000 t_BOUND)))
    (v_MAX_POWER : PySem.W.nsIn K mainGlobals "MAX_POWER" = some (some (.int 10000 t_MAX_POWER)))
    (v_LETTER : PySem.W.nsIn K mainGlobals "LETTER" = some (some (.str u_LETTER t_LETTER)))
    (w_LETTER : u_LETTER = ⟨[120].toArray⟩)
    (v_MAX_RAISED : PySem.W.nsIn K mainGlobals "MAX_RAISED" = some (some (.int 100 t_MAX_RAISED)))
    (sc_Row : scB K C_Row = true)
    (mk_Row : mkB K C_Row f_Row_init = true)
    (p_Row_own_terms : PySem.W.findIn K (.ref C_Row) "own_terms" = some (some (.ref P_Row_own_terms)))
    (s1_Row_own_terms : s1B K C_Row P_Row_own_terms "own_terms" 0 = true)
    (me_Row_getitem : meB K C_Row f_Row_getitem "__getitem__" = true)
    (me_Row_neg : meB K C_Row f_Row_neg "__neg__" = true)
    (me_Row_len : meB K C_Row f_Row_len "__len__" = true)
    (me_Row_shifted : meB K C_Row f_Row_shifted "shifted" = true)
    (me_Row_spread : meB K C_Row f_Row_spread "spread" = true)
    (me_Row_at : meB K C_Row f_Row_at "at" = true)
    (me_Row_raised : meB K C_Row f_Row_raised "raised" = true)
    (me_Row_quotient : meB K C_Row f_Row_quotient "quotient" = true)
    (pr_Row_turned : prB K C_Row pp_Row_turned f_Row_turned "turned" = true)
    (pr_Row_low : prB K C_Row pp_Row_low f_Row_low "low" = true)
    (cm_Row_none : cmB K C_Row pp_Row_none f_Row_none "none" = true)
    (cm_Row_power : cmB K C_Row pp_Row_power f_Row_power "power" = true)
    (bo_Row_mul : boB K C_Row f_Row_mul .Mult = true)
    (bo_Row_sub : boB K C_Row f_Row_sub .Sub = true)
    (bo_Row_add : boB K C_Row f_Row_add .Add = true)
    (eq_Row : eqB K (cal C_InvalidRow C_InvalidNumber C_Row C_TooMany C_InvalidOperation) C_Row f_Row_eq eqts = true)
    (p_InvalidRow : kpB K C_InvalidRow = true)
    (i_InvalidNumber : PySem.W.findIn K (.ref C_InvalidNumber) "__init__" = some (some (.ref I_InvalidNumber)))
    (l_InvalidNumber : K.lookup I_InvalidNumber = some ⟨oc_InvalidNumber, od_InvalidNumber, .func (PySem.W.ksFn "__init__" qu_InvalidNumber (defArgs si_InvalidNumber) (defBody si_InvalidNumber) (defScope si_InvalidNumber) .none kV_InvalidNumber dc_InvalidNumber pm_InvalidNumber an_InvalidNumber (.ref cda_InvalidNumber) ct_InvalidNumber cc_InvalidNumber), osl_InvalidNumber⟩)
    (k_InvalidNumber : PySem.W.codeIn K (.ref cda_InvalidNumber) qu_InvalidNumber = true)
    (m_InvalidNumber : K.lookup cda_InvalidNumber = some ⟨ccl_InvalidNumber, cdd_InvalidNumber, .fields vs_InvalidNumber, ccs_InvalidNumber⟩)
    (o_InvalidNumber : vs_InvalidNumber[2]? = some (.str file_InvalidNumber tf_InvalidNumber))
    (u_InvalidNumber : ((pw.main.file : Str) == file_InvalidNumber) = true)
    (w_InvalidNumber : K.lookup cc_InvalidNumber = some ⟨cl_InvalidNumber, cld_InvalidNumber, .cell (some (.ref D_InvalidNumber)), csl_InvalidNumber⟩)
    (x_InvalidNumber : kxB K C_InvalidNumber D_InvalidNumber I_InvalidNumber "value" "IndexError" "IndexError.__new__" "IndexError.__init__" [.type "IndexError", .type "LookupError", .type "Exception", .type "BaseException", .type "object"] = true)
    (i_TooMany : PySem.W.findIn K (.ref C_TooMany) "__init__" = some (some (.ref I_TooMany)))
    (l_TooMany : K.lookup I_TooMany = some ⟨oc_TooMany, od_TooMany, .func (PySem.W.ksFn "__init__" qu_TooMany (defArgs si_TooMany) (defBody si_TooMany) (defScope si_TooMany) .none kV_TooMany dc_TooMany pm_TooMany an_TooMany (.ref cda_TooMany) ct_TooMany cc_TooMany), osl_TooMany⟩)
    (k_TooMany : PySem.W.codeIn K (.ref cda_TooMany) qu_TooMany = true)
    (m_TooMany : K.lookup cda_TooMany = some ⟨ccl_TooMany, cdd_TooMany, .fields vs_TooMany, ccs_TooMany⟩)
    (o_TooMany : vs_TooMany[2]? = some (.str file_TooMany tf_TooMany))
    (u_TooMany : ((pw.main.file : Str) == file_TooMany) = true)
    (w_TooMany : K.lookup cc_TooMany = some ⟨cl_TooMany, cld_TooMany, .cell (some (.ref D_TooMany)), csl_TooMany⟩)
    (x_TooMany : kxB K C_TooMany D_TooMany I_TooMany "limit" "OverflowError" "OverflowError.__new__" "OverflowError.__init__" [.type "OverflowError", .type "ArithmeticError", .type "Exception", .type "BaseException", .type "object"] = true)
    (p_InvalidOperation : kpB K C_InvalidOperation = true)
    (h1 : kitB K ((cal C_InvalidRow C_InvalidNumber C_Row C_TooMany C_InvalidOperation)) kit_t kit_c kit_f = true)
    (h2 : kitB K ((cal C_InvalidRow C_InvalidNumber C_Row C_TooMany C_InvalidOperation)) kix_t kix_c kix_f = true)
    (h3 : slB ((cal C_InvalidRow C_InvalidNumber C_Row C_TooMany C_InvalidOperation)) K (kiB K) kix_t = true)
    (h4 : slB ((cal C_InvalidRow C_InvalidNumber C_Row C_TooMany C_InvalidOperation)) K (scB K) kit_t = true)
    (h5 : exB K ((cal C_InvalidRow C_InvalidNumber C_Row C_TooMany C_InvalidOperation)) kix_t kix_c kix_f = true)
    (htu : tbUniq (tbl P_Lmade_right P_Lnumbers_right P_Lrest_right) = true)
    (htb : tabB K ts [(cc_Lmade_right, P_Lmade_right), (cc_Lnumbers_right, P_Lnumbers_right), (cc_Lrest_right, P_Lrest_right)] = true)
    : ∃ (G : Glo) (A : Ad) (cs : List (Addr × Addr)), G.K = K ∧ (∀ p ∈ G.tb, p.1 ∈ cs.map (·.2)) ∧ tabB K ts cs = true ∧ ∀ base : Heap, (∀ p ∈ cs, LamX.TabB base mg p.1 p.2) → TT pw G mg base A := by
  have ko : KitOk ⟨K, (cal C_InvalidRow C_InvalidNumber C_Row C_TooMany C_InvalidOperation), (tbl P_Lmade_right P_Lnumbers_right P_Lrest_right)⟩ kit := kitOk_of (G := ⟨K, (cal C_InvalidRow C_InvalidNumber C_Row C_TooMany C_InvalidOperation), (tbl P_Lmade_right P_Lnumbers_right P_Lrest_right)⟩) (ts := kit_t) (cs := kit_c) (f := kit_f) (p := scB K) bt_caL h1 (by kernel_rfl) h4 (fun _ z => scB_ok z)
  have kx : KixOk ⟨K, (cal C_InvalidRow C_InvalidNumber C_Row C_TooMany C_InvalidOperation), (tbl P_Lmade_right P_Lnumbers_right P_Lrest_right)⟩ kix := kixOk_of (G := ⟨K, (cal C_InvalidRow C_InvalidNumber C_Row C_TooMany C_InvalidOperation), (tbl P_Lmade_right P_Lnumbers_right P_Lrest_right)⟩) (ts := kix_t) (cs := kix_c) (f := kix_f) h2 (by kernel_rfl) h3
  exact ⟨⟨K, (cal C_InvalidRow C_InvalidNumber C_Row C_TooMany C_InvalidOperation), (tbl P_Lmade_right P_Lnumbers_right P_Lrest_right)⟩, { a_is_integer := f_is_integer, fd_is_integer := _, a_is_power := f_is_power, fd_is_power := _, a_are_terms := f_are_terms, fd_are_terms := _, a_Row_getitem := f_Row_getitem, fd_Row_getitem := _, a_sorted_terms := f_sorted_terms, fd_sorted_terms := _, a_Row_init := f_Row_init, fd_Row_init := _, a_product_terms := f_product_terms, fd_product_terms := _, a_operand_terms := f_operand_terms, fd_operand_terms := _, a_Row_mul := f_Row_mul, fd_Row_mul := _, a_summed_terms := f_summed_terms, fd_summed_terms := _, a_Row_add := f_Row_add, fd_Row_add := _, a_Row_neg := f_Row_neg, fd_Row_neg := _, a_Row_sub := f_Row_sub, fd_Row_sub := _, a_Row_eq := f_Row_eq, fd_Row_eq := _, a_wall := f_wall, fd_wall := _, a_power_text := f_power_text, fd_power_text := _, a_term_text := f_term_text, fd_term_text := _, a_terms_text := f_terms_text, fd_terms_text := _, a_quotient_terms := f_quotient_terms, fd_quotient_terms := _, a_require_row := f_require_row, fd_require_row := _, a_Ldice := f_Ldice, fd_Ldice := _, a_Lroll := f_Lroll, fd_Lroll := _, a_Row_len := f_Row_len, fd_Row_len := _, a_Lpick := f_Lpick, fd_Lpick := _, a_Lword := f_Lword, fd_Lword := _, a_Row_none := f_Row_none, fd_Row_none := _, a_Row_power := f_Row_power, fd_Row_power := _, cc_Lmade_right := cc_Lmade_right, pt_Lmade_right := P_Lmade_right, a_Lmade_right := f_Lmade_right, fd_Lmade_right := _, a_Row_shifted := f_Row_shifted, fd_Row_shifted := _, a_Row_spread := f_Row_spread, fd_Row_spread := _, a_Row_at := f_Row_at, fd_Row_at := _, a_Row_turned := f_Row_turned, fd_Row_turned := _, a_Row_raised := f_Row_raised, fd_Row_raised := _, cc_Lnumbers_right := cc_Lnumbers_right, pt_Lnumbers_right := P_Lnumbers_right, a_Lnumbers_right := f_Lnumbers_right, fd_Lnumbers_right := _, a_Row_quotient := f_Row_quotient, fd_Row_quotient := _, a_Row_low := f_Row_low, fd_Row_low := _, cc_Lrest_right := cc_Lrest_right, pt_Lrest_right := P_Lrest_right, a_Lrest_right := f_Lrest_right, fd_Lrest_right := _, a_law := f_law, fd_law := _, c_InvalidRow := C_InvalidRow, c_InvalidNumber := C_InvalidNumber, c_Row := C_Row, c_TooMany := C_TooMany, c_InvalidOperation := C_InvalidOperation, p_Row_own_terms := P_Row_own_terms, p_Row_turned := pp_Row_turned, p_Row_low := pp_Row_low }, [(cc_Lmade_right, P_Lmade_right), (cc_Lnumbers_right, P_Lnumbers_right), (cc_Lrest_right, P_Lrest_right)], rfl, (fun p hp => by simp only [tbl, List.mem_cons, List.not_mem_nil, or_false] at hp; rcases hp with rfl | rfl | rfl <;> simp), htb, fun base hB => { ko := ko, kx := kx, xm := exOk_of (G := ⟨K, (cal C_InvalidRow C_InvalidNumber C_Row C_TooMany C_InvalidOperation), (tbl P_Lmade_right P_Lnumbers_right P_Lrest_right)⟩) h5, g_is_integer := PySem.W.mg_of X Gn a_is_integer, f_is_integer := fun_mk (st := s_is_integer) l_is_integer k_is_integer q_is_integer, g_is_power := PySem.W.mg_of X Gn a_is_power, f_is_power := fun_mk (st := s_is_power) l_is_power k_is_power q_is_power, g_are_terms := PySem.W.mg_of X Gn a_are_terms, f_are_terms := fun_mk (st := s_are_terms) l_are_terms k_are_terms q_are_terms, f_Row_getitem := fun_mk (st := s_Row_getitem) l_Row_getitem k_Row_getitem q_Row_getitem, g_sorted_terms := PySem.W.mg_of X Gn a_sorted_terms, f_sorted_terms := fun_mk (st := s_sorted_terms) l_sorted_terms k_sorted_terms q_sorted_terms, f_Row_init := funD_kw (st := s_Row_init) l_Row_init k_Row_init q_Row_init (kwd_one z_Row_init y_Row_init), g_product_terms := PySem.W.mg_of X Gn a_product_terms, f_product_terms := fun_mk (st := s_product_terms) l_product_terms k_product_terms q_product_terms, g_operand_terms := PySem.W.mg_of X Gn a_operand_terms, f_operand_terms := fun_mk (st := s_operand_terms) l_operand_terms k_operand_terms q_operand_terms, f_Row_mul := fun_mk (st := s_Row_mul) l_Row_mul k_Row_mul q_Row_mul, g_summed_terms := PySem.W.mg_of X Gn a_summed_terms, f_summed_terms := fun_mk (st := s_summed_terms) l_summed_terms k_summed_terms q_summed_terms, f_Row_add := fun_mk (st := s_Row_add) l_Row_add k_Row_add q_Row_add, f_Row_neg := fun_mk (st := s_Row_neg) l_Row_neg k_Row_neg q_Row_neg, f_Row_sub := fun_mk (st := s_Row_sub) l_Row_sub k_Row_sub q_Row_sub, f_Row_eq := fun_mk (st := s_Row_eq) l_Row_eq k_Row_eq q_Row_eq, g_wall := PySem.W.mg_of X Gn a_wall, f_wall := fun_mk (st := s_wall) l_wall k_wall q_wall, g_power_text := PySem.W.mg_of X Gn a_power_text, f_power_text := fun_mk (st := s_power_text) l_power_text k_power_text q_power_text, g_term_text := PySem.W.mg_of X Gn a_term_text, f_term_text := fun_mk (st := s_term_text) l_term_text k_term_text q_term_text, g_terms_text := PySem.W.mg_of X Gn a_terms_text, f_terms_text := fun_mk (st := s_terms_text) l_terms_text k_terms_text q_terms_text, g_quotient_terms := PySem.W.mg_of X Gn a_quotient_terms, f_quotient_terms := fun_mk (st := s_quotient_terms) l_quotient_terms k_quotient_terms q_quotient_terms, g_require_row := PySem.W.mg_of X Gn a_require_row, f_require_row := fun_mk (st := s_require_row) l_require_row k_require_row q_require_row, g_Ldice := PySem.W.mg_of X Gn a_Ldice, f_Ldice := fun_mk (st := s_Ldice) l_Ldice k_Ldice q_Ldice, g_Lroll := PySem.W.mg_of X Gn a_Lroll, f_Lroll := fun_mk (st := s_Lroll) l_Lroll k_Lroll q_Lroll, f_Row_len := fun_mk (st := s_Row_len) l_Row_len k_Row_len q_Row_len, g_Lpick := PySem.W.mg_of X Gn a_Lpick, f_Lpick := fun_mk (st := s_Lpick) l_Lpick k_Lpick q_Lpick, g_Lword := PySem.W.mg_of X Gn a_Lword, f_Lword := fun_mk (st := s_Lword) l_Lword k_Lword q_Lword, f_Row_none := fun_mk (st := s_Row_none) l_Row_none k_Row_none q_Row_none, f_Row_power := funD_kw (st := s_Row_power) l_Row_power k_Row_power q_Row_power (kwd_one z_Row_power y_Row_power), g_Lmade_right := PySem.W.mg_of X Gn a_Lmade_right, f_Lmade_right := fun_mk (st := s_Lmade_right) l_Lmade_right k_Lmade_right q_Lmade_right, f_Row_shifted := fun_mk (st := s_Row_shifted) l_Row_shifted k_Row_shifted q_Row_shifted, f_Row_spread := fun_mk (st := s_Row_spread) l_Row_spread k_Row_spread q_Row_spread, f_Row_at := fun_mk (st := s_Row_at) l_Row_at k_Row_at q_Row_at, f_Row_turned := fun_mk (st := s_Row_turned) l_Row_turned k_Row_turned q_Row_turned, f_Row_raised := fun_mk (st := s_Row_raised) l_Row_raised k_Row_raised q_Row_raised, g_Lnumbers_right := PySem.W.mg_of X Gn a_Lnumbers_right, f_Lnumbers_right := fun_mk (st := s_Lnumbers_right) l_Lnumbers_right k_Lnumbers_right q_Lnumbers_right, f_Row_quotient := fun_mk (st := s_Row_quotient) l_Row_quotient k_Row_quotient q_Row_quotient, f_Row_low := fun_mk (st := s_Row_low) l_Row_low k_Row_low q_Row_low, g_Lrest_right := PySem.W.mg_of X Gn a_Lrest_right, f_Lrest_right := fun_mk (st := s_Lrest_right) l_Lrest_right k_Lrest_right q_Lrest_right, g_law := PySem.W.mg_of X Gn a_law, f_law := fun_mk (st := s_law) l_law k_law q_law, n_isinstance := PySem.W.mg_none_of X Gn n_isinstance, n_dict := PySem.W.mg_none_of X Gn n_dict, n_all := PySem.W.mg_none_of X Gn n_all, n_int := PySem.W.mg_none_of X Gn n_int, n_bool := PySem.W.mg_none_of X Gn n_bool, n_abs := PySem.W.mg_none_of X Gn n_abs, n_sorted := PySem.W.mg_none_of X Gn n_sorted, n_super := PySem.W.mg_none_of X Gn n_super, n_any := PySem.W.mg_none_of X Gn n_any, n_max := PySem.W.mg_none_of X Gn n_max, n_min := PySem.W.mg_none_of X Gn n_min, n_len := PySem.W.mg_none_of X Gn n_len, n_repr := PySem.W.mg_none_of X Gn n_repr, n_sum := PySem.W.mg_none_of X Gn n_sum, n_list := PySem.W.mg_none_of X Gn n_list, n_range := PySem.W.mg_none_of X Gn n_range, c_BOUND := glob_int X Gn v_BOUND, c_MAX_POWER := glob_int X Gn v_MAX_POWER, c_LETTER := glob_str X Gn v_LETTER w_LETTER, c_MAX_RAISED := glob_int X Gn v_MAX_RAISED, g_InvalidRow := PySem.W.mg_of X Gn a_InvalidRow, ca_InvalidRow := by kernel_rfl, g_InvalidNumber := PySem.W.mg_of X Gn a_InvalidNumber, ca_InvalidNumber := by kernel_rfl, g_Row := PySem.W.mg_of X Gn a_Row, ca_Row := by kernel_rfl, g_TooMany := PySem.W.mg_of X Gn a_TooMany, ca_TooMany := by kernel_rfl, g_InvalidOperation := PySem.W.mg_of X Gn a_InvalidOperation, ca_InvalidOperation := by kernel_rfl, sc_Row := scB_ok sc_Row, mk_Row := mkB_ok mk_Row, s1_Row_own_terms := s1B_ok s1_Row_own_terms, me_Row_getitem := (meB_ok me_Row_getitem).1, fi_Row_getitem := (meB_ok me_Row_getitem).2, me_Row_neg := (meB_ok me_Row_neg).1, fi_Row_neg := (meB_ok me_Row_neg).2, me_Row_len := (meB_ok me_Row_len).1, fi_Row_len := (meB_ok me_Row_len).2, me_Row_shifted := (meB_ok me_Row_shifted).1, fi_Row_shifted := (meB_ok me_Row_shifted).2, me_Row_spread := (meB_ok me_Row_spread).1, fi_Row_spread := (meB_ok me_Row_spread).2, me_Row_at := (meB_ok me_Row_at).1, fi_Row_at := (meB_ok me_Row_at).2, me_Row_raised := (meB_ok me_Row_raised).1, fi_Row_raised := (meB_ok me_Row_raised).2, me_Row_quotient := (meB_ok me_Row_quotient).1, fi_Row_quotient := (meB_ok me_Row_quotient).2, pr_Row_turned := prB_ok pr_Row_turned, pr_Row_low := prB_ok pr_Row_low, cm_Row_none := cmB_ok (by kernel_rfl) a_Row_none cm_Row_none, cm_Row_power := cmB_ok (by kernel_rfl) a_Row_power cm_Row_power, bo_Row_mul := boB_ok bo_Row_mul, bo_Row_sub := boB_ok bo_Row_sub, bo_Row_add := boB_ok bo_Row_add, eq_Row := eqB_ok eq_Row, kp_InvalidRow := kpB_ok p_InvalidRow, kx_InvalidNumber := kxC_of kxs_InvalidNumber kxt_Index l_InvalidNumber k_InvalidNumber m_InvalidNumber o_InvalidNumber u_InvalidNumber w_InvalidNumber (by decide +kernel) x_InvalidNumber, kx_TooMany := kxC_of kxs_TooMany kxt_Overflow l_TooMany k_TooMany m_TooMany o_TooMany u_TooMany w_TooMany (by decide +kernel) x_TooMany, kp_InvalidOperation := kpB_ok p_InvalidOperation, cd_Lmade_right := rfl, tq_Lmade_right := List.mem_cons_self, tu_Lmade_right := tbUniq_ok htu List.mem_cons_self, tb_Lmade_right := hB _ List.mem_cons_self, cd_Lnumbers_right := rfl, tq_Lnumbers_right := (List.mem_cons_of_mem _ List.mem_cons_self), tu_Lnumbers_right := tbUniq_ok htu (List.mem_cons_of_mem _ List.mem_cons_self), tb_Lnumbers_right := hB _ (List.mem_cons_of_mem _ List.mem_cons_self), cd_Lrest_right := rfl, tq_Lrest_right := (List.mem_cons_of_mem _ (List.mem_cons_of_mem _ List.mem_cons_self)), tu_Lrest_right := tbUniq_ok htu (List.mem_cons_of_mem _ (List.mem_cons_of_mem _ List.mem_cons_self)), tb_Lrest_right := hB _ (List.mem_cons_of_mem _ (List.mem_cons_of_mem _ List.mem_cons_self)) }⟩
end K04

namespace K04
open PySem PySem.Spec PyProof.Rows L2 Y
def SP : Sto := ⟨6, [.lst [.bl false, .bl false, .bl false], .dct 0 [(.int (-2), .int 1), (.int 0, .int (-3)), (.int 4, .int 2)], .lst [.int (-2), .int 0, .int 4], .lst [.bl true, .bl true, .bl true], .ins 15 [some (.loc 4)], .dct 0 [(.int (-2), .int 1), (.int 0, .int (-3)), (.int 4, .int 2)]]⟩
def SQ : Sto := SP.new .dice
abbrev sdP (ns : List Int) : SD := [some (.scr ns), some (.loc 1), none, none, none]
abbrev sdQ (ns : List Int) : SD := [some (.scr ns), some (.loc 1), none, some (.loc 6), none]
theorem bP : boundB SP = true := by decide +kernel
theorem bQ : boundB SQ = true := by decide +kernel
theorem sQ (ns : List Int) : sdIn (sdQ ns) (sdQ ns) SQ.n := ⟨rfl, rfl, rfl, rfl, rfl, rfl, trivial⟩
theorem e0 (ns : List Int) : endsR (fun b S1 => !b && keepsB SQ S1) (t_law0 (sdQ ns) SQ) = true := by kernel_rfl
theorem e1 (ns : List Int) : endsR (fun b S1 => !b && keepsB SQ S1) (t_law1 (sdQ ns) SQ) = true := by kernel_rfl
theorem e2 (ns : List Int) : endsR (fun b S1 => !b && keepsB SQ S1) (t_law2 (sdQ ns) SQ) = true := by kernel_rfl
theorem e6 (ns : List Int) : endsT (b_law3 (sdP ns) SP) = true := by kernel_rfl
theorem kP : keepsB SP SQ = true := by decide +kernel
theorem the_law {P : Program} {w : World} {mg : Str → Option Value} {base : Heap} {G : Glo} {A : Ad} (T : TT P G mg base A) : FnT G P w mg base 17 63 A.a_law :=
  menu_law T sdP sdQ SP SQ 4 4
    (fun ns => .ofn (sd := sdP ns) (S := SP) rfl Weak.refl)
    (fun ns => let ⟨j, e, h⟩ := len_range 4 (by decide) ns.length; ⟨j, by rw [← e]; rfl, h⟩) (by decide)
    (fun ns k hk => AllS.ofn (sSet_ok (i := 3) ((mCall_ok (mCons_ok rfl (mCons_ok rfl mNil_ok))).trans (dice_ok (by omega) SP))) (weak_keeps bQ (by decide +kernel) ⟨rfl, rfl, rfl, rfl, rfl, rfl, trivial⟩))
    (fun ns => rfl) (by decide)
    (fun ns k => weak_keeps bQ (by decide +kernel) ⟨rfl, rfl, rfl, rfl, rfl, rfl, trivial⟩)
    (fun ns => never_mir bQ (sQ ns) (e0 ns)) (fun ns => never_mir bQ (sQ ns) (e1 ns)) (fun ns => never_mir bQ (sQ ns) (e2 ns))
    (fun ns => weak_keeps bP kP ⟨rfl, rfl, rfl, rfl, trivial⟩)
    (fun ns => allS_endsT (e6 ns))
end K04

open PySem PySem.W PyProof.Rows
theorem K04.fin {K : PySem.W.Frag} {w : World} {mg : PySem.Str → Option Value} {fa : Addr} {h : Heap} {ts : List Addr} (KX : K.In h) (KT : ∀ P ∈ ts, h.get? P = some (PySem.W.tabObj #[])) (am : ∃ (G : Y.Glo) (A : K04.Ad) (cs : List (Addr × Addr)), G.K = K ∧ (∀ p ∈ G.tb, p.1 ∈ cs.map (·.2)) ∧ Y.tabB K ts cs = true ∧ ∀ base : Heap, (∀ p ∈ cs, LamX.TabB base mg p.1 p.2) → K04.TT K04.pw G mg base A) (hmg : mg "law" = some (.ref fa)) :
    ∃ (G : Y.Glo) (cs : List (Addr × Addr)), G.K.In h ∧ Y.TabH G.K h cs ∧ (∀ p ∈ G.tb, p.1 ∈ cs.map (·.2)) ∧ ∀ base : Heap, G.K.In base → base.Ns mainGlobals mg → (∀ p ∈ cs, LamX.TabB base mg p.1 p.2) → Y.FnT G K04.pw w mg base 17 63 fa := by
  obtain ⟨G, A, cs, hK, h1, h2, T⟩ := am
  refine ⟨G, cs, by rw [hK]; exact KX, by rw [hK]; exact Y.tabH_of KX KT h2, h1, fun base _ _ hB => ?_⟩
  have e := (T base hB).g_law
  rw [hmg] at e
  cases e
  exact K04.the_law (T base hB)
set_option maxRecDepth 100000 in
set_option maxHeartbeats 0 in
theorem PySem.Challenge.cw_crosswebs_k04_errors_of_rows_holds : PySem.Challenge.rw_crosswebs_k04_errors_of_rows.Holds := by
  w_on; o_law; k_head; (case hw => w_witness2)
  k_fill
  refine Y.walkG (l := PySem.Challenge.rw_crosswebs_k04_errors_of_rows) (n := 63) (k := 17) rfl (by decide) rfl ⟨rfl, by decide, by decide⟩ ?F
  case F =>
    intro w mg fa h YY Gn XX hmg
    refine K04.fin (PySem.W.km_in_of YY) (PySem.W.km_tabs_of YY) ?am hmg
    refine' K04.all_mk (PySem.W.km_in_of YY) Gn ?a_InvalidOperation ?a_TooMany ?a_Row ?a_InvalidNumber ?a_InvalidRow ?a_is_integer ?l_is_integer ?k_is_integer ?q_is_integer ?a_is_power ?l_is_power ?k_is_power ?q_is_power ?a_are_terms ?l_are_terms ?k_are_terms ?q_are_terms ?a_Row_getitem ?l_Row_getitem ?k_Row_getitem ?q_Row_getitem ?a_sorted_terms ?l_sorted_terms ?k_sorted_terms ?q_sorted_terms ?a_Row_init ?l_Row_init ?k_Row_init ?q_Row_init ?z_Row_init ?y_Row_init ?a_product_terms ?l_product_terms ?k_product_terms ?q_product_terms ?a_operand_terms ?l_operand_terms ?k_operand_terms ?q_operand_terms ?a_Row_mul ?l_Row_mul ?k_Row_mul ?q_Row_mul ?a_summed_terms ?l_summed_terms ?k_summed_terms ?q_summed_terms ?a_Row_add ?l_Row_add ?k_Row_add ?q_Row_add ?a_Row_neg ?l_Row_neg ?k_Row_neg ?q_Row_neg ?a_Row_sub ?l_Row_sub ?k_Row_sub ?q_Row_sub ?a_Row_eq ?l_Row_eq ?k_Row_eq ?q_Row_eq ?a_wall ?l_wall ?k_wall ?q_wall ?a_power_text ?l_power_text ?k_power_text ?q_power_text ?a_term_text ?l_term_text ?k_term_text ?q_term_text ?a_terms_text ?l_terms_text ?k_terms_text ?q_terms_text ?a_quotient_terms ?l_quotient_terms ?k_quotient_terms ?q_quotient_terms ?a_require_row ?l_require_row ?k_require_row ?q_require_row ?a_Ldice ?l_Ldice ?k_Ldice ?q_Ldice ?a_Lroll ?l_Lroll ?k_Lroll ?q_Lroll ?a_Row_len ?l_Row_len ?k_Row_len ?q_Row_len ?a_Lpick ?l_Lpick ?k_Lpick ?q_Lpick ?a_Lword ?l_Lword ?k_Lword ?q_Lword ?a_Row_none ?b_Row_none ?l_Row_none ?k_Row_none ?q_Row_none ?a_Row_power ?b_Row_power ?l_Row_power ?k_Row_power ?q_Row_power ?z_Row_power ?y_Row_power ?a_Lmade_right ?l_Lmade_right ?k_Lmade_right ?q_Lmade_right ?kc_Lmade_right ?kt_Lmade_right ?a_Row_shifted ?l_Row_shifted ?k_Row_shifted ?q_Row_shifted ?a_Row_spread ?l_Row_spread ?k_Row_spread ?q_Row_spread ?a_Row_at ?l_Row_at ?k_Row_at ?q_Row_at ?a_Row_turned ?b_Row_turned ?l_Row_turned ?k_Row_turned ?q_Row_turned ?a_Row_raised ?l_Row_raised ?k_Row_raised ?q_Row_raised ?a_Lnumbers_right ?l_Lnumbers_right ?k_Lnumbers_right ?q_Lnumbers_right ?kc_Lnumbers_right ?kt_Lnumbers_right ?a_Row_quotient ?l_Row_quotient ?k_Row_quotient ?q_Row_quotient ?a_Row_low ?b_Row_low ?l_Row_low ?k_Row_low ?q_Row_low ?a_Lrest_right ?l_Lrest_right ?k_Lrest_right ?q_Lrest_right ?kc_Lrest_right ?kt_Lrest_right ?a_law ?l_law ?k_law ?q_law ?n_isinstance ?n_dict ?n_all ?n_int ?n_bool ?n_abs ?n_sorted ?n_super ?n_any ?n_max ?n_min ?n_len ?n_repr ?n_sum ?n_list ?n_range ?v_BOUND ?v_MAX_POWER ?v_LETTER ?w_LETTER ?v_MAX_RAISED ?sc_Row ?mk_Row ?p_Row_own_terms ?s1_Row_own_terms ?me_Row_getitem ?me_Row_neg ?me_Row_len ?me_Row_shifted ?me_Row_spread ?me_Row_at ?me_Row_raised ?me_Row_quotient ?pr_Row_turned ?pr_Row_low ?cm_Row_none ?cm_Row_power ?bo_Row_mul ?bo_Row_sub ?bo_Row_add ?eq_Row ?p_InvalidRow ?i_InvalidNumber ?l_InvalidNumber ?k_InvalidNumber ?m_InvalidNumber ?o_InvalidNumber ?u_InvalidNumber ?w_InvalidNumber ?x_InvalidNumber ?i_TooMany ?l_TooMany ?k_TooMany ?m_TooMany ?o_TooMany ?u_TooMany ?w_TooMany ?x_TooMany ?p_InvalidOperation ?h1 ?h2 ?h3 ?h4 ?h5 ?htu ?htb
    (case a_InvalidOperation => k_is)
    (case a_TooMany => k_is)
    (case a_Row => k_is)
    (case a_InvalidNumber => k_is)
    (case a_InvalidRow => k_is)
    (case a_is_integer => k_is)
    (case l_is_integer => k_is)
    (case k_is_integer => k_is)
    (case q_is_integer => k_is)
    (case a_is_power => k_is)
    (case l_is_power => k_is)
    (case k_is_power => k_is)
    (case q_is_power => k_is)
    (case a_are_terms => k_is)
    (case l_are_terms => k_is)
    (case k_are_terms => k_is)
    (case q_are_terms => k_is)
    (case a_Row_getitem => k_is)
    (case l_Row_getitem => k_is)
    (case k_Row_getitem => k_is)
    (case q_Row_getitem => k_is)
    (case a_sorted_terms => k_is)
    (case l_sorted_terms => k_is)
    (case k_sorted_terms => k_is)
    (case q_sorted_terms => k_is)
    (case a_Row_init => k_is)
    (case l_Row_init => k_is)
    (case k_Row_init => k_is)
    (case q_Row_init => k_is)
    (case z_Row_init => k_is)
    (case y_Row_init => first | rfl | exact ⟨_, rfl⟩)
    (case a_product_terms => k_is)
    (case l_product_terms => k_is)
    (case k_product_terms => k_is)
    (case q_product_terms => k_is)
    (case a_operand_terms => k_is)
    (case l_operand_terms => k_is)
    (case k_operand_terms => k_is)
    (case q_operand_terms => k_is)
    (case a_Row_mul => k_is)
    (case l_Row_mul => k_is)
    (case k_Row_mul => k_is)
    (case q_Row_mul => k_is)
    (case a_summed_terms => k_is)
    (case l_summed_terms => k_is)
    (case k_summed_terms => k_is)
    (case q_summed_terms => k_is)
    (case a_Row_add => k_is)
    (case l_Row_add => k_is)
    (case k_Row_add => k_is)
    (case q_Row_add => k_is)
    (case a_Row_neg => k_is)
    (case l_Row_neg => k_is)
    (case k_Row_neg => k_is)
    (case q_Row_neg => k_is)
    (case a_Row_sub => k_is)
    (case l_Row_sub => k_is)
    (case k_Row_sub => k_is)
    (case q_Row_sub => k_is)
    (case a_Row_eq => k_is)
    (case l_Row_eq => k_is)
    (case k_Row_eq => k_is)
    (case q_Row_eq => k_is)
    (case a_wall => k_is)
    (case l_wall => k_is)
    (case k_wall => k_is)
    (case q_wall => k_is)
    (case a_power_text => k_is)
    (case l_power_text => k_is)
    (case k_power_text => k_is)
    (case q_power_text => k_is)
    (case a_term_text => k_is)
    (case l_term_text => k_is)
    (case k_term_text => k_is)
    (case q_term_text => k_is)
    (case a_terms_text => k_is)
    (case l_terms_text => k_is)
    (case k_terms_text => k_is)
    (case q_terms_text => k_is)
    (case a_quotient_terms => k_is)
    (case l_quotient_terms => k_is)
    (case k_quotient_terms => k_is)
    (case q_quotient_terms => k_is)
    (case a_require_row => k_is)
    (case l_require_row => k_is)
    (case k_require_row => k_is)
    (case q_require_row => k_is)
    (case a_Ldice => k_is)
    (case l_Ldice => k_is)
    (case k_Ldice => k_is)
    (case q_Ldice => k_is)
    (case a_Lroll => k_is)
    (case l_Lroll => k_is)
    (case k_Lroll => k_is)
    (case q_Lroll => k_is)
    (case a_Row_len => k_is)
    (case l_Row_len => k_is)
    (case k_Row_len => k_is)
    (case q_Row_len => k_is)
    (case a_Lpick => k_is)
    (case l_Lpick => k_is)
    (case k_Lpick => k_is)
    (case q_Lpick => k_is)
    (case a_Lword => k_is)
    (case l_Lword => k_is)
    (case k_Lword => k_is)
    (case q_Lword => k_is)
    (case a_Row_none => k_is)
    (case b_Row_none => k_is)
    (case l_Row_none => k_is)
    (case k_Row_none => k_is)
    (case q_Row_none => k_is)
    (case a_Row_power => k_is)
    (case b_Row_power => k_is)
    (case l_Row_power => k_is)
    (case k_Row_power => k_is)
    (case q_Row_power => k_is)
    (case z_Row_power => k_is)
    (case y_Row_power => first | rfl | exact ⟨_, rfl⟩)
    (case a_Lmade_right => k_is)
    (case l_Lmade_right => k_is)
    (case k_Lmade_right => k_is)
    (case q_Lmade_right => k_is)
    (case kc_Lmade_right => k_is)
    (case kt_Lmade_right => rfl)
    (case a_Row_shifted => k_is)
    (case l_Row_shifted => k_is)
    (case k_Row_shifted => k_is)
    (case q_Row_shifted => k_is)
    (case a_Row_spread => k_is)
    (case l_Row_spread => k_is)
    (case k_Row_spread => k_is)
    (case q_Row_spread => k_is)
    (case a_Row_at => k_is)
    (case l_Row_at => k_is)
    (case k_Row_at => k_is)
    (case q_Row_at => k_is)
    (case a_Row_turned => k_is)
    (case b_Row_turned => k_is)
    (case l_Row_turned => k_is)
    (case k_Row_turned => k_is)
    (case q_Row_turned => k_is)
    (case a_Row_raised => k_is)
    (case l_Row_raised => k_is)
    (case k_Row_raised => k_is)
    (case q_Row_raised => k_is)
    (case a_Lnumbers_right => k_is)
    (case l_Lnumbers_right => k_is)
    (case k_Lnumbers_right => k_is)
    (case q_Lnumbers_right => k_is)
    (case kc_Lnumbers_right => k_is)
    (case kt_Lnumbers_right => rfl)
    (case a_Row_quotient => k_is)
    (case l_Row_quotient => k_is)
    (case k_Row_quotient => k_is)
    (case q_Row_quotient => k_is)
    (case a_Row_low => k_is)
    (case b_Row_low => k_is)
    (case l_Row_low => k_is)
    (case k_Row_low => k_is)
    (case q_Row_low => k_is)
    (case a_Lrest_right => k_is)
    (case l_Lrest_right => k_is)
    (case k_Lrest_right => k_is)
    (case q_Lrest_right => k_is)
    (case kc_Lrest_right => k_is)
    (case kt_Lrest_right => rfl)
    (case a_law => k_is)
    (case l_law => k_is)
    (case k_law => k_is)
    (case q_law => k_is)
    (case n_isinstance => k_is)
    (case n_dict => k_is)
    (case n_all => k_is)
    (case n_int => k_is)
    (case n_bool => k_is)
    (case n_abs => k_is)
    (case n_sorted => k_is)
    (case n_super => k_is)
    (case n_any => k_is)
    (case n_max => k_is)
    (case n_min => k_is)
    (case n_len => k_is)
    (case n_repr => k_is)
    (case n_sum => k_is)
    (case n_list => k_is)
    (case n_range => k_is)
    (case v_BOUND => k_is)
    (case v_MAX_POWER => k_is)
    (case v_LETTER => k_is)
    (case w_LETTER => decide +kernel)
    (case v_MAX_RAISED => k_is)
    (case sc_Row => kernel_rfl)
    (case mk_Row => kernel_rfl)
    (case p_Row_own_terms => k_is)
    (case s1_Row_own_terms => kernel_rfl)
    (case me_Row_getitem => kernel_rfl)
    (case me_Row_neg => kernel_rfl)
    (case me_Row_len => kernel_rfl)
    (case me_Row_shifted => kernel_rfl)
    (case me_Row_spread => kernel_rfl)
    (case me_Row_at => kernel_rfl)
    (case me_Row_raised => kernel_rfl)
    (case me_Row_quotient => kernel_rfl)
    (case pr_Row_turned => kernel_rfl)
    (case pr_Row_low => kernel_rfl)
    (case cm_Row_none => kernel_rfl)
    (case cm_Row_power => kernel_rfl)
    (case bo_Row_mul => kernel_rfl)
    (case bo_Row_sub => kernel_rfl)
    (case bo_Row_add => kernel_rfl)
    (case eq_Row => kernel_rfl)
    (case p_InvalidRow => kernel_rfl)
    (case i_InvalidNumber => k_is)
    (case l_InvalidNumber => k_is)
    (case k_InvalidNumber => k_is)
    (case m_InvalidNumber => k_is)
    (case o_InvalidNumber => rfl)
    (case u_InvalidNumber => decide +kernel)
    (case w_InvalidNumber => k_is)
    (case x_InvalidNumber => kernel_rfl)
    (case i_TooMany => k_is)
    (case l_TooMany => k_is)
    (case k_TooMany => k_is)
    (case m_TooMany => k_is)
    (case o_TooMany => rfl)
    (case u_TooMany => decide +kernel)
    (case w_TooMany => k_is)
    (case x_TooMany => kernel_rfl)
    (case p_InvalidOperation => kernel_rfl)
    (case h1 => kernel_rfl)
    (case h2 => kernel_rfl)
    (case h3 => kernel_rfl)
    (case h4 => kernel_rfl)
    (case h5 => kernel_rfl)
    (case htu => decide +kernel)
    (case htb => kernel_rfl)

