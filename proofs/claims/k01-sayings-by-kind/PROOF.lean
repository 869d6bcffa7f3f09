import PyProof.Rows.All
import Wide.All
import OpenK.AllK
import Wide.FinOn
import HandS.ForMost
import HandS.More
import HandS.IsInst
import HandS.Flow
import HandS.TupAny
import HandS.TupMul
import HandS.NoneIn
import HandS.Strs
import KE.KDictPairs
import HandS.Deep
import HandS.Style
import KE.SortData
import KE.DataEq
import HandS.Zip
import HandS.DictComp
import KE.GoesEnumKw
import HandS.SortKw
import KE.KItemsList
import HandS.Set
import HandS.SetBool
import PyProof.Rows.SetFrom
import PySem.Challenge.RW_mustmays_k01_sayings_by_kind
set_option Elab.async false
set_option linter.all false
set_option autoImplicit false
set_option maxRecDepth 100000
set_option maxHeartbeats 4000000
/-! DnT: tuples that are known to have no dict of their own -/
namespace Dn
open PySem PySem.Spec PyProof.Rows L2
def TupN (K : PySem.W.Frag) (H : Hp) (a : Addr) (xs : List V) : Prop :=
  (∃ o : Obj, o.dict = none ∧ H a = some (.frz o (.tup xs))) ∨
    ∃ (o : Obj) (its : Array Value) (n : Nat), o.dict = none ∧ K.lookup a = some o ∧ o.cls = .type "tuple" ∧ o.data = .seq its n ∧ its.size ≤ sizeLine ∧ Vals xs its.toList
theorem TupN.sq {K : PySem.W.Frag} {H : Hp} {a : Addr} {xs : List V} (h : TupN K H a xs) : SqT K H a xs := by
  rcases h with ⟨o, _, h⟩ | ⟨o, its, n, _, h⟩
  · exact .inl (.inr ⟨o, h⟩)
  · exact .inr ⟨o, its, n, h⟩
theorem TupN.of {K : PySem.W.Frag} {H : Hp} {a : Addr} {xs : List V} {o : Obj} (d : o.dict = none) : TupN K (upd H a (.frz o (.tup xs))) a xs := .inl ⟨o, d, upd_same⟩
section
variable {X : Cx} {pins : List (Addr × Obj)} {σ : L2.St} {H : Hp} {s : Shared} {a : Addr} {xs : List V}
theorem TupN.plain (I : L2.Inv X pins σ H s) (h : TupN X.K H a xs) : ∃ its : List Value, Vals xs its ∧ PlainSeq "tuple" s.heap a its.toArray ∧ xs.length ≤ sizeLine := by
  rcases h with ⟨o, d, h⟩ | ⟨o, its, n, d, hk, hc, hs, hz, r⟩
  · have ok := I.hok a _ h
    obtain ⟨g, z, its, r, o', g', hc, n, hs⟩ := ok
    rw [g] at g'
    cases g'
    exact ⟨its, r, ⟨o, n, g, hc, d, hs⟩, z⟩
  · refine ⟨its.toList, r, ⟨o, n, I.kIn a o hk, hc, d, by simpa using hs⟩, ?_⟩
    have := r.length
    simp only [Array.length_toList] at this
    omega
/-- a tuple is laid -/
theorem lay_tup {us : List Value} {k : Nat} {hp : Heap} {Q : VK} (I : L2.Inv X pins σ H { s with heap := hp }) (r : Vals xs us) (z : xs.length ≤ sizeLine) (q : ∀ p o, H p = none → o.dict = none → Q (.ref p) (upd H p (.frz o (.tup xs)))) :
    EP X pins σ Q (.ref hp.objs.size) { s with heap := hp.push { cls := .type "tuple", data := .seq us.toArray k } } := by
  have fresh : H hp.objs.size = none := I.hok.fresh (Nat.le_refl _)
  have new : ObjOk X.prog X.w (upd H hp.objs.size (.frz { cls := .type "tuple", data := .seq us.toArray k } (.tup xs))) (hp.push { cls := .type "tuple", data := .seq us.toArray k }) hp.objs.size (.frz { cls := .type "tuple", data := .seq us.toArray k } (.tup xs)) :=
    ⟨Heap.get?_push_size _ rfl, z, us, r, ⟨_, Heap.get?_push_size _ rfl, rfl, _, rfl⟩⟩
  exact ⟨.ref _, _, I.laid (t' := s.toks) (fun _ _ e => Heap.get?_push_of_some _ e) (Nat.le_refl _) new, rfl, q _ _ fresh rfl⟩
end
section
variable {X : Cx} {es : List Expr} {pos : Pos}
def tTupF (t : TA) : TE := fun σ H Q => t σ H fun xs H1 => xs.length ≤ sizeLine ∧ ∀ p o, H1 p = none → o.dict = none → Q (.ref p) (upd H1 p (.frz o (.tup xs)))
theorem pe_tupF {t : TA} {x1} (h : PA X es t) : PE X (.Tuple es x1 pos) (tTupF t) := ⟨fun pins s σ H Q I hq =>
  wpAny_Tuple_spliced (thn (h.run pos pins s σ H _ I hq) fun us s1 ⟨xs, H1, I1, r, z, q⟩ => ⟨r.length ▸ z, lay_tup (s := s1) (hp := s1.heap) I1 r z q⟩)⟩
theorem call_tupF : CallR X (.type "tuple") (fun xs H Q => ∃ p ys, xs = [.ref p] ∧ ((SqL X.K H p ys ∧ ∀ l o, H l = none → o.dict = none → Q (.ref l) (upd H l (.frz o (.tup ys)))) ∨ (SqT X.K H p ys ∧ Q (.ref p) H))) := by
  rintro pins s σ H _ us Q I r ⟨p, ys, rfl, h⟩
  obtain ⟨u, rfl, rx⟩ := vals1 r
  cases rx
  rcases h with ⟨hq, q⟩ | ⟨hq, q⟩
  · obtain ⟨its, r', pl, hz⟩ := I.list hq
    have hlen := r'.length
    exact call_tuple_list pl.isList (fun h' kp => lay_tup (s := s) (hp := h') (I.kept (t' := s.toks) kp) r' hz q) (by simp only [List.size_toArray] <;> omega)
  · obtain ⟨its, r', pl, hz⟩ := I.tuple hq
    exact call_tuple_same pl ⟨.ref _, _, I, rfl, q⟩
def rCatF (K : PySem.W.Frag) : R2 := fun x y H Q => ∃ a b xs ys, x = .ref a ∧ y = .ref b ∧ SqT K H a xs ∧ SqT K H b ys ∧ xs.length + ys.length ≤ sizeLine ∧ (xs = [] → Q (.ref b) H) ∧ (xs ≠ [] → ys = [] → Q (.ref a) H) ∧
  (xs ≠ [] → ys ≠ [] → ∀ p o, H p = none → o.dict = none → Q (.ref p) (upd H p (.frz o (.tup (xs ++ ys)))))
theorem op_catF : OpR X (binaryOp .Add) (rCatF X.K) := by
  rintro pins s σ H _ _ v u Q I rx ry ⟨a, b, xs, ys, rfl, rfl, ha, hb, hz, q0, q1, q2⟩
  cases rx
  cases ry
  obtain ⟨its, r1, p1, _⟩ := I.tuple ha
  obtain ⟨its2, r2, p2, _⟩ := I.tuple hb
  by_cases hx : xs = []
  · subst hx
    cases r1
    exact cat_tup0 p1 p2 ⟨.ref _, _, I, rfl, q0 rfl⟩
  · exact HT.cat_tup p1 p2 (fun z => hx (r1.nil_iff.mp z)) (fun z => ⟨.ref _, _, I, rfl, q1 hx (r2.nil_iff.mp z)⟩) (fun z => lay_tup (s := s) (hp := s.heap) I (r1.append r2) (by rw [List.length_append]; exact hz) (q2 hx fun w => z (r2.nil_iff.mpr w))) (by rw [← r1.length, ← r2.length]; exact hz)
def rSlF (K : PySem.W.Frag) : V → Option Int → Option Int → Hp → VK → Prop := fun x lo hi H Q => ∃ a xs, x = .ref a ∧ SqT K H a xs ∧
  ((HT.sIx xs.length 0 lo = 0 ∧ HT.sIx xs.length xs.length hi = xs.length) → Q (.ref a) H) ∧ (¬ (HT.sIx xs.length 0 lo = 0 ∧ HT.sIx xs.length xs.length hi = xs.length) → ∀ p o, H p = none → o.dict = none → Q (.ref p) (upd H p (.frz o (.tup (cutV xs lo hi)))))
theorem sl_tupF : SlR X (rSlF X.K) := by
  rintro pins s σ H _ v vl vu lo hi sl Q I rx hs pl pu ⟨a, xs, rfl, hx, q1, q2⟩
  cases rx
  obtain ⟨its, r, ht, hz⟩ := I.tuple hx
  have hlen : its.toArray.size = xs.length := by rw [List.size_toArray]; exact r.length.symm
  refine ⟨"tuple", _, PyProof.Rows.slot_tuple_getitem.lookup, ht.typeIs, ?_⟩
  by_cases hw : HT.sIx xs.length 0 lo = 0 ∧ HT.sIx xs.length xs.length hi = xs.length
  · exact getItem_tuple_whole ht hs pl pu (by rw [hlen]; exact hw) ⟨.ref _, _, I, rfl, q1 hw⟩
  · refine HT.getItem_tuple_cut ht hs pl pu (by rw [hlen]; exact hw) ?_ (by rw [hlen]; exact hz)
    rw [hlen]
    exact lay_tup (s := s) (hp := s.heap) I (show Vals (cutV xs lo hi) _ from (r.drop _).take _) (Nat.le_trans (cutV_length xs lo hi) hz) (q2 hw)
/-- a tuple many times over -/
def rRepF (K : PySem.W.Frag) : R2 := fun x y H Q => ∃ l k xs, x = .ref l ∧ y = .int k ∧ SqT K H l xs ∧ (xs ≠ [] ∧ xs.length ≤ 1000) ∧ (2 ≤ k ∧ k ≤ 1000) ∧ ∀ p o, H p = none → o.dict = none → Q (.ref p) (upd H p (.frz o (.tup (List.replicate k.toNat xs).flatten)))
theorem op_repF : OpR X (binaryOp .Mult) (rRepF X.K) := by
  rintro pins s σ H _ _ v u Q I rx ry ⟨l, k, xs, rfl, rfl, hT, ⟨hne, hz⟩, ⟨h1, h2⟩, q⟩
  cases rx
  obtain ⟨t, rfl⟩ := ry
  obtain ⟨its, r, ⟨⟨cls, dd, data, sl⟩, ho, hc, n, hd⟩, hs⟩ := I.tuple hT
  obtain rfl : cls = _ := hc
  obtain rfl : data = _ := hd
  have hlen : its.length = xs.length := r.length.symm
  have ne0 : its.toArray.isEmpty = false := by
    cases its with
    | nil => exact (hne (List.eq_nil_of_length_eq_zero hlen.symm)).elim
    | cons _ _ => rfl
  have sz : its.toArray.size = xs.length := hlen
  have big : ((its.toArray.size : Nat) : Int) * k ≤ 1000000 := by
    have a1 : ((xs.length : Nat) : Int) * k ≤ 1000 * k := Int.mul_le_mul_of_nonneg_right (by omega) (by omega)
    rw [sz]; omega
  have fl : (List.replicate k.toNat its).flatten.length ≤ 1000000 := by
    have a1 : k.toNat * xs.length ≤ 1000 * 1000 := Nat.mul_le_mul (by omega) hz
    rw [PyProof.Rows.lm_len_rep_flat, hlen]; omega
  have line : (1000000 : Nat) ≤ sizeLine := by first | decide | (rw [sizeLine_eq]; decide)
  have g0 : (decide (k < -(2 ^ 63)) || decide (k ≥ 2 ^ 63)) = false := by rw [Bool.or_eq_false_iff]; exact ⟨decide_eq_false (by omega), decide_eq_false (by omega)⟩
  have g1 : (its.toArray.isEmpty || k == 1) = false := by rw [ne0, Bool.false_or]; exact beq_eq_false_iff_ne.mpr (by omega)
  have g2 : (decide (k ≤ 0) || its.toArray.isEmpty) = false := by rw [ne0, Bool.or_false]; exact decide_eq_false (by omega)
  have g4 : Builtin.Tuple.tupleTooMany (((its.toArray.size : Nat) : Int) * k) = false := decide_eq_false (by omega)
  have made := tuple_mulW l its.toArray n dd sl k t g0 g1 g2 (by omega) g4 (by rw [size_rep, List.size_toArray]; omega)
  have call2 := int_rmul_tuple k t l its.toArray n dd sl
  refine wpAny_binaryOp_repeat_ref (U := "int") (T := "tuple") (by decide) ⟨_, ho, rfl⟩ (fun z => typeIs_int z k t) noFill_tuple_mul F.fills_int_mul F.slot_int_rmul repeat_tuple F.slot_int_index.lookup ?_
  refine call_meets F.slot_int_rmul (typeIs_int s k t) F.entry_int_rmul (F.args_int_rmul_2 _ _) call2 ⟨ho, rfl, ⟨_, ho, rfl⟩, ?_⟩
  refine call_meets F.slot_tuple_mul ⟨_, ho, rfl⟩ F.entry_tuple_mul (F.args_tuple_mul_2 _ _) made ⟨ho, ?_⟩
  rw [size_rep]
  exact lay_tup (s := s) (hp := s.heap) I (r.rep k.toNat) (by have e := (r.rep k.toNat).length; omega) q
end
end Dn

/-! Dn0: values by content, a heap of changing things, what relates them to the hand layer's -/
namespace Dn
open PySem PySem.Spec PyProof.Rows L2

/-- what hangs on the module alone -/
structure Zx where
  K : PySem.W.Frag
  mg : Str → Option Value
  w : World
abbrev zOf (X : Cx) : Zx := ⟨X.K, X.mg, X.w⟩

/-- a value, what never changes by its content -/
inductive D where
  | non | bl (b : Bool) | int (i : Int) | str (x : Str)
  | tup (xs : List D)
  /-- a changing thing, by its number -/
  | ref (n : Nat)
  /-- a def or a class of the module, by its name -/
  | glo (x : Str)
  /-- a list that nobody changes -/
  | ls (xs : List D)
  /-- a dict of the module that nobody changes, texts to texts -/
  | rod (kvs : List (Str × Str))

/-- a changing thing -/
inductive MO where
  | lst (xs : List D)
  | dct (kvs : List (Key × D))
  | ins (c : Str) (fs : List (Str × D))

abbrev Mh := List MO
abbrev Sl := List (Option D)

/-- a list that nobody changes -/
def SqF (K : PySem.W.Frag) (H : Hp) (a : Addr) (xs : List V) : Prop :=
  (∃ o, H a = some (.frz o (.lst xs))) ∨
    ∃ (o : Obj) (its : Array Value) (n : Nat), K.lookup a = some o ∧ o.cls = .type "list" ∧ o.dict = none ∧ o.data = .seq its n ∧ its.size ≤ sizeLine ∧ Vals xs its.toList
theorem SqF.sq {K : PySem.W.Frag} {H : Hp} {a : Addr} {xs : List V} (h : SqF K H a xs) : SqL K H a xs := by
  rcases h with h | h
  · exact .inl (.inr h)
  · exact .inr h

/-- a written dict, texts to texts -/
def RodIn (Z : Zx) (a : Addr) (kvs : List (Str × Str)) : Prop :=
  ∃ (es : Array DictEntry) (n : Nat), Z.K.lookup a = some ⟨.type "dict", none, .dict es n, #[]⟩ ∧ PySem.W.KeysLit Z.w.params es.toList ∧ (a == sysModules) = false ∧
    ∀ x : Str, ∃ r, PySem.W.nsIn Z.K a x = some r ∧ RelO ((kvs.lookup x).map V.str) r

mutual
def RelD (Z : Zx) (H : Hp) (m : List Addr) : D → V → Prop
  | .non, v => v = .non
  | .bl b, v => v = .bl b
  | .int i, v => v = .int i
  | .str x, v => v = .str x
  | .tup ds, v => ∃ a xs, v = .ref a ∧ TupN Z.K H a xs ∧ RelDs Z H m ds xs
  | .ref n, v => ∃ a, v = .ref a ∧ m[n]? = some a
  | .glo x, v => ∃ a, v = .ref a ∧ Z.mg x = some (.ref a)
  | .ls ds, v => ∃ a xs, v = .ref a ∧ SqF Z.K H a xs ∧ RelDs Z H m ds xs
  | .rod kvs, v => ∃ a, v = .ref a ∧ RodIn Z a kvs
def RelDs (Z : Zx) (H : Hp) (m : List Addr) : List D → List V → Prop
  | [], vs => vs = []
  | d :: ds, vs => ∃ v r, vs = v :: r ∧ RelD Z H m d v ∧ RelDs Z H m ds r
end

/-- what never changes stays -/
structure TK (H H' : Hp) : Prop where
  tup : ∀ b xs, H b = some (.tup xs) → H' b = some (.tup xs)
  frz : ∀ b o u, H b = some (.frz o u) → H' b = some (.frz o u)
  dom : ∀ b, H' b = none → H b = none
theorem TK.refl (H : Hp) : TK H H := ⟨fun _ _ h => h, fun _ _ _ h => h, fun _ h => h⟩
theorem TK.trans {H H1 H2 : Hp} (a : TK H H1) (b : TK H1 H2) : TK H H2 :=
  ⟨fun c xs h => b.tup c xs (a.tup c xs h), fun c o u h => b.frz c o u (a.frz c o u h), fun c h => a.dom c (b.dom c h)⟩

theorem SqT.keep {K : PySem.W.Frag} {H H' : Hp} {a : Addr} {xs : List V} (t : TK H H') (h : SqT K H a xs) : SqT K H' a xs := by
  rcases h with (h | ⟨o, h⟩) | h
  · exact .inl (.inl (t.tup _ _ h))
  · exact .inl (.inr ⟨o, t.frz _ _ _ h⟩)
  · exact .inr h
theorem TupN.keep {K : PySem.W.Frag} {H H' : Hp} {a : Addr} {xs : List V} (t : TK H H') (h : TupN K H a xs) : TupN K H' a xs := by
  rcases h with ⟨o, d, h⟩ | h
  · exact .inl ⟨o, d, t.frz _ _ _ h⟩
  · exact .inr h
theorem SqF.keep {K : PySem.W.Frag} {H H' : Hp} {a : Addr} {xs : List V} (t : TK H H') (h : SqF K H a xs) : SqF K H' a xs := by
  rcases h with ⟨o, h⟩ | h
  · exact .inl ⟨o, t.frz _ _ _ h⟩
  · exact .inr h

section
variable {Z : Zx} {H H' : Hp} {m m' : List Addr}
mutual
theorem RelD.keep (t : TK H H') (e : ∀ (n : Nat) a, m[n]? = some a → m'[n]? = some a) : ∀ (d : D) (v : V), RelD Z H m d v → RelD Z H' m' d v
  | .non, _, h => h
  | .bl _, _, h => h
  | .int _, _, h => h
  | .str _, _, h => h
  | .tup ds, v, h => by
    obtain ⟨a, xs, e1, s, r⟩ := h
    exact ⟨a, xs, e1, TupN.keep t s, RelDs.keep t e ds xs r⟩
  | .ref n, v, h => by
    obtain ⟨a, e1, h⟩ := h
    exact ⟨a, e1, e n a h⟩
  | .glo x, v, h => h
  | .ls ds, v, h => by
    obtain ⟨a, xs, e1, s, r⟩ := h
    exact ⟨a, xs, e1, SqF.keep t s, RelDs.keep t e ds xs r⟩
  | .rod kvs, v, h => h
theorem RelDs.keep (t : TK H H') (e : ∀ (n : Nat) a, m[n]? = some a → m'[n]? = some a) : ∀ (ds : List D) (vs : List V), RelDs Z H m ds vs → RelDs Z H' m' ds vs
  | [], _, h => h
  | d :: ds, vs, h => by
    obtain ⟨v, r, e1, h1, h2⟩ := h
    exact ⟨v, r, e1, RelD.keep t e d v h1, RelDs.keep t e ds r h2⟩
end
theorem RelDs.length : ∀ {ds : List D} {vs : List V}, RelDs Z H m ds vs → vs.length = ds.length
  | [], vs, h => by
    have h : vs = [] := h
    subst h; rfl
  | d :: ds, vs, h => by
    obtain ⟨v, r, e1, h1, h2⟩ := h
    subst e1
    rw [List.length_cons, List.length_cons, RelDs.length h2]
theorem RelDs.get : ∀ {ds : List D} {vs : List V} {i : Nat} {d : D}, RelDs Z H m ds vs → ds[i]? = some d → ∃ v, vs[i]? = some v ∧ RelD Z H m d v
  | [], _, _, _, _, e => by simp at e
  | d :: ds, vs, 0, d', h, e => by
    obtain ⟨v, r, e1, h1, h2⟩ := h
    subst e1
    have e : d = d' := by simpa using e
    subst e
    exact ⟨v, rfl, h1⟩
  | d :: ds, vs, i + 1, d', h, e => by
    obtain ⟨v, r, e1, h1, h2⟩ := h
    subst e1
    exact RelDs.get (i := i) h2 (by simpa using e)
theorem RelDs.get' {ds : List D} {vs : List V} {i : Nat} {v : V} (h : RelDs Z H m ds vs) (e : vs[i]? = some v) : ∃ d, ds[i]? = some d ∧ RelD Z H m d v := by
  have hl := RelDs.length h
  have hi : i < ds.length := by rw [← hl]; exact (List.getElem?_eq_some_iff.mp e).1
  obtain ⟨v', e', r⟩ := RelDs.get h (List.getElem?_eq_getElem hi)
  rw [e] at e'; cases e'
  exact ⟨_, List.getElem?_eq_getElem hi, r⟩
theorem RelDs.append : ∀ {ds es : List D} {vs us : List V}, RelDs Z H m ds vs → RelDs Z H m es us → RelDs Z H m (ds ++ es) (vs ++ us)
  | [], es, vs, us, h, h' => by
    have h : vs = [] := h
    subst h; exact h'
  | d :: ds, es, vs, us, h, h' => by
    obtain ⟨v, r, e1, h1, h2⟩ := h
    subst e1
    exact ⟨v, r ++ us, rfl, h1, RelDs.append h2 h'⟩
theorem RelDs.one {d : D} {v : V} (h : RelD Z H m d v) : RelDs Z H m [d] [v] := ⟨v, [], rfl, h, rfl⟩
theorem RelDs.set : ∀ {ds : List D} {vs : List V} {d : D} {v : V} (i : Nat), RelDs Z H m ds vs → RelD Z H m d v → RelDs Z H m (ds.set i d) (vs.set i v)
  | [], vs, _, _, i, h, _ => by
    have h : vs = [] := h
    subst h; rfl
  | d :: ds, vs, d', v', 0, h, h' => by
    obtain ⟨v, r, e1, h1, h2⟩ := h
    subst e1
    exact ⟨v', r, rfl, h', h2⟩
  | d :: ds, vs, d', v', i + 1, h, h' => by
    obtain ⟨v, r, e1, h1, h2⟩ := h
    subst e1
    exact ⟨v, r.set i v', rfl, h1, RelDs.set i h2 h'⟩
theorem RelDs.drop : ∀ {ds : List D} {vs : List V} (i : Nat), RelDs Z H m ds vs → RelDs Z H m (ds.drop i) (vs.drop i)
  | ds, vs, 0, h => h
  | [], vs, i + 1, h => by
    have h : vs = [] := h
    subst h; rfl
  | d :: ds, vs, i + 1, h => by
    obtain ⟨v, r, e1, h1, h2⟩ := h
    subst e1
    exact RelDs.drop i h2
theorem RelDs.take : ∀ {ds : List D} {vs : List V} (i : Nat), RelDs Z H m ds vs → RelDs Z H m (ds.take i) (vs.take i)
  | ds, vs, 0, h => rfl
  | [], vs, i + 1, h => by
    have h : vs = [] := h
    subst h; rfl
  | d :: ds, vs, i + 1, h => by
    obtain ⟨v, r, e1, h1, h2⟩ := h
    subst e1
    exact ⟨v, r.take i, rfl, h1, RelDs.take i h2⟩
end

/-- the pairs of a dict, the fields of an instance -/
def RelKs {k : Type} (Z : Zx) (H : Hp) (m : List Addr) : List (k × D) → List (k × V) → Prop
  | [], vs => vs = []
  | (x, d) :: ds, vs => ∃ v r, vs = (x, v) :: r ∧ RelD Z H m d v ∧ RelKs Z H m ds r
theorem RelKs.keep {k : Type} {Z : Zx} {H H' : Hp} {m m' : List Addr} (t : TK H H') (e : ∀ (n : Nat) a, m[n]? = some a → m'[n]? = some a) : ∀ (ds : List (k × D)) (vs : List (k × V)), RelKs Z H m ds vs → RelKs Z H' m' ds vs
  | [], _, h => h
  | (x, d) :: ds, vs, h => by
    obtain ⟨v, r, e1, h1, h2⟩ := h
    exact ⟨v, r, e1, RelD.keep t e d v h1, RelKs.keep t e ds r h2⟩

def ObjR (Z : Zx) (H : Hp) (m : List Addr) (a : Addr) : MO → Prop
  | .lst ds => ∃ xs, H a = some (.lst xs) ∧ RelDs Z H m ds xs
  | .dct kvs => ∃ xs, H a = some (.dK xs) ∧ RelKs Z H m kvs xs
  | .ins c fs => ∃ C dx xs, Z.mg c = some (.ref C) ∧ H a = some (.ins C dx xs) ∧ RelKs Z H m fs xs

structure HRel (Z : Zx) (H : Hp) (m : List Addr) (M : Mh) : Prop where
  len : m.length = M.length
  nd : m.Nodup
  obj : ∀ (n : Nat) o, M[n]? = some o → ∃ a, m[n]? = some a ∧ ObjR Z H m a o

theorem HRel.at {Z : Zx} {H : Hp} {m : List Addr} {M : Mh} {n : Nat} {a : Addr} {o : MO} (h : HRel Z H m M) (e : m[n]? = some a) (eo : M[n]? = some o) : ObjR Z H m a o := by
  obtain ⟨a', e', r⟩ := h.obj n o eo
  rw [e] at e'; cases e'
  exact r
theorem ObjR.trk {Z : Zx} {H : Hp} {m : List Addr} {a : Addr} {o : MO} (h : ObjR Z H m a o) : H a ≠ none := by
  cases o with
  | lst ds => obtain ⟨xs, e, _⟩ := h; rw [e]; simp
  | dct kvs => obtain ⟨xs, e, _⟩ := h; rw [e]; simp
  | ins c fs => obtain ⟨C, dx, xs, _, e, _⟩ := h; rw [e]; simp
theorem HRel.trk {Z : Zx} {H : Hp} {m : List Addr} {M : Mh} {a : Addr} (h : HRel Z H m M) (e : a ∈ m) : H a ≠ none := by
  obtain ⟨n, hn, e⟩ := List.mem_iff_getElem.mp e
  have hM : n < M.length := by rw [← h.len]; exact hn
  obtain ⟨a', e', r⟩ := h.obj n _ (List.getElem?_eq_getElem hM)
  rw [List.getElem?_eq_getElem hn] at e'
  cases e'
  rw [← e]
  exact r.trk
theorem HRel.new {Z : Zx} {H : Hp} {m : List Addr} {M : Mh} {a : Addr} (h : HRel Z H m M) (e : H a = none) : a ∉ m := fun z => h.trk z e
/-- what is no list, dict, instance is not among them -/
theorem HRel.out {Z : Zx} {H : Hp} {m : List Addr} {M : Mh} {a : Addr} {o : HO} (h : HRel Z H m M) (e : H a = some o) (ho : ∀ C dx fs, o ≠ .ins C dx fs) (h1 : ∀ xs, o ≠ .lst xs) (h2 : ∀ xs, o ≠ .dK xs) : a ∉ m := fun z => by
  obtain ⟨n, hn, e'⟩ := List.mem_iff_getElem.mp z
  have hM : n < M.length := by rw [← h.len]; exact hn
  obtain ⟨a', q, r⟩ := h.obj n _ (List.getElem?_eq_getElem hM)
  rw [List.getElem?_eq_getElem hn, e'] at q
  cases q
  generalize M[n] = u at r
  cases u with
  | lst ds => obtain ⟨xs, e2, _⟩ := r; rw [e] at e2; exact h1 _ (Option.some.inj e2)
  | dct kvs => obtain ⟨xs, e2, _⟩ := r; rw [e] at e2; exact h2 _ (Option.some.inj e2)
  | ins c fs => obtain ⟨C, dx, xs, _, e2, _⟩ := r; rw [e] at e2; exact ho _ _ _ (Option.some.inj e2)

/-- a step: from H, m to H', m' -/
structure Stp (H : Hp) (m : List Addr) (H' : Hp) (m' : List Addr) : Prop where
  ext : ∃ n, m' = m ++ n ∧ ∀ a ∈ n, H a = none
  tk : TK H H'
  fr : ∀ b o, H b = some o → b ∉ m → H' b = some o
theorem Stp.refl (H : Hp) (m : List Addr) : Stp H m H m := ⟨⟨[], by simp, by simp⟩, TK.refl H, fun _ _ h _ => h⟩
theorem Stp.ix {H H' : Hp} {m m' : List Addr} (s : Stp H m H' m') : ∀ (n : Nat) a, m[n]? = some a → m'[n]? = some a := fun n a e => by
  obtain ⟨r, rfl, _⟩ := s.ext
  rw [List.getElem?_append_left (List.getElem?_eq_some_iff.mp e).1]
  exact e
theorem Stp.trans {H H1 H2 : Hp} {m m1 m2 : List Addr} (a : Stp H m H1 m1) (b : Stp H1 m1 H2 m2) : Stp H m H2 m2 := by
  obtain ⟨n1, e1, f1⟩ := a.ext
  obtain ⟨n2, e2, f2⟩ := b.ext
  refine ⟨⟨n1 ++ n2, by rw [e2, e1, List.append_assoc], fun x hx => ?_⟩, a.tk.trans b.tk, fun x o h hx => ?_⟩
  · rcases List.mem_append.mp hx with h | h
    · exact f1 x h
    · exact a.tk.dom x (f2 x h)
  · refine b.fr x o (a.fr x o h hx) fun z => ?_
    rw [e1] at z
    rcases List.mem_append.mp z with z | z
    · exact hx z
    · rw [f1 x z] at h; cases h
theorem Stp.rel {Z : Zx} {H H' : Hp} {m m' : List Addr} (s : Stp H m H' m') {d : D} {v : V} (h : RelD Z H m d v) : RelD Z H' m' d v := RelD.keep s.tk s.ix d v h
theorem Stp.rels {Z : Zx} {H H' : Hp} {m m' : List Addr} (s : Stp H m H' m') {d : List D} {v : List V} (h : RelDs Z H m d v) : RelDs Z H' m' d v := RelDs.keep s.tk s.ix d v h
theorem Stp.relks {k : Type} {Z : Zx} {H H' : Hp} {m m' : List Addr} (s : Stp H m H' m') {d : List (k × D)} {v : List (k × V)} (h : RelKs Z H m d v) : RelKs Z H' m' d v := RelKs.keep s.tk s.ix d v h
/-- .. whatever becomes of what is not looked at -/
structure Stw (H : Hp) (m : List Addr) (H' : Hp) (m' : List Addr) : Prop where
  tk : TK H H'
  ix : ∀ (n : Nat) a, m[n]? = some a → m'[n]? = some a
theorem Stp.w {H H' : Hp} {m m' : List Addr} (s : Stp H m H' m') : Stw H m H' m' := ⟨s.tk, s.ix⟩
theorem Stw.trans {H H1 H2 : Hp} {m m1 m2 : List Addr} (a : Stw H m H1 m1) (b : Stw H1 m1 H2 m2) : Stw H m H2 m2 := ⟨a.tk.trans b.tk, fun n c e => b.ix n c (a.ix n c e)⟩
theorem Stw.rel {Z : Zx} {H H' : Hp} {m m' : List Addr} (s : Stw H m H' m') {d : D} {v : V} (h : RelD Z H m d v) : RelD Z H' m' d v := RelD.keep s.tk s.ix d v h
theorem Stw.rels {Z : Zx} {H H' : Hp} {m m' : List Addr} (s : Stw H m H' m') {d : List D} {v : List V} (h : RelDs Z H m d v) : RelDs Z H' m' d v := RelDs.keep s.tk s.ix d v h

/-- an object laid beside -/
theorem tk_laid {H : Hp} {p : Addr} {o : HO} (h : H p = none) : TK H (upd H p o) :=
  ⟨fun b xs e => by rw [upd_ne (ne_of_none e h)]; exact e, fun b o u e => by rw [upd_ne (ne_of_none e h)]; exact e, fun b e => by
    by_cases q : b = p
    · subst q; exact h
    · rw [upd_ne q] at e; exact e⟩
theorem stp_laid {H : Hp} {m : List Addr} {p : Addr} {o : HO} (h : H p = none) : Stp H m (upd H p o) m :=
  ⟨⟨[], by simp, by simp⟩, tk_laid h, fun b o e _ => by rw [upd_ne (ne_of_none e h)]; exact e⟩
theorem ObjR.keep {Z : Zx} {H H' : Hp} {m m' : List Addr} {a : Addr} {o : MO} (t : TK H H') (ix : ∀ (n : Nat) a, m[n]? = some a → m'[n]? = some a) (e : ∀ u, H a = some u → H' a = some u) (h : ObjR Z H m a o) : ObjR Z H' m' a o := by
  cases o with
  | lst ds => obtain ⟨xs, q, r⟩ := h; exact ⟨xs, e _ q, RelDs.keep t ix _ _ r⟩
  | dct kvs => obtain ⟨xs, q, r⟩ := h; exact ⟨xs, e _ q, RelKs.keep t ix _ _ r⟩
  | ins c fs => obtain ⟨C, dx, xs, g, q, r⟩ := h; exact ⟨C, dx, xs, g, e _ q, RelKs.keep t ix _ _ r⟩
theorem HRel.keep {Z : Zx} {H H' : Hp} {m : List Addr} {M : Mh} (h : HRel Z H m M) (t : TK H H') (e : ∀ b u, H b = some u → H' b = some u) : HRel Z H' m M :=
  ⟨h.len, h.nd, fun n o q => by
    obtain ⟨a, q1, r⟩ := h.obj n o q
    exact ⟨a, q1, r.keep t (fun _ _ x => x) (e a)⟩⟩
theorem hrel_laid {Z : Zx} {H : Hp} {m : List Addr} {M : Mh} {p : Addr} {o : HO} (h : HRel Z H m M) (hp : H p = none) : HRel Z (upd H p o) m M :=
  h.keep (tk_laid hp) fun b u e => by rw [upd_ne (ne_of_none e hp)]; exact e

/-- a new changing thing -/
theorem stp_new {H : Hp} {m : List Addr} {p : Addr} {o : HO} (h : H p = none) : Stp H m (upd H p o) (m ++ [p]) :=
  ⟨⟨[p], rfl, fun a ha => by
    have : a = p := by simpa using ha
    subst this; exact h⟩, tk_laid h, fun b o e _ => by rw [upd_ne (ne_of_none e h)]; exact e⟩
theorem ix_new {m : List Addr} {p : Addr} : ∀ (n : Nat) a, m[n]? = some a → (m ++ [p])[n]? = some a := fun n a e => by
  rw [List.getElem?_append_left (List.getElem?_eq_some_iff.mp e).1]
  exact e
theorem hrel_new {Z : Zx} {H : Hp} {m : List Addr} {M : Mh} {p : Addr} {o : HO} {u : MO} (h : HRel Z H m M) (hp : H p = none) (hu : ObjR Z (upd H p o) (m ++ [p]) p u) : HRel Z (upd H p o) (m ++ [p]) (M ++ [u]) := by
  refine ⟨by rw [List.length_append, List.length_append, h.len]; rfl, ?_, fun n x q => ?_⟩
  · rw [List.nodup_append]
    refine ⟨h.nd, by simp, fun a ha b hb => ?_⟩
    have : b = p := by simpa using hb
    subst this
    exact fun e => h.new hp (e ▸ ha)
  · by_cases hn : n < M.length
    · rw [List.getElem?_append_left hn] at q
      obtain ⟨a, q1, r⟩ := h.obj n x q
      refine ⟨a, ix_new n a q1, r.keep (tk_laid hp) ix_new fun u e => by rw [upd_ne (ne_of_none e hp)]; exact e⟩
    · rw [List.getElem?_append_right (by omega)] at q
      have hz : n - M.length = 0 := by
        have := (List.getElem?_eq_some_iff.mp q).1
        simpa using this
      have hn2 : n = M.length := by omega
      rw [hz] at q
      have q : u = x := by simpa using q
      subst q
      refine ⟨p, ?_, hu⟩
      rw [hn2, ← h.len, List.getElem?_append_right (Nat.le_refl _), Nat.sub_self]
      rfl

/-- a changing thing changed -/
theorem tk_upd {H : Hp} {p : Addr} {o u : HO} (h : H p = some u) (h1 : ∀ xs, u ≠ .tup xs) (h2 : ∀ a b, u ≠ .frz a b) : TK H (upd H p o) :=
  ⟨fun b xs e => by
    by_cases q : b = p
    · subst q; rw [h] at e; exact absurd (Option.some.inj e) (h1 _)
    · rw [upd_ne q]; exact e, fun b o u e => by
    by_cases q : b = p
    · subst q; rw [h] at e; exact absurd (Option.some.inj e) (h2 _ _)
    · rw [upd_ne q]; exact e, fun b e => by
    by_cases q : b = p
    · subst q; rw [upd_same] at e; cases e
    · rw [upd_ne q] at e; exact e⟩
theorem stp_upd {H : Hp} {m : List Addr} {p : Addr} {n : Nat} {o u : HO} (h : H p = some u) (h1 : ∀ xs, u ≠ .tup xs) (h2 : ∀ a b, u ≠ .frz a b) (hm : m[n]? = some p) : Stp H m (upd H p o) m :=
  ⟨⟨[], by simp, by simp⟩, tk_upd h h1 h2, fun b x e hb => by
    rw [upd_ne (show b ≠ p from fun q => hb (by rw [q]; exact List.mem_of_getElem? hm))]
    exact e⟩
theorem hrel_upd {Z : Zx} {H : Hp} {m : List Addr} {M : Mh} {p : Addr} {n : Nat} {o u : HO} {x : MO} (hR : HRel Z H m M) (h : H p = some u) (h1 : ∀ xs, u ≠ .tup xs) (h2 : ∀ a b, u ≠ .frz a b) (hm : m[n]? = some p)
    (hx : ObjR Z (upd H p o) m p x) : HRel Z (upd H p o) m (M.set n x) := by
  refine ⟨by rw [List.length_set]; exact hR.len, hR.nd, fun j y q => ?_⟩
  by_cases hj : j = n
  · subst hj
    have hl : j < M.length := by rw [← hR.len]; exact (List.getElem?_eq_some_iff.mp hm).1
    rw [List.getElem?_set_self hl] at q
    cases q
    exact ⟨p, hm, hx⟩
  · rw [List.getElem?_set_ne (Ne.symm hj)] at q
    obtain ⟨a, q1, r⟩ := hR.obj j y q
    have ne : a ≠ p := fun e => hj (by
      subst e
      obtain ⟨l1, e1⟩ := List.getElem?_eq_some_iff.mp q1
      obtain ⟨l2, e2⟩ := List.getElem?_eq_some_iff.mp hm
      exact (List.getElem_inj hR.nd).mp (e1.trans e2.symm))
    exact ⟨a, q1, r.keep (tk_upd h h1 h2) (fun _ _ z => z) fun w e => by rw [upd_ne ne]; exact e⟩

/-! ### what is reckoned -/
inductive R (α : Type) where
  | bad
  | ok (a : α) (M : Mh)
  | exc (c : Str) (fs : List (Str × D)) (M : Mh)
abbrev C (α : Type) := Mh → R α
def C.ret {α : Type} (a : α) : C α := fun M => .ok a M
def C.bad {α : Type} : C α := fun _ => .bad
def C.bind {α β : Type} (f : C α) (g : α → C β) : C β := fun M =>
  match f M with
  | .bad => .bad
  | .ok a M1 => g a M1
  | .exc c fs M1 => .exc c fs M1

/-- what is known behind it -/
def Post (Z : Zx) (W : XK) (H : Hp) (m : List Addr) {α : Type} (r : R α) (k : α → Hp → List Addr → Mh → Prop) : Prop :=
  match r with
  | .bad => False
  | .ok a M => ∀ H' m', Stp H m H' m' → HRel Z H' m' M → k a H' m' M
  | .exc c fs M => ∀ Cl dx xs H' m', Z.mg c = some (.ref Cl) → Stp H m H' m' → H' dx = some (.xd xs) → RelKs Z H' m' fs xs → HRel Z H' m' M → W (.ref Cl) (some dx) H'

section
variable {Z : Zx} {W : XK} {H H' : Hp} {m m' : List Addr} {α β : Type}
theorem Post.from {r : R α} {k : α → Hp → List Addr → Mh → Prop} (s : Stp H m H' m') (p : Post Z W H m r k) : Post Z W H' m' r k := by
  cases r with
  | bad => exact p
  | ok a M => exact fun H2 m2 s2 h2 => p H2 m2 (s.trans s2) h2
  | exc c fs M => exact fun Cl dx xs H2 m2 g s2 e r h2 => p Cl dx xs H2 m2 g (s.trans s2) e r h2
theorem Post.mono {r : R α} {k k' : α → Hp → List Addr → Mh → Prop} (p : Post Z W H m r k) (h : ∀ a H' m' M', Stp H m H' m' → HRel Z H' m' M' → k a H' m' M' → k' a H' m' M') : Post Z W H m r k' := by
  cases r with
  | bad => exact p
  | ok a M => exact fun H2 m2 s2 h2 => h a H2 m2 M s2 h2 (p H2 m2 s2 h2)
  | exc c fs M => exact p
theorem Post.bind {f : C α} {g : α → C β} {M : Mh} {k : β → Hp → List Addr → Mh → Prop} (p : Post Z W H m (f.bind g M) k) : Post Z W H m (f M) (fun a H' m' M' => Post Z W H' m' (g a M') k) := by
  unfold C.bind at p
  cases e : f M with
  | bad => rw [e] at p; exact p
  | ok a M1 =>
    rw [e] at p
    exact fun H2 m2 s2 h2 => Post.from s2 p
  | exc c fs M1 => rw [e] at p; exact p
/-- the end -/
theorem Post.ok {a : α} {M : Mh} {k : α → Hp → List Addr → Mh → Prop} (p : Post Z W H m (.ok a M) k) (h : HRel Z H m M) : k a H m M := p H m (Stp.refl H m) h
end

structure RelS (Z : Zx) (H : Hp) (m : List Addr) (s : Sl) (σ : L2.St) : Prop where
  len : s.length = σ.length
  val : ∀ (i : Nat) d, s[i]? = some (some d) → ∃ v, σ[i]? = some (some v) ∧ RelD Z H m d v
theorem RelS.mono {Z : Zx} {H H' : Hp} {m m' : List Addr} {s : Sl} {σ : L2.St} (st : Stp H m H' m') (h : RelS Z H m s σ) : RelS Z H' m' s σ :=
  ⟨h.len, fun i d e => let ⟨v, e1, r⟩ := h.val i d e; ⟨v, e1, st.rel r⟩⟩
theorem RelS.monoW {Z : Zx} {H H' : Hp} {m m' : List Addr} {s : Sl} {σ : L2.St} (st : Stw H m H' m') (h : RelS Z H m s σ) : RelS Z H' m' s σ :=
  ⟨h.len, fun i d e => let ⟨v, e1, r⟩ := h.val i d e; ⟨v, e1, st.rel r⟩⟩
theorem RelS.set {Z : Zx} {H : Hp} {m : List Addr} {s : Sl} {σ : L2.St} {d : D} {v : V} (h : RelS Z H m s σ) (i : Nat) (r : RelD Z H m d v) : RelS Z H m (s.set i (some d)) (σ.set i (some v)) := by
  refine ⟨by rw [List.length_set, List.length_set]; exact h.len, fun j d' e => ?_⟩
  by_cases hj : j = i
  · subst hj
    have hl : j < s.length := by
      have := (List.getElem?_eq_some_iff.mp e).1
      rw [List.length_set] at this
      exact this
    rw [List.getElem?_set_self hl] at e
    cases e
    exact ⟨v, List.getElem?_set_self (by rw [← h.len]; exact hl), r⟩
  · rw [List.getElem?_set_ne (Ne.symm hj)] at e ⊢
    exact h.val j d' e
theorem RelS.unset {Z : Zx} {H : Hp} {m : List Addr} {s : Sl} {σ : L2.St} (h : RelS Z H m s σ) (i : Nat) : RelS Z H m (s.set i none) (σ.set i none) := by
  refine ⟨by rw [List.length_set, List.length_set]; exact h.len, fun j d' e => ?_⟩
  by_cases hj : j = i
  · subst hj
    have hl : j < s.length := by
      have := (List.getElem?_eq_some_iff.mp e).1
      rw [List.length_set] at this
      exact this
    rw [List.getElem?_set_self hl] at e
    cases e
  · rw [List.getElem?_set_ne (Ne.symm hj)] at e ⊢
    exact h.val j d' e

/-! ### the judgements -/
abbrev ED := Sl → C D
abbrev TD := Sl → C Bool
abbrev AD := Sl → C (List D)
inductive FL where
  | nx | bk | ct | rt (d : D)
abbrev SD := Sl → C (FL × Sl)

def tD (Z : Zx) (W : XK) (t : ED) : TE := fun σ H Q => ∃ m s M, RelS Z H m s σ ∧ HRel Z H m M ∧ Post Z W H m (t s M) fun d H' m' _ => ∀ v, RelD Z H' m' d v → Q v H'
def tDT (Z : Zx) (W : XK) (t : TD) : TT := fun σ H Q => ∃ m s M, RelS Z H m s σ ∧ HRel Z H m M ∧ Post Z W H m (t s M) fun b H' _ _ => Q b H'
def tDA (Z : Zx) (W : XK) (t : AD) : TA := fun σ H Q => ∃ m s M, RelS Z H m s σ ∧ HRel Z H m M ∧ Post Z W H m (t s M) fun ds H' m' _ => ∀ vs, RelDs Z H' m' ds vs → Q vs H'
def EndD (Z : Zx) (E : Ends) (f : FL) (s : Sl) (H : Hp) (m : List Addr) : Prop :=
  match f with
  | .nx => ∀ σ, RelS Z H m s σ → E.nx σ H
  | .bk => ∀ σ, RelS Z H m s σ → E.bk σ H
  | .ct => ∀ σ, RelS Z H m s σ → E.ct σ H
  | .rt d => ∀ v, RelD Z H m d v → E.rt v H
def tDS (Z : Zx) (W : XK) (t : SD) : TS := fun E σ H => ∃ m s M, RelS Z H m s σ ∧ HRel Z H m M ∧ Post Z W H m (t s M) fun r H' m' _ => EndD Z E r.1 r.2 H' m'

abbrev ME (X : Cx) (W : XK) (e : Expr) (t : ED) : Prop := PE X e (tD (zOf X) W t)
abbrev MT (X : Cx) (W : XK) (e : Expr) (t : TD) : Prop := PT X e (tDT (zOf X) W t)
abbrev MW (X : Cx) (W : XK) (e : Expr) (t : TD) : Prop := PW X e (tDT (zOf X) W t)
abbrev MA (X : Cx) (W : XK) (es : List Expr) (t : AD) : Prop := PA X es (tDA (zOf X) W t)
abbrev MS (X : Cx) (W : XK) (st : Stmt) (t : SD) : Prop := PS X st (tDS (zOf X) W t)
abbrev MB (X : Cx) (W : XK) (sts : List Stmt) (t : SD) : Prop := PSs X sts (tDS (zOf X) W t)

theorem pe_mono {X : Cx} {e : Expr} {t t' : TE} (h : PE X e t) (i : ∀ σ H Q, t' σ H Q → t σ H Q) : PE X e t' := ⟨fun pins s σ H Q I q => h.run pins s σ H Q I (i σ H Q q)⟩
theorem pt_mono {X : Cx} {e : Expr} {t t' : TT} (h : PT X e t) (i : ∀ σ H Q, t' σ H Q → t σ H Q) : PT X e t' := ⟨fun pins s σ H Q I q => h.run pins s σ H Q I (i σ H Q q)⟩
theorem pw_mono {X : Cx} {e : Expr} {t t' : TT} (h : PW X e t) (i : ∀ σ H Q, t' σ H Q → t σ H Q) : PW X e t' := ⟨fun wh pins s σ H Q I q => h.run wh pins s σ H Q I (i σ H Q q)⟩
theorem pa_mono {X : Cx} {e : List Expr} {t t' : TA} (h : PA X e t) (i : ∀ σ H Q, t' σ H Q → t σ H Q) : PA X e t' := ⟨fun pos pins s σ H Q I q => h.run pos pins s σ H Q I (i σ H Q q)⟩
theorem ps_mono {X : Cx} {e : Stmt} {t t' : TS} (h : PS X e t) (i : ∀ E σ H, t' E σ H → t E σ H) : PS X e t' := ⟨fun pins s σ H E I q => h.run pins s σ H E I (i E σ H q)⟩
theorem pss_mono {X : Cx} {e : List Stmt} {t t' : TS} (h : PSs X e t) (i : ∀ E σ H, t' E σ H → t E σ H) : PSs X e t' := ⟨fun pins s σ H E I q => h.run pins s σ H E I (i E σ H q)⟩
end Dn

/-! Dn1: operators and names by content -/
namespace Dn
open PySem PySem.Spec PyProof.Rows L2

/-! ### readings by values -/
def rD1 (Z : Zx) (W : XK) (f : D → C D) : V → Hp → VK → Prop := fun x H Q => ∃ m d M, RelD Z H m d x ∧ HRel Z H m M ∧ Post Z W H m (f d M) fun d' H' m' _ => ∀ v, RelD Z H' m' d' v → Q v H'
def rD2 (Z : Zx) (W : XK) (f : D → D → C D) : R2 := fun x y H Q => ∃ m d e M, RelD Z H m d x ∧ RelD Z H m e y ∧ HRel Z H m M ∧ Post Z W H m (f d e M) fun d' H' m' _ => ∀ v, RelD Z H' m' d' v → Q v H'
def rDn (Z : Zx) (W : XK) (f : List D → C D) : List V → Hp → VK → Prop := fun xs H Q => ∃ m ds M, RelDs Z H m ds xs ∧ HRel Z H m M ∧ Post Z W H m (f ds M) fun d' H' m' _ => ∀ v, RelD Z H' m' d' v → Q v H'

def eOp (f : D → D → C D) (ta tb : ED) : ED := fun s => (ta s).bind fun x => (tb s).bind fun y => f x y
def eUn (f : D → C D) (ta : ED) : ED := fun s => (ta s).bind f
def eCb (f : List D → C D) (ta : AD) : ED := fun s => (ta s).bind f
def aNil : AD := fun _ => C.ret []
def aCons (ta : ED) (tr : AD) : AD := fun s => (ta s).bind fun x => (tr s).bind fun xs => C.ret (x :: xs)
/-- a value that is a truth -/
def C.asB (t : C D) : C Bool := t.bind fun
  | .bl b => C.ret b
  | _ => C.bad

section
variable {X : Cx} {W : XK} {a b c : Expr} {ta tb tc : ED} {pos : Pos}

theorem two {r : R2} {f : D → D → C D} (hr : ∀ x y H Q, rD2 (zOf X) W f x y H Q → r x y H Q) (σ : L2.St) (H : Hp) (Q : VK) (h : tD (zOf X) W (eOp f ta tb) σ H Q) : tOp r (tD (zOf X) W ta) (tD (zOf X) W tb) σ H Q := by
  obtain ⟨m, s, M, hs, hM, p⟩ := h
  refine ⟨m, s, M, hs, hM, p.bind.mono fun dx H1 m1 M1 st1 hM1 p1 x rx => ?_⟩
  refine ⟨m1, s, M1, hs.mono st1, hM1, p1.bind.mono fun dy H2 m2 M2 st2 hM2 p2 y ry => ?_⟩
  exact hr x y H2 Q ⟨m2, dx, dy, M2, st2.rel rx, ry, hM2, p2⟩

theorem me_op {op : Operator} {f : D → D → C D} (ho : OpR X (binaryOp op) (rD2 (zOf X) W f)) (ha : ME X W a ta) (hb : ME X W b tb) : ME X W (.BinOp a op b pos) (eOp f ta tb) :=
  pe_mono (pe_op ho ha hb) (two fun _ _ _ _ h => h)
theorem me_cmp {op : CmpOp} {f : D → D → C D} (ho : OpR X (compareOp op) (rD2 (zOf X) W f)) (ha : ME X W a ta) (hb : ME X W b tb) (hm : behindInMarks op b = false) : ME X W (.Compare a [op] [b] pos) (eOp f ta tb) :=
  pe_mono (pe_cmpR ho ha hb hm) (two fun _ _ _ _ h => h)
theorem mt_cmp {op : CmpOp} {f : D → D → C D} (ho : OpR X (compareOp op) (rD2 (zOf X) W f)) (ha : ME X W a ta) (hb : ME X W b tb) (hm : behindInMarks op b = false) : MT X W (.Compare a [op] [b] pos) (fun s => (eOp f ta tb s).asB) := by
  refine pt_mono (pt_cmpR ho ha hb hm) fun σ H Q h => ?_
  obtain ⟨m, s, M, hs, hM, p⟩ := h
  refine two (fun _ _ _ _ h => h) σ H _ ⟨m, s, M, hs, hM, (Post.bind p).mono fun d H1 m1 M1 st1 hM1 p1 v rv => ?_⟩
  cases d with
  | bl k => exact ⟨k, rv, p1.ok hM1⟩
  | _ => exact p1.elim
theorem me_un {op : UnaryOp} {f : D → C D} (ho : UnR X (unaryOp op) (rD1 (zOf X) W f)) (ha : ME X W a ta) : ME X W (.UnaryOp op a pos) (eUn f ta) := by
  refine pe_mono (pe_un ho ha) fun σ H Q h => ?_
  obtain ⟨m, s, M, hs, hM, p⟩ := h
  exact ⟨m, s, M, hs, hM, p.bind.mono fun dx H1 m1 M1 st1 hM1 p1 x rx => ⟨m1, dx, M1, rx, hM1, p1⟩⟩
theorem me_ix {f : D → D → C D} (ho : IxR X (rD2 (zOf X) W f)) (ha : ME X W a ta) (hb : ME X W b tb) (hs : PlainIx b) : ME X W (.Subscript a b pos) (eOp f ta tb) :=
  pe_mono (pe_ix ho ha hb hs) (two fun _ _ _ _ h => h)

/-! ### names and constants -/
def eVar (i : Nat) : ED := fun s => match s[i]? with
  | some (some d) => C.ret d
  | _ => C.bad
def eC (d : D) : ED := fun _ => C.ret d
theorem me_var (i : Nat) {x : Str} (hN : X.N[i]? = some x := by rfl) (hv : Vis X.env.scope x := by first | exact Or.inl rfl | exact Or.inr (Or.inl rfl) | exact Or.inr (Or.inr rfl)) (hd : (x == ("__debug__" : Str)) = false := by decide)
    (hcd : (x == ("__classdict__" : Str)) = false := by decide) : ME X W (.Name x pos) (eVar i) := by
  refine pe_mono (pe_var hN hv hd hcd) fun σ H Q h => ?_
  obtain ⟨m, s, M, hs, hM, p⟩ := h
  unfold eVar at p
  cases e : s[i]? with
  | none => rw [e] at p; exact p.elim
  | some o =>
    cases o with
    | none => rw [e] at p; exact p.elim
    | some d =>
      rw [e] at p
      obtain ⟨v, e1, r⟩ := hs.val i d e
      exact ⟨v, e1, p.ok hM v r⟩
theorem me_const {e : Expr} {d : D} {v : V} (h : PE X e (tC v)) (r : ∀ H m, RelD (zOf X) H m d v) : ME X W e (eC d) := by
  refine pe_mono h fun σ H Q h => ?_
  obtain ⟨m, s, M, hs, hM, p⟩ := h
  exact p.ok hM v (r H m)
theorem me_int {i j} : ME X W (.Constant (.int i) j pos) (eC (.int i)) := me_const pe_int fun _ _ => rfl
theorem me_bl {i j} : ME X W (.Constant (.bool i) j pos) (eC (.bl i)) := me_const pe_bl fun _ _ => rfl
theorem me_str {i j} : ME X W (.Constant (.str i) j pos) (eC (.str i)) := me_const pe_str fun _ _ => rfl
theorem me_non {j} : ME X W (.Constant .none j pos) (eC .non) := me_const pe_non fun _ _ => rfl
/-- a constant of the module -/
theorem me_glob {x : Str} {d : D} {v : V} {u : Value} (r : ∀ H m, RelD (zOf X) H m d v) (hg : Gl X x) (hm : X.mg x = some u) (rv : RelV v u) (hd : (x == ("__debug__" : Str)) = false := by decide) : ME X W (.Name x pos) (eC d) := me_const (pe_glob hg hm rv hd) r

/-! ### ints -/
def D.int2 (g : Int → Int → C D) : D → D → C D
  | .int i, .int j => g i j
  | _, _ => C.bad
theorem op_int {f : Value → Value → Sem Value} {P : Int → Int → Prop} [∀ i j, Decidable (P i j)] {g : Int → Int → V} {g' : Int → Int → D} (ho : OpR X f (rI P g)) (hg : ∀ i j H m, RelD (zOf X) H m (g' i j) (g i j)) :
    OpR X f (rD2 (zOf X) W (D.int2 fun i j => if P i j then C.ret (g' i j) else C.bad)) := by
  intro pins s σ H x y v u Q I rx ry h
  obtain ⟨m, d, e, M, r1, r2, hM, p⟩ := h
  cases d with
  | int i =>
    cases e with
    | int j =>
      have r1 : x = .int i := r1
      have r2 : y = .int j := r2
      subst r1 r2
      unfold D.int2 at p
      by_cases hp : P i j
      · simp only [if_pos hp] at p
        exact ho pins s σ H _ _ v u Q I rx ry ⟨i, j, rfl, rfl, hp, p.ok hM _ (hg i j H m)⟩
      · simp only [if_neg hp] at p
        exact p.elim
    | _ => exact p.elim
  | _ => exact p.elim
theorem op_int0 {f : Value → Value → Sem Value} {g : Int → Int → V} {g' : Int → Int → D} (ho : OpR X f (rI0 g)) (hg : ∀ i j H m, RelD (zOf X) H m (g' i j) (g i j)) :
    OpR X f (rD2 (zOf X) W (D.int2 fun i j => C.ret (g' i j))) := by
  intro pins s σ H x y v u Q I rx ry h
  obtain ⟨m, d, e, M, r1, r2, hM, p⟩ := h
  cases d with
  | int i =>
    cases e with
    | int j =>
      have r1 : x = .int i := r1
      have r2 : y = .int j := r2
      subst r1 r2
      exact ho pins s σ H _ _ v u Q I rx ry ⟨i, j, rfl, rfl, p.ok hM _ (hg i j H m)⟩
    | _ => exact p.elim
  | _ => exact p.elim

instance (i j : Int) : Decidable (CMul i j) := by unfold CMul; exact inferInstance
instance (i j : Int) : Decidable (CDivN i j) := by unfold CDivN; exact inferInstance
instance (i j : Int) : Decidable (CPow i j) := by unfold CPow; exact inferInstance
def subD : D → D → C D := D.int2 fun i j => C.ret (.int (i - j))
def fdivD : D → D → C D := D.int2 fun i j => if CDivN i j then C.ret (.int (i.fdiv j)) else C.bad
def modD : D → D → C D := D.int2 fun i j => if j ≠ 0 then C.ret (.int (i.fmod j)) else C.bad
def powD : D → D → C D := D.int2 fun i j => if CPow i j then C.ret (.int (i ^ j.toNat)) else C.bad
theorem od_sub : OpR X (binaryOp .Sub) (rD2 (zOf X) W subD) := op_int0 op_sub fun _ _ _ _ => rfl
theorem od_fdiv : OpR X (binaryOp .FloorDiv) (rD2 (zOf X) W fdivD) := op_int op_fdivN fun _ _ _ _ => rfl
theorem od_mod : OpR X (binaryOp .Mod) (rD2 (zOf X) W modD) := op_int op_modN fun _ _ _ _ => rfl
theorem od_pow : OpR X (binaryOp .Pow) (rD2 (zOf X) W powD) := op_int op_pow fun _ _ _ _ => rfl

/-! ### new things -/
def newL (xs : List D) : C D := fun M => if xs.length ≤ sizeLine then .ok (.ref M.length) (M ++ [.lst xs]) else .bad
def newT (xs : List D) : C D := fun M => if xs.length ≤ sizeLine then .ok (.tup xs) M else .bad
section
variable {H : Hp} {m : List Addr} {M : Mh} {Z : Zx}
theorem len_new (hM : HRel Z H m M) {p : Addr} : (m ++ [p])[M.length]? = some p := by
  rw [← hM.len, List.getElem?_append_right (Nat.le_refl _), Nat.sub_self]
  rfl
/-- a new list is laid: what is wanted of it -/
theorem Post.newL {xs : List D} {vs : List V} {Q : VK} (p : Post Z W H m (newL xs M) fun d' H' m' _ => ∀ v, RelD Z H' m' d' v → Q v H') (hM : HRel Z H m M) (r : RelDs Z H m xs vs) :
    vs.length ≤ sizeLine ∧ ∀ q, H q = none → Q (.ref q) (upd H q (.lst vs)) := by
  unfold Dn.newL at p
  by_cases hl : xs.length ≤ sizeLine
  · rw [if_pos hl] at p
    refine ⟨by rw [r.length]; exact hl, fun q hq => ?_⟩
    have st := stp_new (m := m) (o := .lst vs) hq
    exact p _ _ st (hrel_new hM hq ⟨vs, upd_same, st.rels r⟩) _ ⟨q, rfl, len_new hM⟩
  · rw [if_neg hl] at p
    exact p.elim
theorem Post.newT {xs : List D} {vs : List V} {Q : VK} (p : Post Z W H m (newT xs M) fun d' H' m' _ => ∀ v, RelD Z H' m' d' v → Q v H') (hM : HRel Z H m M) (r : RelDs Z H m xs vs) :
    vs.length ≤ sizeLine ∧ ∀ q o, H q = none → o.dict = none → Q (.ref q) (upd H q (.frz o (.tup vs))) := by
  unfold Dn.newT at p
  by_cases hl : xs.length ≤ sizeLine
  · rw [if_pos hl] at p
    refine ⟨by rw [r.length]; exact hl, fun q o hq hd => ?_⟩
    have st := stp_laid (m := m) (o := .frz o (.tup vs)) hq
    exact p _ _ st (hrel_laid hM hq) _ ⟨q, vs, rfl, TupN.of hd, st.rels r⟩
  · rw [if_neg hl] at p
    exact p.elim
end

/-! ### argument lists, displays, calls by name -/
theorem ma_nil : MA X W [] aNil := pa_mono pa_nil fun σ H Q h => by
  obtain ⟨m, s, M, hs, hM, p⟩ := h
  exact p.ok hM [] rfl
theorem ma_cons {e : Expr} {es : List Expr} {te : ED} {t : AD} (ha : ME X W e te) (hr : MA X W es t) (hs : starEach (e :: es) X.env = (false, eval e X.env) :: starEach es X.env := by rfl) : MA X W (e :: es) (aCons te t) := by
  refine pa_mono (pa_cons ha hr hs) fun σ H Q h => ?_
  obtain ⟨m, s, M, hs, hM, p⟩ := h
  refine ⟨m, s, M, hs, hM, p.bind.mono fun dx H1 m1 M1 st1 hM1 p1 x rx => ⟨m1, s, M1, hs.mono st1, hM1, p1.bind.mono fun ds H2 m2 M2 st2 hM2 p2 xs rxs => ?_⟩⟩
  exact p2.ok hM2 (x :: xs) ⟨x, xs, rfl, st2.rel rx, rxs⟩
theorem me_tup {es : List Expr} {t : AD} {x1} (h : MA X W es t) : ME X W (.Tuple es x1 pos) (eCb newT t) := by
  refine pe_mono (pe_tupF h) fun σ H Q h => ?_
  obtain ⟨m, s, M, hs, hM, p⟩ := h
  exact ⟨m, s, M, hs, hM, p.bind.mono fun ds H1 m1 M1 st1 hM1 p1 vs r => p1.newT hM1 r⟩
theorem me_lst {es : List Expr} {t : AD} (h : MA X W es t) : ME X W (.List es pos) (eCb newL t) := by
  refine pe_mono (pe_lst h) fun σ H Q h => ?_
  obtain ⟨m, s, M, hs, hM, p⟩ := h
  exact ⟨m, s, M, hs, hM, p.bind.mono fun ds H1 m1 M1 st1 hM1 p1 vs r => p1.newL hM1 r⟩
section
variable {x : Str} {pp : Pos} {e : Expr} {es : List Expr} {t : AD} {id T : String} {f : List D → C D}
theorem me_callB (hc : CallR X (.builtin id) (rDn (zOf X) W f)) (hg : Gl X x) (hm : X.mg x = none) (hv : bootBuiltins x = some (.builtin id)) (ha : MA X W (e :: es) t) (hn : x ≠ "__name__" := by decide) (hdb : (x == ("__debug__" : Str)) = false := by decide)
    (he : starEach (e :: es) X.env = (false, eval e X.env) :: starEach es X.env := by rfl) (hpl : (backTo pos (starEach es X.env)).any (·.1) = false := by rfl) : ME X W (.Call (.Name x pp) (e :: es) [] pos) (eCb f t) := by
  refine pe_mono (pe_callB hc hg hm hv ha hn hdb he hpl) fun σ H Q h => ?_
  obtain ⟨m, s, M, hs, hM, p⟩ := h
  exact ⟨m, s, M, hs, hM, p.bind.mono fun ds H1 m1 M1 st1 hM1 p1 vs r => ⟨m1, ds, M1, r, hM1, p1⟩⟩
theorem me_callTy (hc : CallR X (.type T) (rDn (zOf X) W f)) (hg : Gl X x) (hm : X.mg x = none) (hv : bootBuiltins x = some (.type T)) (ha : MA X W (e :: es) t) (hn : x ≠ "__name__" := by decide) (hdb : (x == ("__debug__" : Str)) = false := by decide)
    (he : starEach (e :: es) X.env = (false, eval e X.env) :: starEach es X.env := by rfl) (hpl : (backTo pos (starEach es X.env)).any (·.1) = false := by rfl) : ME X W (.Call (.Name x pp) (e :: es) [] pos) (eCb f t) := by
  refine pe_mono (pe_callTy hc hg hm hv ha hn hdb he hpl) fun σ H Q h => ?_
  obtain ⟨m, s, M, hs, hM, p⟩ := h
  exact ⟨m, s, M, hs, hM, p.bind.mono fun ds H1 m1 M1 st1 hM1 p1 vs r => ⟨m1, ds, M1, r, hM1, p1⟩⟩
end

/-! ### what a value is as a sequence -/
/-- a list (changing or not) -/
def getL (M : Mh) : D → Option (List D)
  | .ref n => match M[n]? with
    | some (.lst xs) => some xs
    | _ => none
  | .ls xs => some xs
  | _ => none
def getS (M : Mh) : D → Option (List D)
  | .tup xs => some xs
  | d => getL M d
section
variable {H : Hp} {m : List Addr} {M : Mh} {Z : Zx}
theorem getL_sq {d : D} {v : V} {ds : List D} (hM : HRel Z H m M) (r : RelD Z H m d v) (e : getL M d = some ds) : ∃ a xs, v = .ref a ∧ SqL Z.K H a xs ∧ RelDs Z H m ds xs := by
  cases d with
  | ref n =>
    obtain ⟨a, rfl, hm⟩ := r
    simp only [getL] at e
    cases q : M[n]? with
    | none => rw [q] at e; cases e
    | some o =>
      rw [q] at e
      cases o with
      | lst xs =>
        cases e
        obtain ⟨vs, h1, h2⟩ := hM.at hm q
        exact ⟨a, vs, rfl, SqL.of h1, h2⟩
      | _ => cases e
  | ls xs =>
    cases e
    obtain ⟨a, vs, rfl, h1, h2⟩ := r
    exact ⟨a, vs, rfl, h1.sq, h2⟩
  | _ => cases e
theorem getS_sq {d : D} {v : V} {ds : List D} (hM : HRel Z H m M) (r : RelD Z H m d v) (e : getS M d = some ds) : ∃ a xs, v = .ref a ∧ (SqL Z.K H a xs ∨ SqT Z.K H a xs) ∧ RelDs Z H m ds xs := by
  cases d with
  | tup xs =>
    cases e
    obtain ⟨a, vs, rfl, h1, h2⟩ := r
    exact ⟨a, vs, rfl, .inr h1.sq, h2⟩
  | ref n =>
    obtain ⟨a, xs, h1, h2, h3⟩ := getL_sq hM r (show getL M (.ref n) = some ds from e)
    exact ⟨a, xs, h1, .inl h2, h3⟩
  | ls xs =>
    obtain ⟨a, xs, h1, h2, h3⟩ := getL_sq hM r (show getL M (.ls xs) = some ds from e)
    exact ⟨a, xs, h1, .inl h2, h3⟩
  | _ => cases e
end

/-! ### + -/
def addD : D → D → C D
  | .int i, .int j => C.ret (.int (i + j))
  | .str x, .str y => if x.length + y.length ≤ sizeLine then C.ret (.str (x ++ y)) else C.bad
  | .tup xs, .tup ys => if xs.length + ys.length ≤ sizeLine then C.ret (.tup (xs ++ ys)) else C.bad
  | .ref n, .ref k => fun M => match M[n]?, M[k]? with
    | some (.lst xs), some (.lst ys) => newL (xs ++ ys) M
    | _, _ => .bad
  | _, _ => C.bad
theorem od_add : OpR X (binaryOp .Add) (rD2 (zOf X) W addD) := by
  intro pins s σ H x y v u Q I rx ry h
  obtain ⟨m, d, e, M, r1, r2, hM, p⟩ := h
  cases d with
  | int i =>
    cases e with
    | int j =>
      have r1 : x = .int i := r1
      have r2 : y = .int j := r2
      subst r1 r2
      exact op_add pins s σ H _ _ v u Q I rx ry ⟨i, j, rfl, rfl, p.ok hM _ rfl⟩
    | _ => exact p.elim
  | str i =>
    cases e with
    | str j =>
      have r1 : x = .str i := r1
      have r2 : y = .str j := r2
      subst r1 r2
      unfold addD at p
      by_cases hl : i.length + j.length ≤ sizeLine
      · simp only [if_pos hl] at p
        exact op_add_str pins s σ H _ _ v u Q I rx ry ⟨i, j, rfl, rfl, hl, p.ok hM _ rfl⟩
      · simp only [if_neg hl] at p
        exact p.elim
    | _ => exact p.elim
  | tup xs =>
    cases e with
    | tup ys =>
      obtain ⟨a, vs, rfl, q1, q2⟩ := r1
      obtain ⟨b, us, rfl, q3, q4⟩ := r2
      unfold addD at p
      by_cases hl : xs.length + ys.length ≤ sizeLine
      · simp only [if_pos hl] at p
        refine op_catF pins s σ H _ _ v u Q I rx ry ⟨a, b, vs, us, rfl, rfl, q1.sq, q3.sq, by rw [q2.length, q4.length]; exact hl, fun e => ?_, fun _ e => ?_, fun _ _ q o hq hd => ?_⟩
        · have : xs = [] := by
            cases xs with
            | nil => rfl
            | cons c r => have := q2.length; rw [e] at this; cases this
          subst this
          exact p.ok hM _ ⟨b, us, rfl, q3, q4⟩
        · have : ys = [] := by
            cases ys with
            | nil => rfl
            | cons c r => have := q4.length; rw [e] at this; cases this
          subst this
          exact p.ok hM _ ⟨a, vs, rfl, q1, by rw [List.append_nil]; exact q2⟩
        · have st := stp_laid (m := m) (o := .frz o (.tup (vs ++ us))) hq
          exact p _ _ st (hrel_laid hM hq) _ ⟨q, vs ++ us, rfl, TupN.of hd, st.rels (q2.append q4)⟩
      · simp only [if_neg hl] at p
        exact p.elim
    | _ => exact p.elim
  | ref n =>
    cases e with
    | ref k =>
      unfold addD at p
      simp only at p
      split at p
      · rename_i xs ys e1 e2
        obtain ⟨a, rfl, hm1⟩ := r1
        obtain ⟨b, rfl, hm2⟩ := r2
        obtain ⟨vs, h1, g1⟩ := hM.at hm1 e1
        obtain ⟨us, h2, g2⟩ := hM.at hm2 e2
        have z := Post.newL p hM (g1.append g2)
        exact op_cat pins s σ H _ _ v u Q I rx ry ⟨a, b, vs, us, rfl, rfl, h1, h2, by rw [← List.length_append]; exact z.1, z.2⟩
      · exact p.elim
    | _ => exact p.elim
  | _ => exact p.elim

/-! ### * -/
def mulD : D → D → C D
  | .int i, .int j => if CMul i j then C.ret (.int (i * j)) else C.bad
  | .ref n, .int k => fun M => match M[n]? with
    | some (.lst xs) => if -(2 ^ 63) ≤ k ∧ k < 2 ^ 63 then newL (List.replicate k.toNat xs).flatten M else .bad
    | _ => .bad
  | .tup xs, .int k => if 1 ≤ xs.length ∧ xs.length ≤ 1000 ∧ 2 ≤ k ∧ k ≤ 1000 then C.ret (.tup (List.replicate k.toNat xs).flatten) else C.bad
  | _, _ => C.bad
theorem RelDs.rep {Z : Zx} {H : Hp} {m : List Addr} {ds : List D} {vs : List V} (h : RelDs Z H m ds vs) : ∀ k : Nat, RelDs Z H m (List.replicate k ds).flatten (List.replicate k vs).flatten
  | 0 => rfl
  | k + 1 => by
    rw [List.replicate_succ, List.replicate_succ, List.flatten_cons, List.flatten_cons]
    exact h.append (h.rep k)
theorem rep_len {α : Type} (xs : List α) : ∀ k : Nat, (List.replicate k xs).flatten.length = xs.length * k
  | 0 => rfl
  | k + 1 => by rw [List.replicate_succ, List.flatten_cons, List.length_append, rep_len xs k, Nat.mul_succ, Nat.add_comm]
theorem od_mul : OpR X (binaryOp .Mult) (rD2 (zOf X) W mulD) := by
  intro pins s σ H x y v u Q I rx ry h
  obtain ⟨m, d, e, M, r1, r2, hM, p⟩ := h
  cases d with
  | int i =>
    cases e with
    | int j =>
      have r1 : x = .int i := r1
      have r2 : y = .int j := r2
      subst r1 r2
      unfold mulD at p
      by_cases hl : CMul i j
      · simp only [if_pos hl] at p
        exact op_mul pins s σ H _ _ v u Q I rx ry ⟨i, j, rfl, rfl, hl, p.ok hM _ rfl⟩
      · simp only [if_neg hl] at p
        exact p.elim
    | _ => exact p.elim
  | ref n =>
    cases e with
    | int k =>
      have r2 : y = .int k := r2
      subst r2
      unfold mulD at p
      simp only at p
      split at p
      · rename_i xs e1
        split at p
        · rename_i hk
          obtain ⟨a, rfl, hm1⟩ := r1
          obtain ⟨vs, h1, g1⟩ := hM.at hm1 e1
          have z := Post.newL p hM (g1.rep k.toNat)
          exact op_rep pins s σ H _ _ v u Q I rx ry ⟨a, k, vs, rfl, rfl, h1, hk.1, hk.2, by rw [← rep_len]; exact z.1, z.2⟩
        · exact p.elim
      · exact p.elim
    | _ => exact p.elim
  | tup xs =>
    cases e with
    | int k =>
      have r2 : y = .int k := r2
      subst r2
      unfold mulD at p
      simp only at p
      split at p
      · rename_i hk
        obtain ⟨a, vs, rfl, hq, hr⟩ := r1
        have hl := hr.length
        refine op_repF pins s σ H _ _ v u Q I rx ry ⟨a, k, vs, rfl, rfl, hq.sq, ⟨fun z => ?_, by omega⟩, ⟨hk.2.2.1, hk.2.2.2⟩, fun q o hn hd => ?_⟩
        · rw [z, List.length_nil] at hl; omega
        · have st := stp_laid (m := m) (o := .frz o (.tup (List.replicate k.toNat vs).flatten)) hn
          exact p _ _ st (hrel_laid hM hn) _ ⟨q, _, rfl, TupN.of hd, st.rels (hr.rep k.toNat)⟩
      · exact p.elim
    | _ => exact p.elim
  | _ => exact p.elim
end
end Dn

/-! Dn2: comparisons, items, slices, truth, built-ins by content -/
namespace Dn
open PySem PySem.Spec PyProof.Rows L2

/-! ### data -/
mutual
def toP (h : Nat → Option PyData) : D → Option PyData
  | .non => some .none
  | .bl b => some (.bool b)
  | .int i => some (.int i)
  | .str x => some (.str x)
  | .tup ds => (toPs h ds).map PyData.tuple
  | .ls ds => (toPs h ds).map PyData.list
  | .ref n => h n
  | .glo _ => none
  | .rod _ => none
def toPs (h : Nat → Option PyData) : List D → Option (List PyData)
  | [] => some []
  | d :: ds => match toP h d, toPs h ds with
    | some p, some ps => some (p :: ps)
    | _, _ => none
end
def hP (M : Mh) : Nat → Nat → Option PyData
  | 0, _ => none
  | k + 1, n => match M[n]? with
    | some (.lst ds) => (toPs (hP M k) ds).map PyData.list
    | _ => none
def dataOf (M : Mh) (d : D) : Option PyData := toP (hP M 4) d

section
variable {Z : Zx} {H : Hp} {m : List Addr} {M : Mh}
mutual
theorem toP_dp {h : Nat → Option PyData} (hh : ∀ (n : Nat) p a, h n = some p → m[n]? = some a → Dp Z.K H (.ref a) p) : ∀ (d : D) (v : V) (p : PyData), RelD Z H m d v → toP h d = some p → Dp Z.K H v p
  | .non, v, p, r, e => by
    have r : v = .non := r
    subst r; cases e; exact .non
  | .bl b, v, p, r, e => by
    have r : v = .bl b := r
    subst r; cases e; exact .bl b
  | .int b, v, p, r, e => by
    have r : v = .int b := r
    subst r; cases e; exact .int b
  | .str b, v, p, r, e => by
    have r : v = .str b := r
    subst r; cases e; exact .str b
  | .tup ds, v, p, r, e => by
    obtain ⟨a, xs, rfl, q, r⟩ := r
    simp only [toP, Option.map_eq_some_iff] at e
    obtain ⟨ps, e1, rfl⟩ := e
    exact .tup q.sq (toPs_dp hh ds xs ps r e1)
  | .ls ds, v, p, r, e => by
    obtain ⟨a, xs, rfl, q, r⟩ := r
    simp only [toP, Option.map_eq_some_iff] at e
    obtain ⟨ps, e1, rfl⟩ := e
    exact .lst q.sq (toPs_dp hh ds xs ps r e1)
  | .ref n, v, p, r, e => by
    obtain ⟨a, rfl, q⟩ := r
    exact hh n p a e q
  | .glo _, v, p, r, e => by cases e
  | .rod _, v, p, r, e => by cases e
theorem toPs_dp {h : Nat → Option PyData} (hh : ∀ (n : Nat) p a, h n = some p → m[n]? = some a → Dp Z.K H (.ref a) p) : ∀ (ds : List D) (vs : List V) (ps : List PyData), RelDs Z H m ds vs → toPs h ds = some ps → DpAll Z.K H vs ps
  | [], vs, ps, r, e => by
    have r : vs = [] := r
    subst r; cases e; exact .nil
  | d :: ds, vs, ps, r, e => by
    obtain ⟨v, rest, rfl, r1, r2⟩ := r
    simp only [toPs] at e
    split at e
    · rename_i p q e1 e2
      cases e
      exact .cons (toP_dp hh d v p r1 e1) (toPs_dp hh ds rest q r2 e2)
    · cases e
end
theorem hP_dp (hM : HRel Z H m M) : ∀ (k n : Nat) p a, hP M k n = some p → m[n]? = some a → Dp Z.K H (.ref a) p
  | 0, _, _, _, e, _ => by cases e
  | k + 1, n, p, a, e, q => by
    simp only [hP] at e
    split at e
    · rename_i ds e1
      simp only [Option.map_eq_some_iff] at e
      obtain ⟨ps, e2, rfl⟩ := e
      obtain ⟨xs, h1, h2⟩ := hM.at q e1
      exact .lst (SqL.of h1) (toPs_dp (hP_dp hM k) ds xs ps h2 e2)
    · cases e
theorem data_dp (hM : HRel Z H m M) {d : D} {v : V} {p : PyData} (r : RelD Z H m d v) (e : dataOf M d = some p) : Dp Z.K H v p := toP_dp (hP_dp hM 4) d v p r e
end

/-- flat values -/
def flatD : D → Bool
  | .non => true
  | .bl _ => true
  | .int _ => true
  | .str _ => true
  | _ => false
def eqF : D → D → Bool
  | .non, .non => true
  | .bl a, .bl b => a == b
  | .bl a, .int b => (if a then 1 else 0) == b
  | .int a, .bl b => a == (if b then 1 else 0)
  | .int a, .int b => a == b
  | .str a, .str b => a == b
  | _, _ => false
def inF (x : D) (xs : List D) : Bool := xs.any fun y => eqF y x
section
variable {Z : Zx} {H : Hp} {m : List Addr} {M : Mh}
theorem flatD_v {d : D} {v : V} (r : RelD Z H m d v) (h : flatD d = true) : flatV v = true := by
  cases d with
  | non => have r : v = .non := r; subst r; rfl
  | bl b => have r : v = .bl b := r; subst r; rfl
  | int b => have r : v = .int b := r; subst r; rfl
  | str b => have r : v = .str b := r; subst r; rfl
  | _ => cases h
theorem eqF_v {d e : D} {v u : V} (r : RelD Z H m d v) (r' : RelD Z H m e u) (h : flatD d = true) (h' : flatD e = true) : eqV v u = eqF d e := by
  cases d with
  | non =>
    have r : v = .non := r; subst r
    cases e with
    | non => have r' : u = .non := r'; subst r'; rfl
    | bl b => have r' : u = .bl b := r'; subst r'; rfl
    | int b => have r' : u = .int b := r'; subst r'; rfl
    | str b => have r' : u = .str b := r'; subst r'; rfl
    | _ => cases h'
  | bl b =>
    have r : v = .bl b := r; subst r
    cases e with
    | non => have r' : u = .non := r'; subst r'; rfl
    | bl b => have r' : u = .bl b := r'; subst r'; rfl
    | int b => have r' : u = .int b := r'; subst r'; rfl
    | str b => have r' : u = .str b := r'; subst r'; rfl
    | _ => cases h'
  | int b =>
    have r : v = .int b := r; subst r
    cases e with
    | non => have r' : u = .non := r'; subst r'; rfl
    | bl b => have r' : u = .bl b := r'; subst r'; rfl
    | int b => have r' : u = .int b := r'; subst r'; rfl
    | str b => have r' : u = .str b := r'; subst r'; rfl
    | _ => cases h'
  | str b =>
    have r : v = .str b := r; subst r
    cases e with
    | non => have r' : u = .non := r'; subst r'; rfl
    | bl b => have r' : u = .bl b := r'; subst r'; rfl
    | int b => have r' : u = .int b := r'; subst r'; rfl
    | str b => have r' : u = .str b := r'; subst r'; rfl
    | _ => cases h'
  | _ => cases h
theorem flatDs_v : ∀ {ds : List D} {vs : List V}, RelDs Z H m ds vs → ds.all flatD = true → vs.all flatV = true
  | [], vs, r, _ => by
    have r : vs = [] := r
    subst r; rfl
  | d :: ds, vs, r, h => by
    obtain ⟨v, rest, rfl, r1, r2⟩ := r
    rw [List.all_cons, Bool.and_eq_true] at h ⊢
    exact ⟨flatD_v r1 h.1, flatDs_v r2 h.2⟩
theorem inF_v {d : D} {v : V} (r : RelD Z H m d v) (h : flatD d = true) : ∀ {ds : List D} {vs : List V}, RelDs Z H m ds vs → ds.all flatD = true → inV v vs = inF d ds
  | [], vs, r', _ => by
    have r' : vs = [] := r'
    subst r'; rfl
  | e :: ds, vs, r', h' => by
    obtain ⟨u, rest, rfl, r1, r2⟩ := r'
    rw [List.all_cons, Bool.and_eq_true] at h'
    have ih := inF_v r h r2 h'.2
    unfold inV inF at ih ⊢
    rw [List.any_cons, List.any_cons, eqF_v r1 r h'.1 h, ih]
end

/-! ### == -/
def eqS : D → D → Option Bool
  | .non, .non => some true
  | .non, .int _ => some false
  | .int _, .non => some false
  | .non, .bl _ => some false
  | .bl _, .non => some false
  | .non, .str _ => some false
  | .str _, .non => some false
  | .int i, .int j => some (decide (i = j))
  | .bl i, .bl j => some (decide (i = j))
  | .str i, .str j => some (decide (i = j))
  | .int _, .str _ => some false
  | .str _, .int _ => some false
  | .bl _, .str _ => some false
  | .str _, .bl _ => some false
  | _, _ => none
/-- == by content -/
def eqC (a b : D) : C Bool := fun M => match eqS a b with
  | some r => .ok r M
  | none => match dataOf M a, dataOf M b with
    | some p, some q => if SeqAt.shaped p = true ∧ SeqAt.shaped q = true then .ok (PyData.eqv p q) M else .bad
    | _, _ => .bad
def eqD (a b : D) : C D := (eqC a b).bind fun r => C.ret (.bl r)
def neD (a b : D) : C D := (eqC a b).bind fun r => C.ret (.bl (!r))
section
variable {Z : Zx} {H : Hp} {m : List Addr} {M : Mh}
theorem eqS_v {d e : D} {v u : V} {b : Bool} (r : RelD Z H m d v) (r' : RelD Z H m e u) (h : eqS d e = some b) : scal v u = true ∧ decide (v = u) = b := by
  cases d with
  | non =>
    have r : v = .non := r; subst r
    cases e with
    | non => have r' : u = .non := r'; subst r'; cases h; exact ⟨rfl, by simp⟩
    | bl b => have r' : u = .bl b := r'; subst r'; cases h; exact ⟨rfl, by simp⟩
    | int b => have r' : u = .int b := r'; subst r'; cases h; exact ⟨rfl, by simp⟩
    | str b => have r' : u = .str b := r'; subst r'; cases h; exact ⟨rfl, by simp⟩
    | _ => cases h
  | bl b =>
    have r : v = .bl b := r; subst r
    cases e with
    | non => have r' : u = .non := r'; subst r'; cases h; exact ⟨rfl, by simp⟩
    | bl b => have r' : u = .bl b := r'; subst r'; cases h; exact ⟨rfl, by simp⟩
    | str b => have r' : u = .str b := r'; subst r'; cases h; exact ⟨rfl, by simp⟩
    | _ => cases h
  | int b =>
    have r : v = .int b := r; subst r
    cases e with
    | non => have r' : u = .non := r'; subst r'; cases h; exact ⟨rfl, by simp⟩
    | int b => have r' : u = .int b := r'; subst r'; cases h; exact ⟨rfl, by simp⟩
    | str b => have r' : u = .str b := r'; subst r'; cases h; exact ⟨rfl, by simp⟩
    | _ => cases h
  | str b =>
    have r : v = .str b := r; subst r
    cases e with
    | non => have r' : u = .non := r'; subst r'; cases h; exact ⟨rfl, by simp⟩
    | bl b => have r' : u = .bl b := r'; subst r'; cases h; exact ⟨rfl, by simp⟩
    | int b => have r' : u = .int b := r'; subst r'; cases h; exact ⟨rfl, by simp⟩
    | str b => have r' : u = .str b := r'; subst r'; cases h; exact ⟨rfl, by simp⟩
    | _ => cases h
  | _ => cases e <;> cases h
end
section
variable {X : Cx} {W : XK}
theorem od_eq (hu : X.A.units + 64 < cLine) : OpR X (compareOp .Eq) (rD2 (zOf X) W eqD) := by
  intro pins s σ H x y v u Q I rx ry h
  obtain ⟨m, d, e, M, r1, r2, hM, p⟩ := h
  unfold eqD C.bind eqC at p
  cases hs : eqS d e with
  | some b =>
    simp only [hs] at p
    obtain ⟨h1, h2⟩ := eqS_v r1 r2 hs
    exact op_eq pins s σ H x y v u Q I rx ry ⟨h1, by rw [h2]; exact p.ok hM _ rfl⟩
  | none =>
    simp only [hs] at p
    cases ha : dataOf M d with
    | none => rw [ha] at p; exact p.elim
    | some pa =>
      cases hb : dataOf M e with
      | none => rw [ha, hb] at p; exact p.elim
      | some pb =>
        rw [ha, hb] at p
        simp only at p
        by_cases hc : SeqAt.shaped pa = true ∧ SeqAt.shaped pb = true
        · rw [if_pos hc] at p
          exact op_eqD hu pins s σ H x y v u Q I rx ry ⟨pa, pb, data_dp hM r1 ha, data_dp hM r2 hb, hc.1, hc.2, p.ok hM _ rfl⟩
        · rw [if_neg hc] at p
          exact p.elim
theorem od_ne (hu : X.A.units + 64 < cLine) : OpR X (compareOp .NotEq) (rD2 (zOf X) W neD) := by
  intro pins s σ H x y v u Q I rx ry h
  obtain ⟨m, d, e, M, r1, r2, hM, p⟩ := h
  unfold neD C.bind eqC at p
  cases hs : eqS d e with
  | some b =>
    simp only [hs] at p
    obtain ⟨h1, h2⟩ := eqS_v r1 r2 hs
    exact op_ne pins s σ H x y v u Q I rx ry ⟨h1, by rw [h2]; exact p.ok hM _ rfl⟩
  | none =>
    simp only [hs] at p
    cases ha : dataOf M d with
    | none => rw [ha] at p; exact p.elim
    | some pa =>
      cases hb : dataOf M e with
      | none => rw [ha, hb] at p; exact p.elim
      | some pb =>
        rw [ha, hb] at p
        simp only at p
        by_cases hc : SeqAt.shaped pa = true ∧ SeqAt.shaped pb = true
        · rw [if_pos hc] at p
          exact op_neD hu pins s σ H x y v u Q I rx ry ⟨pa, pb, data_dp hM r1 ha, data_dp hM r2 hb, hc.1, hc.2, p.ok hM _ rfl⟩
        · rw [if_neg hc] at p
          exact p.elim

/-! ### order -/
def ordD (pi : Int → Int → Bool) (ps : List Nat → List Nat → Bool) : D → D → C D
  | .int i, .int j => C.ret (.bl (pi i j))
  | .str x, .str y => C.ret (.bl (ps x.cps.toList y.cps.toList))
  | _, _ => C.bad
def ltD : D → D → C D := ordD (fun i j => decide (i < j)) (fun x y => decide (x < y))
def leD : D → D → C D := ordD (fun i j => decide (i ≤ j)) (fun x y => !decide (y < x))
def gtD : D → D → C D := ordD (fun i j => decide (j < i)) (fun x y => decide (y < x))
def geD : D → D → C D := ordD (fun i j => decide (j ≤ i)) (fun x y => !decide (x < y))
theorem od_ord {op : CmpOp} {pi : Int → Int → Bool} {ps : List Nat → List Nat → Bool} (h1 : OpR X (compareOp op) (rI0 fun i j => .bl (pi i j))) (h2 : OpR X (compareOp op) (fun x y H Q => ∃ i j, x = .str i ∧ y = .str j ∧ Q (.bl (ps i.cps.toList j.cps.toList)) H)) :
    OpR X (compareOp op) (rD2 (zOf X) W (ordD pi ps)) := by
  intro pins s σ H x y v u Q I rx ry h
  obtain ⟨m, d, e, M, r1, r2, hM, p⟩ := h
  cases d with
  | int i =>
    cases e with
    | int j =>
      have r1 : x = .int i := r1
      have r2 : y = .int j := r2
      subst r1 r2
      exact h1 pins s σ H _ _ v u Q I rx ry ⟨i, j, rfl, rfl, p.ok hM _ rfl⟩
    | _ => exact p.elim
  | str i =>
    cases e with
    | str j =>
      have r1 : x = .str i := r1
      have r2 : y = .str j := r2
      subst r1 r2
      exact h2 pins s σ H _ _ v u Q I rx ry ⟨i, j, rfl, rfl, p.ok hM _ rfl⟩
    | _ => exact p.elim
  | _ => exact p.elim
theorem od_lt : OpR X (compareOp .Lt) (rD2 (zOf X) W ltD) := od_ord op_lt op_lt_str
theorem od_le : OpR X (compareOp .LtE) (rD2 (zOf X) W leD) := od_ord op_le op_le_str
theorem od_gt : OpR X (compareOp .Gt) (rD2 (zOf X) W gtD) := od_ord op_gt op_gt_str
theorem od_ge : OpR X (compareOp .GtE) (rD2 (zOf X) W geD) := od_ord op_ge op_ge_str

/-! ### is None -/
def isND : D → D → C D
  | .non, .non => C.ret (.bl true)
  | _, .non => C.ret (.bl false)
  | .bl a, .bl b => C.ret (.bl (decide (a = b)))
  | _, _ => C.bad
def notND : D → D → C D
  | .non, .non => C.ret (.bl false)
  | _, .non => C.ret (.bl true)
  | .bl a, .bl b => C.ret (.bl (!decide (a = b)))
  | _, _ => C.bad
theorem rel_non {Z : Zx} {H : Hp} {m : List Addr} {d : D} {v : V} (r : RelD Z H m d v) (h : d ≠ .non) : v ≠ .non := by
  cases d with
  | non => exact absurd rfl h
  | bl b => have r : v = .bl b := r; subst r; exact fun z => by cases z
  | int b => have r : v = .int b := r; subst r; exact fun z => by cases z
  | str b => have r : v = .str b := r; subst r; exact fun z => by cases z
  | tup b => obtain ⟨a, xs, rfl, _⟩ := r; exact fun z => by cases z
  | ls b => obtain ⟨a, xs, rfl, _⟩ := r; exact fun z => by cases z
  | ref b => obtain ⟨a, rfl, _⟩ := r; exact fun z => by cases z
  | glo b => obtain ⟨a, rfl, _⟩ := r; exact fun z => by cases z
  | rod b => obtain ⟨a, rfl, _⟩ := r; exact fun z => by cases z
theorem od_is : OpR X (compareOp .Is) (rD2 (zOf X) W isND) := by
  intro pins s σ H x y v u Q I rx ry h
  obtain ⟨m, d, e, M, r1, r2, hM, p⟩ := h
  cases e with
  | non =>
    have r2 : y = .non := r2
    subst r2
    refine op_isN pins s σ H x _ v u Q I rx ry ⟨rfl, ?_⟩
    by_cases hd : d = .non
    · subst hd
      have r1 : x = .non := r1
      subst r1
      exact p.ok hM _ rfl
    · rw [decide_eq_false (rel_non r1 hd)]
      cases d <;> first | exact absurd rfl hd | exact p.ok hM _ rfl
  | bl b =>
    have r2 : y = .bl b := r2
    subst r2
    cases d with
    | bl a =>
      have r1 : x = .bl a := r1
      subst r1
      exact op_isBl pins s σ H _ _ v u Q I rx ry ⟨a, b, rfl, rfl, p.ok hM _ rfl⟩
    | _ => exact p.elim
  | _ => cases d <;> exact p.elim
theorem od_isnot : OpR X (compareOp .IsNot) (rD2 (zOf X) W notND) := by
  intro pins s σ H x y v u Q I rx ry h
  obtain ⟨m, d, e, M, r1, r2, hM, p⟩ := h
  cases e with
  | non =>
    have r2 : y = .non := r2
    subst r2
    refine op_notN pins s σ H x _ v u Q I rx ry ⟨rfl, ?_⟩
    by_cases hd : d = .non
    · subst hd
      have r1 : x = .non := r1
      subst r1
      exact p.ok hM _ rfl
    · rw [decide_eq_false (rel_non r1 hd)]
      cases d <;> first | exact absurd rfl hd | exact p.ok hM _ rfl
  | bl b =>
    have r2 : y = .bl b := r2
    subst r2
    cases d with
    | bl a =>
      have r1 : x = .bl a := r1
      subst r1
      exact op_notBl pins s σ H _ _ v u Q I rx ry ⟨a, b, rfl, rfl, p.ok hM _ rfl⟩
    | _ => exact p.elim
  | _ => cases d <;> exact p.elim

/-! ### in -/
def strIn (x y : Str) : Bool := match x.cps.toList with
  | [c] => decide (c ∈ y.cps.toList)
  | _ => !(Builtin.Str.occurrences y x 0 y.length 1).isEmpty
def inQ (x y : D) : C Bool := fun M => match getS M y with
  | some ds =>
    if flatD x = true ∧ ds.all flatD = true then .ok (inF x ds) M else
    match dataOf M x, dataOf M y with
    | some p, some (.list qs) => if SeqAt.shaped p = true ∧ SeqAt.shaped (.list qs) = true then .ok (qs.any fun z => PyData.eqv z p) M else .bad
    | _, _ => .bad
  | none => .bad
/-- x in y by content -/
def inC (x y : D) : C Bool := match y with
  | .str b => match x with
    | .str a => C.ret (strIn a b)
    | _ => C.bad
  | .rod kvs => match x with
    | .str a => C.ret (kvs.lookup a).isSome
    | _ => C.bad
  | y => inQ x y
def inD (x y : D) : C D := (inC x y).bind fun r => C.ret (.bl r)
def ninD (x y : D) : C D := (inC x y).bind fun r => C.ret (.bl (!r))
theorem str_one {x : Str} {c : Nat} (h : x.cps.toList = [c]) : x = ⟨#[c]⟩ := by
  obtain ⟨a⟩ := x
  have h : a.toList = [c] := h
  have : a = #[c] := by
    apply Array.toList_inj.mp
    rw [h]
  rw [this]
/-- what in and not in share -/
theorem in_core {f : Value → Value → Sem Value} {g : Bool → Bool}
    (h1 : OpR X f (fun x y H Q => ∃ (c : Nat) (z : Str), x = .str ⟨#[c]⟩ ∧ y = .str z ∧ Q (.bl (g (decide (c ∈ z.cps.toList)))) H))
    (h2 : OpR X f (fun x y H Q => ∃ i j, x = .str i ∧ y = .str j ∧ Q (.bl (g (!(Builtin.Str.occurrences j i 0 j.length 1).isEmpty))) H))
    (h3 : ∀ d es n, KDict X.K X.w d es n → OpR X f (fun x y H Q => ∃ (z : Str) (r : Option Value), x = .str z ∧ y = .ref d ∧ PySem.W.nsIn X.K d z = some r ∧ Q (.bl (g r.isSome)) H))
    (h4 : OpR X f (fun x y H Q => ∃ p xs, y = .ref p ∧ (SqL X.K H p xs ∨ SqT X.K H p xs) ∧ flatV x = true ∧ xs.all flatV = true ∧ Q (.bl (g (inV x xs))) H))
    (h5 : OpR X f (fun x y H Q => ∃ d ds, Dp X.K H x d ∧ Dp X.K H y (.list ds) ∧ SeqAt.shaped d = true ∧ SeqAt.shaped (.list ds) = true ∧ Q (.bl (g (ds.any fun z => PyData.eqv z d))) H)) :
    OpR X f (rD2 (zOf X) W fun x y => (inC x y).bind fun r => C.ret (.bl (g r))) := by
  intro pins s σ H x y v u Q I rx ry h
  obtain ⟨m, d, e, M, r1, r2, hM, p⟩ := h
  have seq : ∀ ds, getS M e = some ds → (∀ b, e ≠ .str b) → (∀ b, e ≠ .rod b) → wpAny (model X.prog X.w) X.A (f v u) (EP X pins σ Q) X.xe s := by
    intro ds hg n1 n2
    obtain ⟨a, xs, e1, hq, hr⟩ := getS_sq hM r2 hg
    have p' : Post (zOf X) W H m ((inQ d e).bind (fun r => C.ret (.bl (g r))) M) fun d' H' m' _ => ∀ v, RelD (zOf X) H' m' d' v → Q v H' := by
      unfold C.bind at p ⊢
      unfold inC at p
      cases e with
      | str b => exact absurd rfl (n1 b)
      | rod b => exact absurd rfl (n2 b)
      | _ => exact p
    unfold inQ at p'
    unfold C.bind at p'
    simp only [hg] at p'
    by_cases hc : flatD d = true ∧ ds.all flatD = true
    · rw [if_pos hc] at p'
      exact h4 pins s σ H x y v u Q I rx ry ⟨a, xs, e1, hq, flatD_v r1 hc.1, flatDs_v hr hc.2, by rw [inF_v r1 hc.1 hr hc.2]; exact p'.ok hM _ rfl⟩
    · rw [if_neg hc] at p'
      cases ha : dataOf M d with
      | none => rw [ha] at p'; exact p'.elim
      | some pa =>
        cases hb : dataOf M e with
        | none => rw [ha, hb] at p'; exact p'.elim
        | some pb =>
          rw [ha, hb] at p'
          cases pb with
          | list qs =>
            simp only at p'
            by_cases hs : SeqAt.shaped pa = true ∧ SeqAt.shaped (.list qs) = true
            · rw [if_pos hs] at p'
              exact h5 pins s σ H x y v u Q I rx ry ⟨pa, qs, data_dp hM r1 ha, data_dp hM r2 hb, hs.1, hs.2, p'.ok hM _ rfl⟩
            · rw [if_neg hs] at p'
              exact p'.elim
          | _ => exact p'.elim
  cases e with
  | str b =>
    have r2 : y = .str b := r2
    subst r2
    cases d with
    | str a =>
      have r1 : x = .str a := r1
      subst r1
      unfold C.bind inC strIn at p
      simp only at p
      cases hc : a.cps.toList with
      | nil =>
        rw [hc] at p
        exact h2 pins s σ H _ _ v u Q I rx ry ⟨a, b, rfl, rfl, p.ok hM _ rfl⟩
      | cons c r =>
        cases r with
        | nil =>
          rw [hc] at p
          have := str_one hc
          subst this
          exact h1 pins s σ H _ _ v u Q I rx ry ⟨c, b, rfl, rfl, p.ok hM _ rfl⟩
        | cons c' r =>
          rw [hc] at p
          exact h2 pins s σ H _ _ v u Q I rx ry ⟨a, b, rfl, rfl, p.ok hM _ rfl⟩
    | _ => exact p.elim
  | rod kvs =>
    cases d with
    | str a =>
      have r1 : x = .str a := r1
      subst r1
      obtain ⟨q, rfl, es, n, k1, k2, k3, k4⟩ := r2
      obtain ⟨r, e1, e2⟩ := k4 a
      refine h3 q es n ⟨k1, k2, k3⟩ pins s σ H _ _ v u Q I rx ry ⟨a, r, rfl, rfl, e1, ?_⟩
      have er : r.isSome = (kvs.lookup a).isSome := by
        cases hl : kvs.lookup a with
        | none =>
          rw [hl] at e2
          cases r with
          | none => rfl
          | some _ => exact e2.elim
        | some _ =>
          rw [hl] at e2
          cases r with
          | none => exact e2.elim
          | some _ => rfl
      rw [er]
      exact p.ok hM _ rfl
    | _ => exact p.elim
  | ref n =>
    cases hg : getS M (.ref n) with
    | none =>
      unfold C.bind inC inQ at p
      simp only [hg] at p
      exact p.elim
    | some ds => exact seq ds hg (fun _ z => by cases z) (fun _ z => by cases z)
  | tup n => exact seq n rfl (fun _ z => by cases z) (fun _ z => by cases z)
  | ls n => exact seq n rfl (fun _ z => by cases z) (fun _ z => by cases z)
  | _ => exact p.elim
theorem od_in (hu : X.A.units + 65 < cLine) : OpR X (compareOp .In) (rD2 (zOf X) W inD) :=
  in_core (g := fun b => b) op_in_sign op_in_str (fun d es n k => op_in_kd k) op_in_seq (op_inD hu)
theorem od_nin (hu : X.A.units + 65 < cLine) : OpR X (compareOp .NotIn) (rD2 (zOf X) W ninD) :=
  in_core (g := fun b => !b) op_notIn_sign op_notin_str (fun d es n k => op_notIn_kd k) op_notIn_seq (op_notInD hu)

/-! ### items -/
def atD (xs : List D) (i : Int) : Option D := (ixN xs.length i).bind fun j => xs[j]?
theorem atD_v {Z : Zx} {H : Hp} {m : List Addr} {ds : List D} {vs : List V} {i : Int} {d : D} (r : RelDs Z H m ds vs) (e : atD ds i = some d) : ∃ v, atI vs i = some v ∧ RelD Z H m d v := by
  unfold atD at e
  rw [Option.bind_eq_some_iff] at e
  obtain ⟨j, e1, e2⟩ := e
  obtain ⟨v, e3, r3⟩ := r.get e2
  refine ⟨v, ?_, r3⟩
  unfold atI
  rw [r.length, e1]
  exact e3
def ixD (x y : D) : C D := fun M => match x, y with
  | .str z, .int i => if z.length ≤ sizeLine then match atI z.cps.toList i with
    | some c => .ok (.str ⟨#[c]⟩) M
    | none => .bad
    else .bad
  | .rod kvs, .str k => match kvs.lookup k with
    | some v => .ok (.str v) M
    | none => .bad
  | x, .int i => match getS M x with
    | some ds => match atD ds i with
      | some d => .ok d M
      | none => .bad
    | none => .bad
  | _, _ => .bad
theorem id_ix : IxR X (rD2 (zOf X) W ixD) := by
  intro value slice pins s σ H x y v u Q I rx ry h hsl
  obtain ⟨m, d, e, M, r1, r2, hM, p⟩ := h
  have seq : ∀ i, e = .int i → (∀ b, d ≠ .str b) → (∀ b, d ≠ .rod b) → wpAny (model X.prog X.w) X.A (subscriptTail value slice v u) (EP X pins σ Q) X.xe s := by
    intro i he n1 n2
    subst he
    have r2 : y = .int i := r2
    subst r2
    have p' : Post (zOf X) W H m ((match getS M d with
      | some ds => match atD ds i with
        | some d => R.ok d M
        | none => .bad
      | none => .bad : R D)) fun d' H' m' _ => ∀ v, RelD (zOf X) H' m' d' v → Q v H' := by
      unfold ixD at p
      cases d with
      | str b => exact absurd rfl (n1 b)
      | rod b => exact absurd rfl (n2 b)
      | _ => exact p
    cases hg : getS M d with
    | none => rw [hg] at p'; exact p'.elim
    | some ds =>
      rw [hg] at p'
      simp only at p'
      cases ha : atD ds i with
      | none => rw [ha] at p'; exact p'.elim
      | some d' =>
        rw [ha] at p'
        obtain ⟨a, xs, e1, hq, hr⟩ := getS_sq hM r1 hg
        obtain ⟨v', e2, r3⟩ := atD_v hr ha
        have fin := p'.ok hM v' r3
        rcases hq with hq | hq
        · exact ix_list value slice pins s σ H x _ v u Q I rx ry ⟨a, xs, i, v', e1, rfl, hq, e2, fin⟩ hsl
        · exact ix_tup value slice pins s σ H x _ v u Q I rx ry ⟨a, xs, i, v', e1, rfl, hq, e2, fin⟩ hsl
  cases d with
  | str z =>
    cases e with
    | int i =>
      have r1 : x = .str z := r1
      have r2 : y = .int i := r2
      subst r1 r2
      unfold ixD at p
      simp only at p
      split at p
      · rename_i hz
        split at p
        · rename_i c hc
          exact ix_str value slice pins s σ H _ _ v u Q I rx ry ⟨z, i, c, rfl, rfl, hz, hc, p.ok hM _ rfl⟩ hsl
        · exact p.elim
      · exact p.elim
    | _ => exact p.elim
  | rod kvs =>
    cases e with
    | str k =>
      have r2 : y = .str k := r2
      subst r2
      unfold ixD at p
      simp only at p
      split at p
      · rename_i w hw
        obtain ⟨q, rfl, es, n, k1, k2, k3, k4⟩ := r1
        obtain ⟨r, e1, e2⟩ := k4 k
        rw [hw] at e2
        cases r with
        | none => exact e2.elim
        | some u0 => exact ix_kdict value slice pins s σ H _ _ v u Q I rx ry ⟨q, k, .str w, rfl, rfl, ⟨es, n, u0, k1, k2, e1, e2⟩, p.ok hM _ rfl⟩ hsl
      · exact p.elim
    | _ => exact p.elim
  | ref n =>
    cases e with
    | int i => exact seq i rfl (fun _ z => by cases z) (fun _ z => by cases z)
    | _ => exact p.elim
  | tup n =>
    cases e with
    | int i => exact seq i rfl (fun _ z => by cases z) (fun _ z => by cases z)
    | _ => exact p.elim
  | ls n =>
    cases e with
    | int i => exact seq i rfl (fun _ z => by cases z) (fun _ z => by cases z)
    | _ => exact p.elim
  | _ =>
    cases e with
    | int i => exact seq i rfl (fun _ z => by cases z) (fun _ z => by cases z)
    | _ => exact p.elim
end
end Dn

/-! Dn3: slices, truth, and/or/not, built-ins and methods by content -/
namespace Dn
open PySem PySem.Spec PyProof.Rows L2

/-! ### slices -/
abbrev OD := Sl → C (Option Int)
def tDO (Z : Zx) (W : XK) (t : OD) : TO := fun σ H Q => ∃ m s M, RelS Z H m s σ ∧ HRel Z H m M ∧ Post Z W H m (t s M) fun o H' _ _ => Q o H'
abbrev MO1 (X : Cx) (W : XK) (e : Option Expr) (t : OD) : Prop := PO X e (tDO (zOf X) W t)
theorem po_mono {X : Cx} {e : Option Expr} {t t' : TO} (h : PO X e t) (i : ∀ σ H Q, t' σ H Q → t σ H Q) : PO X e t' := ⟨fun pins s σ H Q I q => h.run pins s σ H Q I (i σ H Q q)⟩
def oNone : OD := fun _ => C.ret none
def oSome (t : ED) : OD := fun s => (t s).bind fun
  | .int i => C.ret (some i)
  | _ => C.bad
def cutD (xs : List D) (lo hi : Option Int) : List D := (xs.drop (HT.sIx xs.length 0 lo)).take (HT.sIx xs.length xs.length hi - HT.sIx xs.length 0 lo)
def slD (x : D) (lo hi : Option Int) : C D := match x with
  | .str z => if z.length ≤ sizeLine then C.ret (.str (cutS z lo hi)) else C.bad
  | .tup xs => C.ret (.tup (cutD xs lo hi))
  | x => fun M => match getL M x with
    | some ds => newL (cutD ds lo hi) M
    | none => .bad
def eSl (te : ED) (tl th : OD) : ED := fun s => (te s).bind fun x => (tl s).bind fun l => (th s).bind fun u => slD x l u
theorem RelDs.cut {Z : Zx} {H : Hp} {m : List Addr} {ds : List D} {vs : List V} (r : RelDs Z H m ds vs) (lo hi : Option Int) : RelDs Z H m (cutD ds lo hi) (cutV vs lo hi) := by
  unfold cutD cutV
  rw [r.length]
  exact (r.drop _).take _
section
variable {X : Cx} {W : XK} {a b c e : Expr} {ta tb tc te : ED} {pos p2 : Pos}
theorem mo_none : MO1 X W none oNone := po_mono po_none fun σ H Q h => by
  obtain ⟨m, s, M, hs, hM, p⟩ := h
  exact p.ok hM
theorem mo_some (h : ME X W e te) : MO1 X W (some e) (oSome te) := po_mono (po_some h) fun σ H Q h => by
  obtain ⟨m, s, M, hs, hM, p⟩ := h
  refine ⟨m, s, M, hs, hM, p.bind.mono fun d H1 m1 M1 st1 hM1 p1 v rv => ?_⟩
  cases d with
  | int i => exact ⟨i, rv, p1.ok hM1⟩
  | _ => exact p1.elim
def rSl (Z : Zx) (W : XK) : V → Option Int → Option Int → Hp → VK → Prop := fun x lo hi H Q => ∃ m d M, RelD Z H m d x ∧ HRel Z H m M ∧ Post Z W H m (slD d lo hi M) fun d' H' m' _ => ∀ v, RelD Z H' m' d' v → Q v H'
theorem sl_all : SlR X (rSl (zOf X) W) := by
  intro pins s σ H x v vl vu lo hi sl Q I rx hs pl pu h
  obtain ⟨m, d, M, r1, hM, p⟩ := h
  have lst : ∀ ds, getL M d = some ds → Post (zOf X) W H m (newL (cutD ds lo hi) M) (fun d' H' m' _ => ∀ v, RelD (zOf X) H' m' d' v → Q v H') →
      ∃ T id, typeLookup (.type T) "__getitem__" = pure (some (.builtin id)) ∧ s.TypeIs v T ∧ wpAny (model X.prog X.w) X.A (getItem v (.ref sl)) (EP X pins σ Q) X.xe s := by
    intro ds hg p
    obtain ⟨a, xs, e1, hq, hr⟩ := getL_sq hM r1 hg
    exact sl_list pins s σ H x v vl vu lo hi sl Q I rx hs pl pu ⟨a, xs, e1, hq, (Post.newL p hM (hr.cut lo hi)).2⟩
  cases d with
  | str z =>
    have r1 : x = .str z := r1
    subst r1
    unfold slD at p
    simp only at p
    split at p
    · rename_i hz
      exact sl_str pins s σ H _ v vl vu lo hi sl Q I rx hs pl pu ⟨z, rfl, hz, p.ok hM _ rfl⟩
    · exact p.elim
  | tup xs =>
    obtain ⟨a, vs, rfl, hq, hr⟩ := r1
    have r2 := hr.cut lo hi
    refine sl_tupF pins s σ H _ v vl vu lo hi sl Q I rx hs pl pu ⟨a, vs, rfl, hq.sq, fun hw => ?_, fun _ q o hn hd => ?_⟩
    · have e : cutD xs lo hi = xs := by
        rw [hr.length] at hw
        unfold cutD
        rw [hw.1, hw.2, List.drop_zero, Nat.sub_zero]
        exact List.take_length
      refine p.ok hM _ ⟨a, vs, rfl, hq, ?_⟩
      rw [e]
      exact hr
    · have st := stp_laid (m := m) (o := .frz o (.tup (cutV vs lo hi))) hn
      exact p _ _ st (hrel_laid hM hn) _ ⟨q, _, rfl, TupN.of hd, st.rels r2⟩
  | ref n =>
    unfold slD at p
    cases hg : getL M (.ref n) with
    | none => simp only [hg] at p; exact p.elim
    | some ds => simp only [hg] at p; exact lst ds hg p
  | ls n => exact lst n rfl p
  | _ => exact p.elim
theorem me_slice {lo hi : Option Expr} {tl th : OD} (he : ME X W e te) (hl : MO1 X W lo tl) (hu : MO1 X W hi th) : ME X W (.Subscript e (.Slice lo hi none p2) pos) (eSl te tl th) := by
  refine pe_mono (pe_slice (sl_all (W := W)) he hl hu) fun σ H Q h => ?_
  obtain ⟨m, s, M, hs, hM, p⟩ := h
  refine ⟨m, s, M, hs, hM, p.bind.mono fun dx H1 m1 M1 st1 hM1 p1 x rx => ?_⟩
  refine ⟨m1, s, M1, hs.mono st1, hM1, p1.bind.mono fun l H2 m2 M2 st2 hM2 p2 => ?_⟩
  refine ⟨m2, s, M2, (hs.mono st1).mono st2, hM2, p2.bind.mono fun u H3 m3 M3 st3 hM3 p3 => ?_⟩
  exact ⟨m3, dx, M3, st3.rel (st2.rel rx), hM3, p3⟩

/-! ### truth -/
def truC (d : D) : C Bool := match d with
  | .non => C.ret false
  | .bl b => C.ret b
  | .int i => C.ret (i != 0)
  | .str y => if y.length ≤ sizeLine then C.ret ((y.length : Int) != 0) else C.bad
  | d => fun M => match getS M d with
    | some ds => .ok (!ds.isEmpty) M
    | none => .bad
theorem empty_v {Z : Zx} {H : Hp} {m : List Addr} : ∀ {ds : List D} {vs : List V}, RelDs Z H m ds vs → ds.isEmpty = vs.isEmpty
  | [], vs, r => by
    have r : vs = [] := r
    subst r; rfl
  | d :: ds, vs, r => by
    obtain ⟨v, rest, rfl, _⟩ := r
    rfl
theorem tru_v {d : D} {v : V} {H : Hp} {m : List Addr} {M : Mh} {k : Bool → Hp → List Addr → Mh → Prop} (r : RelD (zOf X) H m d v) (hM : HRel (zOf X) H m M) (p : Post (zOf X) W H m (truC d M) k) : ∃ b, TruV X.K v H b ∧ k b H m M := by
  have seq : ∀ ds, getS M d = some ds → Post (zOf X) W H m (R.ok (!ds.isEmpty) M) k → ∃ b, TruV X.K v H b ∧ k b H m M := by
    intro ds hg p
    obtain ⟨a, xs, e1, hq, hr⟩ := getS_sq hM r hg
    subst e1
    refine ⟨!ds.isEmpty, ?_, p.ok hM⟩
    rw [empty_v hr]
    rcases hq with hq | hq
    · exact .inl ⟨xs, hq, rfl⟩
    · exact .inr (.inl ⟨xs, hq, rfl⟩)
  cases d with
  | non => have r : v = .non := r; subst r; exact ⟨false, rfl, p.ok hM⟩
  | bl b => have r : v = .bl b := r; subst r; exact ⟨b, rfl, p.ok hM⟩
  | int b => have r : v = .int b := r; subst r; exact ⟨_, rfl, p.ok hM⟩
  | str b =>
    have r : v = .str b := r
    subst r
    unfold truC at p
    simp only at p
    split at p
    · rename_i hz
      exact ⟨_, ⟨hz, rfl⟩, p.ok hM⟩
    · exact p.elim
  | tup n => exact seq n rfl p
  | ls n => exact seq n rfl p
  | ref n =>
    unfold truC at p
    cases hg : getS M (.ref n) with
    | none => simp only [hg] at p; exact p.elim
    | some ds => simp only [hg] at p; exact seq ds hg p
  | _ => exact p.elim
theorem mt_tru (ha : ME X W a ta) (he : ∀ whole, isTrue a X.env whole = (do let v ← whole; standAt a.pos; holding [v] (truthy v)) := by intro _; rfl) : MT X W a (fun s => (ta s).bind truC) := by
  refine pt_mono (pt_truth ha he) fun σ H Q h => ?_
  obtain ⟨m, s, M, hs, hM, p⟩ := h
  exact ⟨m, s, M, hs, hM, p.bind.mono fun d H1 m1 M1 st1 hM1 p1 v rv => tru_v rv hM1 p1⟩

/-! ### and, or, not, if .. else -/
def tAndD (t u : TD) : TD := fun s => (t s).bind fun b => if b = true then u s else C.ret false
def tOrD (t u : TD) : TD := fun s => (t s).bind fun b => if b = true then C.ret true else u s
def tNotD (t : TD) : TD := fun s => (t s).bind fun b => C.ret (!b)
section
variable {t u : TD} {rest : List Expr}
theorem mw_and1 (ha : MT X W a t) : MW X W (.BoolOp .And [a] pos) t := pw_and1 ha
theorem mw_or1 (ha : MT X W a t) : MW X W (.BoolOp .Or [a] pos) t := pw_or1 ha
theorem mw_and (ha : MT X W a t) (hb : MW X W (.BoolOp .And (b :: rest) pos) u) : MW X W (.BoolOp .And (a :: b :: rest) pos) (tAndD t u) := by
  refine pw_mono (pw_and ha hb) fun σ H Q h => ?_
  obtain ⟨m, s, M, hs, hM, p⟩ := h
  refine ⟨m, s, M, hs, hM, p.bind.mono fun k H1 m1 M1 st1 hM1 p1 => ?_⟩
  cases k with
  | true => rw [if_pos rfl]; exact ⟨m1, s, M1, hs.mono st1, hM1, p1⟩
  | false => rw [if_neg (by decide)]; exact p1.ok hM1
theorem mw_or (ha : MT X W a t) (hb : MW X W (.BoolOp .Or (b :: rest) pos) u) : MW X W (.BoolOp .Or (a :: b :: rest) pos) (tOrD t u) := by
  refine pw_mono (pw_or ha hb) fun σ H Q h => ?_
  obtain ⟨m, s, M, hs, hM, p⟩ := h
  refine ⟨m, s, M, hs, hM, p.bind.mono fun k H1 m1 M1 st1 hM1 p1 => ?_⟩
  cases k with
  | true => rw [if_pos rfl]; exact p1.ok hM1
  | false => rw [if_neg (by decide)]; exact ⟨m1, s, M1, hs.mono st1, hM1, p1⟩
theorem mt_w (h : MW X W a t) : MT X W a t := PW.pt h
theorem mt_not (ha : MT X W a t) : MT X W (.UnaryOp .Not a pos) (tNotD t) := by
  refine pt_mono (pt_not ha) fun σ H Q h => ?_
  obtain ⟨m, s, M, hs, hM, p⟩ := h
  exact ⟨m, s, M, hs, hM, p.bind.mono fun k H1 m1 M1 st1 hM1 p1 => p1.ok hM1⟩
def eIf (t : TD) (ta tb : ED) : ED := fun s => (t s).bind fun b => if b = true then ta s else tb s
theorem me_if (hc : MT X W c t) (ha : ME X W a ta) (hb : ME X W b tb) : ME X W (.IfExp c a b pos) (eIf t ta tb) := by
  refine pe_mono (pe_ifExp hc ha hb) fun σ H Q h => ?_
  obtain ⟨m, s, M, hs, hM, p⟩ := h
  refine ⟨m, s, M, hs, hM, p.bind.mono fun k H1 m1 M1 st1 hM1 p1 => ?_⟩
  cases k with
  | true => rw [if_pos rfl]; exact ⟨m1, s, M1, hs.mono st1, hM1, p1⟩
  | false => rw [if_neg (by decide)]; exact ⟨m1, s, M1, hs.mono st1, hM1, p1⟩
/-- as values: truths -/
def eAnd (ta tb : ED) : ED := fun s => (ta s).bind fun
  | .bl b => if b = true then tb s else C.ret (.bl false)
  | _ => C.bad
def eOr (ta tb : ED) : ED := fun s => (ta s).bind fun
  | .bl b => if b = true then C.ret (.bl true) else tb s
  | _ => C.bad
def notD (d : D) : C D := match d with
  | .bl b => C.ret (.bl (!b))
  | _ => C.bad
theorem me_one {op} (h : ME X W a ta) : ME X W (.BoolOp op [a] pos) ta := pe_one h
theorem me_and (ha : ME X W a ta) (hb : ME X W (.BoolOp .And (b :: rest) pos) tb) : ME X W (.BoolOp .And (a :: b :: rest) pos) (eAnd ta tb) := by
  refine pe_mono (pe_and ha hb) fun σ H Q h => ?_
  obtain ⟨m, s, M, hs, hM, p⟩ := h
  refine ⟨m, s, M, hs, hM, p.bind.mono fun d H1 m1 M1 st1 hM1 p1 v rv => ?_⟩
  cases d with
  | bl k =>
    refine ⟨k, rv, ?_⟩
    cases k with
    | true => rw [if_pos rfl]; exact ⟨m1, s, M1, hs.mono st1, hM1, p1⟩
    | false => rw [if_neg (by decide)]; exact p1.ok hM1 _ rfl
  | _ => exact p1.elim
theorem me_or (ha : ME X W a ta) (hb : ME X W (.BoolOp .Or (b :: rest) pos) tb) : ME X W (.BoolOp .Or (a :: b :: rest) pos) (eOr ta tb) := by
  refine pe_mono (pe_or ha hb) fun σ H Q h => ?_
  obtain ⟨m, s, M, hs, hM, p⟩ := h
  refine ⟨m, s, M, hs, hM, p.bind.mono fun d H1 m1 M1 st1 hM1 p1 v rv => ?_⟩
  cases d with
  | bl k =>
    refine ⟨k, rv, ?_⟩
    cases k with
    | true => rw [if_pos rfl]; exact p1.ok hM1 _ rfl
    | false => rw [if_neg (by decide)]; exact ⟨m1, s, M1, hs.mono st1, hM1, p1⟩
  | _ => exact p1.elim
theorem me_not (ha : ME X W a ta) : ME X W (.UnaryOp .Not a pos) (eUn notD ta) := by
  refine pe_mono (pe_not ha) fun σ H Q h => ?_
  obtain ⟨m, s, M, hs, hM, p⟩ := h
  refine ⟨m, s, M, hs, hM, p.bind.mono fun d H1 m1 M1 st1 hM1 p1 v rv => ?_⟩
  cases d with
  | bl k => exact ⟨k, rv, p1.ok hM1 _ rfl⟩
  | _ => exact p1.elim
end
/-- a op b op c -/
def eChain (f g : D → D → C D) (ta tb tc : ED) : ED := fun s => (ta s).bind fun x => (tb s).bind fun y => (f x y).bind fun
  | .bl k => if k = true then (tc s).bind fun z => g y z else C.ret (.bl false)
  | _ => C.bad
theorem chain_imp {f g : D → D → C D} (σ : L2.St) (H : Hp) (Q : VK) (h : tD (zOf X) W (eChain f g ta tb tc) σ H Q) : tChain (rD2 (zOf X) W f) (rD2 (zOf X) W g) (tD (zOf X) W ta) (tD (zOf X) W tb) (tD (zOf X) W tc) σ H Q := by
  obtain ⟨m, s, M, hs, hM, p⟩ := h
  refine ⟨m, s, M, hs, hM, p.bind.mono fun dx H1 m1 M1 st1 hM1 p1 x rx => ?_⟩
  refine ⟨m1, s, M1, hs.mono st1, hM1, p1.bind.mono fun dy H2 m2 M2 st2 hM2 p2 y ry => ?_⟩
  refine ⟨m2, dx, dy, M2, st2.rel rx, ry, hM2, p2.bind.mono fun dz H3 m3 M3 st3 hM3 p3 z rz => ?_⟩
  cases dz with
  | bl k =>
    refine ⟨k, rz, ?_⟩
    cases k with
    | true =>
      rw [if_pos rfl]
      refine ⟨m3, s, M3, ((hs.mono st1).mono st2).mono st3, hM3, (Post.bind (show Post _ _ _ _ (C.bind (tc s) _ M3) _ from p3)).mono fun dw H4 m4 M4 st4 hM4 p4 w rw' => ?_⟩
      exact ⟨m4, dy, dw, M4, st4.rel (st3.rel ry), rw', hM4, p4⟩
    | false =>
      rw [if_neg (by decide)]
      exact p3.ok hM3 _ rfl
  | _ => exact p3.elim
theorem me_chain {op op' : CmpOp} {f g : D → D → C D} (ho : OpR X (compareOp op) (rD2 (zOf X) W f)) (ho' : OpR X (compareOp op') (rD2 (zOf X) W g)) (ha : ME X W a ta) (hb : ME X W b tb) (hc : ME X W c tc)
    (hm : lastMarks [op, op'] [b, c] = false := by with_unfolding_all rfl) : ME X W (.Compare a [op, op'] [b, c] pos) (eChain f g ta tb tc) := pe_mono (pe_chain ho ho' ha hb hc hm) chain_imp
theorem mt_chain {op op' : CmpOp} {f g : D → D → C D} (ho : OpR X (compareOp op) (rD2 (zOf X) W f)) (ho' : OpR X (compareOp op') (rD2 (zOf X) W g)) (ha : ME X W a ta) (hb : ME X W b tb) (hc : ME X W c tc)
    (hm : lastMarks [op, op'] [b, c] = false := by with_unfolding_all rfl) : MT X W (.Compare a [op, op'] [b, c] pos) (fun s => (eChain f g ta tb tc s).asB) := by
  refine pt_mono (pt_chain ho ho' ha hb hc hm) fun σ H Q h => ?_
  obtain ⟨m, s, M, hs, hM, p⟩ := h
  refine chain_imp σ H _ ⟨m, s, M, hs, hM, (Post.bind p).mono fun d H1 m1 M1 st1 hM1 p1 v rv => ?_⟩
  cases d with
  | bl k => exact ⟨k, rv, p1.ok hM1⟩
  | _ => exact p1.elim

/-! ### built-ins -/
def one1 (f : D → C D) : List D → C D
  | [d] => f d
  | _ => C.bad
theorem rels1 {Z : Zx} {H : Hp} {m : List Addr} {d : D} {vs : List V} (r : RelDs Z H m [d] vs) : ∃ v, vs = [v] ∧ RelD Z H m d v := by
  obtain ⟨v, rest, rfl, r1, r2⟩ := r
  have r2 : rest = [] := r2
  subst r2
  exact ⟨v, rfl, r1⟩
theorem rels2 {Z : Zx} {H : Hp} {m : List Addr} {d e : D} {vs : List V} (r : RelDs Z H m [d, e] vs) : ∃ v u, vs = [v, u] ∧ RelD Z H m d v ∧ RelD Z H m e u := by
  obtain ⟨v, rest, rfl, r1, r2⟩ := r
  obtain ⟨u, rfl, r3⟩ := rels1 r2
  exact ⟨v, u, rfl, r1, r3⟩
theorem call_one {g : Value} {f : D → C D} {r : List V → Hp → VK → Prop} (hc : CallR X g r)
    (h : ∀ H m d v M Q, RelD (zOf X) H m d v → HRel (zOf X) H m M → Post (zOf X) W H m (f d M) (fun d' H' m' _ => ∀ v, RelD (zOf X) H' m' d' v → Q v H') → r [v] H Q) : CallR X g (rDn (zOf X) W (one1 f)) := by
  intro pins s σ H xs us Q I rv hq
  obtain ⟨m, ds, M, rd, hM, p⟩ := hq
  cases ds with
  | nil => exact p.elim
  | cons d rest =>
    cases rest with
    | cons _ _ => exact p.elim
    | nil =>
      obtain ⟨v, rfl, r1⟩ := rels1 rd
      exact hc pins s σ H _ us Q I rv (h H m d v M Q r1 hM p)
def lenD (d : D) : C D := fun M => match d with
  | .str y => if y.length ≤ sizeLine then .ok (.int y.length) M else .bad
  | d => match getS M d with
    | some ds => .ok (.int ds.length) M
    | none => .bad
theorem cd_len : CallR X (.builtin "len") (rDn (zOf X) W (one1 lenD)) := call_one call_len fun H m d v M Q r hM p => by
  have seq : ∀ ds, getS M d = some ds → Post (zOf X) W H m (R.ok (D.int ds.length) M) (fun d' H' m' _ => ∀ v, RelD (zOf X) H' m' d' v → Q v H') → ∃ x n, [v] = [x] ∧ LenV X.K x H n ∧ Q (.int n) H := by
    intro ds hg p
    obtain ⟨a, xs, e1, hq, hr⟩ := getS_sq hM r hg
    subst e1
    refine ⟨_, xs.length, rfl, ?_, ?_⟩
    · rcases hq with hq | hq
      · exact .inl ⟨xs, hq, rfl⟩
      · exact .inr ⟨xs, hq, rfl⟩
    · rw [hr.length]
      exact p.ok hM _ rfl
  cases d with
  | str y =>
    have r : v = .str y := r
    subst r
    unfold lenD at p
    simp only at p
    split at p
    · rename_i hz
      exact ⟨_, y.length, rfl, ⟨hz, rfl⟩, p.ok hM _ rfl⟩
    · exact p.elim
  | tup n => exact seq n rfl p
  | ls n => exact seq n rfl p
  | ref n =>
    unfold lenD at p
    cases hg : getS M (.ref n) with
    | none => simp only [hg] at p; exact p.elim
    | some ds => simp only [hg] at p; exact seq ds hg p
  | _ => exact p.elim
/-- list(x), tuple(x) -/
def listD (d : D) : C D := fun M => match getS M d with
  | some ds => newL ds M
  | none => .bad
def tupleD (d : D) : C D := fun M => match getS M d with
  | some ds => newT ds M
  | none => .bad
theorem cd_list : CallR X (.type "list") (rDn (zOf X) W (one1 listD)) := call_one call_list_of fun H m d v M Q r hM p => by
  unfold listD at p
  cases hg : getS M d with
  | none => simp only [hg] at p; exact p.elim
  | some ds =>
    simp only [hg] at p
    obtain ⟨a, xs, e1, hq, hr⟩ := getS_sq hM r hg
    subst e1
    exact ⟨a, xs, rfl, hq, (Post.newL p hM hr).2⟩
theorem cd_tuple : CallR X (.type "tuple") (rDn (zOf X) W (one1 tupleD)) := call_one call_tupF fun H m d v M Q r hM p => by
  unfold tupleD at p
  cases hg : getS M d with
  | none => simp only [hg] at p; exact p.elim
  | some ds =>
    simp only [hg] at p
    cases d with
    | tup xs =>
      cases hg
      obtain ⟨a, vs, rfl, hq, hr⟩ := r
      refine ⟨a, vs, rfl, .inr ⟨hq.sq, ?_⟩⟩
      unfold newT at p
      split at p
      · exact p.ok hM _ ⟨a, vs, rfl, hq, hr⟩
      · exact p.elim
    | ref n =>
      obtain ⟨a, xs, e1, hq, hr⟩ := getL_sq hM r (show getL M (.ref n) = some ds from hg)
      subst e1
      exact ⟨a, xs, rfl, .inl ⟨hq, (Post.newT p hM hr).2⟩⟩
    | ls n =>
      obtain ⟨a, xs, e1, hq, hr⟩ := getL_sq hM r (show getL M (.ls n) = some ds from hg)
      subst e1
      exact ⟨a, xs, rfl, .inl ⟨hq, (Post.newT p hM hr).2⟩⟩
    | _ => cases hg
def intD (d : D) : C D := match d with
  | .int i => C.ret (.int i)
  | .bl b => C.ret (.int (if b then 1 else 0))
  | _ => C.bad
theorem cd_int : CallR X (.type "int") (rDn (zOf X) W (one1 intD)) := call_one call_int1 fun H m d v M Q r hM p => by
  cases d with
  | int i => have r : v = .int i := r; subst r; exact .inl ⟨i, rfl, p.ok hM _ rfl⟩
  | bl i => have r : v = .bl i := r; subst r; exact .inr ⟨i, rfl, p.ok hM _ rfl⟩
  | _ => exact p.elim
/-- truths -/
def boolsOf : List D → Option (List Bool)
  | [] => some []
  | .bl b :: r => (boolsOf r).map (b :: ·)
  | _ :: _ => none
theorem bools_v {Z : Zx} {H : Hp} {m : List Addr} : ∀ {ds : List D} {vs : List V} {bs : List Bool}, RelDs Z H m ds vs → boolsOf ds = some bs → vs = bs.map V.bl
  | [], vs, bs, r, e => by
    have r : vs = [] := r
    subst r; cases e; rfl
  | d :: ds, vs, bs, r, e => by
    obtain ⟨v, rest, rfl, r1, r2⟩ := r
    cases d with
    | bl b =>
      simp only [boolsOf, Option.map_eq_some_iff] at e
      obtain ⟨bs', e1, rfl⟩ := e
      have r1 : v = .bl b := r1
      rw [r1, bools_v r2 e1]
      rfl
    | _ => cases e
def allD (d : D) : C D := fun M => match (getL M d).bind boolsOf with
  | some bs => .ok (.bl (bs.all id)) M
  | none => .bad
def anyD (d : D) : C D := fun M => match (getL M d).bind boolsOf with
  | some bs => .ok (.bl (bs.any id)) M
  | none => .bad
theorem cd_all (hc : X.calm = true) : CallR X (.builtin "all") (rDn (zOf X) W (one1 allD)) := call_one (cr_all hc) fun H m d v M Q r hM p => by
  unfold allD at p
  cases hb : (getL M d).bind boolsOf with
  | none => simp only [hb] at p; exact p.elim
  | some bs =>
    simp only [hb] at p
    rw [Option.bind_eq_some_iff] at hb
    obtain ⟨ds, h1, h2⟩ := hb
    obtain ⟨a, xs, e1, hq, hr⟩ := getL_sq hM r h1
    subst e1
    rw [bools_v hr h2] at hq
    exact ⟨a, bs, rfl, hq, p.ok hM _ rfl⟩
theorem cd_any (hc : X.calm = true) : CallR X (.builtin "any") (rDn (zOf X) W (one1 anyD)) := call_one (cr_any hc) fun H m d v M Q r hM p => by
  unfold anyD at p
  cases hb : (getL M d).bind boolsOf with
  | none => simp only [hb] at p; exact p.elim
  | some bs =>
    simp only [hb] at p
    rw [Option.bind_eq_some_iff] at hb
    obtain ⟨ds, h1, h2⟩ := hb
    obtain ⟨a, xs, e1, hq, hr⟩ := getL_sq hM r h1
    subst e1
    rw [bools_v hr h2] at hq
    exact ⟨a, bs, rfl, hq, p.ok hM _ rfl⟩

/-! ### methods -/
/-- texts -/
def strsOf : List D → Option (List Str)
  | [] => some []
  | .str b :: r => (strsOf r).map (b :: ·)
  | _ :: _ => none
theorem strs_v {Z : Zx} {H : Hp} {m : List Addr} : ∀ {ds : List D} {vs : List V} {bs : List Str}, RelDs Z H m ds vs → strsOf ds = some bs → vs = bs.map V.str
  | [], vs, bs, r, e => by
    have r : vs = [] := r
    subst r; cases e; rfl
  | d :: ds, vs, bs, r, e => by
    obtain ⟨v, rest, rfl, r1, r2⟩ := r
    cases d with
    | str b =>
      simp only [strsOf, Option.map_eq_some_iff] at e
      obtain ⟨bs', e1, rfl⟩ := e
      have r1 : v = .str b := r1
      rw [r1, strs_v r2 e1]
      rfl
    | _ => cases e
def joinD (x y : D) : C D := fun M => match x with
  | .str a => match (getS M y).bind strsOf with
    | some ys => if (ys.map (·.length)).sum + ys.length * a.length ≤ 16777216 then .ok (.str (Txt.join a ys)) M else .bad
    | none => .bad
  | _ => .bad
/-- the receiver is a text: refused ahead of the arguments -/
def eJoin (ta tb : ED) : ED := fun s => (ta s).bind fun x => match x with
  | .str _ => (tb s).bind fun y => joinD x y
  | _ => C.bad
theorem me_join {o : Expr} {apos : Pos} (ho : ME X W o ta) (he : ME X W e te) (hs : starEach [e] X.env = [(false, eval e X.env)] := by rfl) (hbase : attributeBase o "join" X.env (eval o X.env) = eval o X.env := by rfl) (hline : (apos.endLine == pos.line) = true := by rfl) :
    ME X W (.Call (.Attribute o "join" apos) [e] [] pos) (eJoin ta te) := by
  refine pe_mono (pe_join ho he hs hbase hline) fun σ H Q h => ?_
  obtain ⟨m, s, M, hs, hM, p⟩ := h
  refine ⟨m, s, M, hs, hM, p.bind.mono fun dx H1 m1 M1 st1 hM1 p1 x rx => ?_⟩
  cases dx with
  | str a =>
    have rx : x = .str a := rx
    subst rx
    refine ⟨⟨a, rfl⟩, m1, s, M1, hs.mono st1, hM1, (Post.bind (show Post _ _ _ _ (C.bind (te s) _ M1) _ from p1)).mono fun dy H2 m2 M2 st2 hM2 p2 y ry => ?_⟩
    unfold joinD at p2
    simp only at p2
    cases hb : (getS M2 dy).bind strsOf with
    | none => simp only [hb] at p2; exact p2.elim
    | some ys =>
      simp only [hb] at p2
      split at p2
      · rename_i hz
        rw [Option.bind_eq_some_iff] at hb
        obtain ⟨ds, h1, h2⟩ := hb
        obtain ⟨q, xs, e1, hq, hr⟩ := getS_sq hM2 ry h1
        subst e1
        rw [strs_v hr h2] at hq
        exact ⟨a, q, ys, rfl, rfl, hq, hz, p2.ok hM2 _ rfl⟩
      · exact p2.elim
  | _ => exact p1.elim
/-- xs.append(y), xs.extend(ys) -/
def appD (n : Nat) (ds : List D) : C D := fun M => match ds with
  | [y] => match M[n]? with
    | some (.lst xs) => if xs.length < sizeLine then .ok .non (M.set n (.lst (xs ++ [y]))) else .bad
    | _ => .bad
  | _ => .bad
def extD (n : Nat) (ds : List D) : C D := fun M => match ds with
  | [.ref k] => match M[n]?, M[k]? with
    | some (.lst xs), some (.lst ys) => if xs.length + ys.length ≤ sizeLine then .ok .non (M.set n (.lst (xs ++ ys))) else .bad
    | _, _ => .bad
  | _ => .bad
def eLm (f : Nat → List D → C D) (ta : ED) (tb : AD) : ED := fun s => (ta s).bind fun x => match x with
  | .ref n => fun M => match M[n]? with
    | some (.lst _) => ((tb s).bind fun ys => f n ys) M
    | _ => .bad
  | _ => C.bad
theorem me_lm {o : Expr} {es : List Expr} {name : Str} {id : String} {apos : Pos} {f : Nat → List D → C D} {r : V → List V → Hp → VK → Prop} {t : AD} (slot : Slot "list" name id) (hty : typeOf (.builtin id) = pure (.type "method_descriptor")) (hm : MtR X id r)
    (hf : ∀ H m n ds a vs M Q, m[n]? = some a → RelDs (zOf X) H m ds vs → HRel (zOf X) H m M → Post (zOf X) W H m (f n ds M) (fun d' H' m' _ => ∀ v, RelD (zOf X) H' m' d' v → Q v H') → r (.ref a) vs H Q)
    (ho : ME X W o ta) (ha : MA X W (e :: es) t)
    (hbase : attributeBase o name X.env (eval o X.env) = eval o X.env := by rfl)
    (hfew : ((backTo pos (starEach (e :: es) X.env)).all (fun x => !x.1) && (backToKw pos (keywordEach [] X.env)).all (fun x => x.1.isSome)
      && decide ((e :: es).length + ([] : List Keyword).length + (if ([] : List Keyword).isEmpty then 0 else 1) < 30)) = true := by rfl)
    (hline : (apos.endLine == pos.line) = true := by rfl) (hs : starEach (e :: es) X.env = (false, eval e X.env) :: starEach es X.env := by rfl) (hplain : (backTo pos (starEach es X.env)).any (·.1) = false := by rfl) :
    ME X W (.Call (.Attribute o name apos) (e :: es) [] pos) (eLm f ta t) := by
  refine pe_mono (pe_bm F.plainAttrs_list slot hty hm ho ha hbase hfew hline hs hplain) fun σ H Q h => ?_
  obtain ⟨m, s, M, hs, hM, p⟩ := h
  refine ⟨m, s, M, hs, hM, p.bind.mono fun dx H1 m1 M1 st1 hM1 p1 x rx => ?_⟩
  cases dx with
  | ref n =>
    obtain ⟨a, rfl, hm1⟩ := rx
    simp only at p1
    split at p1
    · rename_i xs he
      obtain ⟨vs, h1, h2⟩ := hM1.at hm1 he
      refine ⟨.inl ⟨rfl, vs, SqL.of h1⟩, m1, s, M1, hs.mono st1, hM1, p1.bind.mono fun ds H2 m2 M2 st2 hM2 p2 us ru => ?_⟩
      exact hf H2 m2 n ds a us M2 Q (st2.ix n a hm1) ru hM2 p2
    · exact p1.elim
  | _ => exact p1.elim
theorem me_append {o : Expr} {apos : Pos} {t : AD} (ho : ME X W o ta) (ha : MA X W [e] t)
    (hbase : attributeBase o "append" X.env (eval o X.env) = eval o X.env := by rfl)
    (hfew : ((backTo pos (starEach [e] X.env)).all (fun x => !x.1) && (backToKw pos (keywordEach [] X.env)).all (fun x => x.1.isSome)
      && decide ([e].length + ([] : List Keyword).length + (if ([] : List Keyword).isEmpty then 0 else 1) < 30)) = true := by rfl)
    (hline : (apos.endLine == pos.line) = true := by rfl) (hs : starEach [e] X.env = (false, eval e X.env) :: starEach [] X.env := by rfl) (hplain : (backTo pos (starEach [] X.env)).any (·.1) = false := by rfl) :
    ME X W (.Call (.Attribute o "append" apos) [e] [] pos) (eLm appD ta t) :=
  me_lm F.slot_list_append F.type_list_append mt_append (fun H m n ds a vs M Q hm rd hM p => by
    unfold appD at p
    split at p
    · rename_i y
      obtain ⟨v, rfl, rv⟩ := rels1 rd
      split at p
      · rename_i xs he
        split at p
        · rename_i hz
          obtain ⟨us, h1, h2⟩ := hM.at hm he
          have st : Stp H m (upd H a (.lst (us ++ [v]))) m := stp_upd h1 (fun _ z => by cases z) (fun _ _ z => by cases z) hm
          exact ⟨a, us, v, rfl, rfl, h1, by rw [h2.length]; exact hz, p _ _ st (hrel_upd hM h1 (fun _ z => by cases z) (fun _ _ z => by cases z) hm ⟨_, upd_same, (st.rels h2).append (.one (st.rel rv))⟩) _ rfl⟩
        · exact p.elim
      · exact p.elim
    · exact p.elim) ho ha hbase hfew hline hs hplain
theorem me_extend {o : Expr} {apos : Pos} {t : AD} (ho : ME X W o ta) (ha : MA X W [e] t)
    (hbase : attributeBase o "extend" X.env (eval o X.env) = eval o X.env := by rfl)
    (hfew : ((backTo pos (starEach [e] X.env)).all (fun x => !x.1) && (backToKw pos (keywordEach [] X.env)).all (fun x => x.1.isSome)
      && decide ([e].length + ([] : List Keyword).length + (if ([] : List Keyword).isEmpty then 0 else 1) < 30)) = true := by rfl)
    (hline : (apos.endLine == pos.line) = true := by rfl) (hs : starEach [e] X.env = (false, eval e X.env) :: starEach [] X.env := by rfl) (hplain : (backTo pos (starEach [] X.env)).any (·.1) = false := by rfl) :
    ME X W (.Call (.Attribute o "extend" apos) [e] [] pos) (eLm extD ta t) :=
  me_lm F.slot_list_extend F.type_list_extend mt_extend (fun H m n ds a vs M Q hm rd hM p => by
    unfold extD at p
    split at p
    · rename_i k
      obtain ⟨v, rfl, rv⟩ := rels1 rd
      obtain ⟨b, rfl, hm2⟩ := rv
      split at p
      · rename_i xs ys he he2
        split at p
        · rename_i hz
          obtain ⟨us, h1, h2⟩ := hM.at hm he
          obtain ⟨ws, h3, h4⟩ := hM.at hm2 he2
          have st : Stp H m (upd H a (.lst (us ++ ws))) m := stp_upd h1 (fun _ z => by cases z) (fun _ _ z => by cases z) hm
          exact ⟨a, b, us, ws, rfl, rfl, h1, h3, by rw [h2.length, h4.length]; exact hz, p _ _ st (hrel_upd hM h1 (fun _ z => by cases z) (fun _ _ z => by cases z) hm ⟨_, upd_same, (st.rels h2).append (st.rels h4)⟩) _ rfl⟩
        · exact p.elim
      · exact p.elim
    · exact p.elim) ho ha hbase hfew hline hs hplain
end
end Dn

/-! Dn4: unpacking with a star, of a text; targets and statements by content -/
namespace Dn
open PySem PySem.Spec PyProof.Rows L2

/-! ### drawing from an iterator -/
section
variable {prog : Program} {w : World} {A : Around} {E : Value → Shared → Prop}
theorem walks_shift {I : Addr} {fp wr : List Addr} {n : Nat} {P : Nat → Value → Prop} {St : Nat → Heap → Prop} (W : Walks prog w A I fp wr n P St) (k : Nat) (hk : k ≤ n) :
    Walks prog w A I fp wr (n - k) (fun i v => P (k + i) v) (fun i h => St (k + i) h) where
  sub := W.sub
  frame := fun i h h' st hh => W.frame _ h h' st hh
  item := fun i s Q E hi st hQ => W.item (k + i) s Q E (by omega) st fun v h' tk hp st' kp => hQ v h' tk hp (by rw [← Nat.add_assoc]; exact st') kp
  done := fun s Q E st hQ => W.done s Q E (by rw [Nat.add_sub_cancel' hk] at st; exact st) hQ
  self := fun i s Q E st hQ => W.self _ s Q E st hQ
theorem draw_walks {I : Addr} {fp wr : List Addr} {n : Nat} {P : Nat → Value → Prop} {St : Nat → Heap → Prop} (W : Walks prog w A I fp wr n P St) : ∀ (k i : Nat) (s : Shared) (Q : List Value → Shared → Prop), i + k ≤ n → St i s.heap →
    (∀ (us : List Value) (h' : Heap) (tk : Nat), us.length = k → (∀ (j : Nat) v, us[j]? = some v → P (i + j) v) → St (i + k) h' → (∀ b o, b ∉ wr → s.heap.get? b = some o → h'.get? b = some o) → Q us { s with heap := h', toks := tk }) →
    wpAny (model prog w) A (draw (.ref I) k) Q E s
  | 0, i, s, Q, _, st, hQ => by
    show wpAny _ _ (pure []) Q E s
    exact wpAny_pure (hQ [] s.heap s.toks rfl (fun j v e => by simp at e) st fun _ _ _ e => e)
  | k + 1, i, s, Q, hk, st, hQ => by
    show wpAny _ _ (pyNext (.ref I) >>= _) Q E s
    refine wpAny_bind (W.item i s _ _ (by omega) st fun v h1 t1 hp st1 k1 => ?_)
    refine wpAny_bind (wpAny_holding (draw_walks W k (i + 1) _ _ (by omega) st1 fun us h2 t2 hl hj st2 k2 => wpAny_pure ?_))
    refine hQ (v :: us) h2 t2 (by rw [List.length_cons, hl]) (fun j u e => ?_) (by rw [show i + (k + 1) = i + 1 + k by omega]; exact st2) fun b o hb e => k2 b o hb (k1 b o hb e)
    cases j with
    | zero =>
      have e : v = u := by simpa using e
      subst e; exact hp
    | succ j =>
      have := hj j u (by simpa using e)
      rw [show i + (j + 1) = i + 1 + j by omega]
      exact this
/-- what an iterator that is walked to its end hands out -/
theorem us_eq {us : List Value} {its : List Value} (hl : us.length = its.length) (h : ∀ (j : Nat) v, us[j]? = some v → its[j]? = some v) : us = its := by
  apply List.ext_getElem? fun j => ?_
  by_cases hj : j < us.length
  · rw [List.getElem?_eq_getElem hj]
    exact (h j _ (List.getElem?_eq_getElem hj)).symm
  · rw [List.getElem?_eq_none (by omega), List.getElem?_eq_none (by omega)]
theorem unpack_star {s : Shared} {v : Value} {T : String} {its : List Value} {o : Obj} {fp : List Addr} {St : Nat → Heap → Prop} {k : Nat} {Q : List Value → Shared → Prop} (hh : A.handled = none)
    (hT : T = "list_iterator" ∨ T = "tuple_iterator") (hni : ∀ Q' : Bool → Shared → Prop, Q' false s → wpAny (model prog w) A (notIterableAtAll v) Q' E s)
    (hit : ∀ Q' : Value → Shared → Prop, Q' (.ref s.heap.objs.size) { s with heap := s.heap.push o } → wpAny (model prog w) A (pyIter v) Q' E s)
    (W : ∀ A' : Around, A'.handled = none → Walks prog w A' s.heap.objs.size fp [s.heap.objs.size] its.length (fun i u => its[i]? = some u) St) (st0 : St 0 (s.heap.push o)) (hty : ∀ (i : Nat) (s' : Shared), St i s'.heap → s'.TypeIs (.ref s.heap.objs.size) T)
    (hfp : ∀ b ∈ fp, b < (s.heap.push o).objs.size) (hI : s.heap.objs.size ∈ fp) (hk : k ≤ its.length) (hz : its.length ≤ sizeLine)
    (hQ : ∀ (h' : Heap) (tk : Nat), (∀ b o, s.heap.get? b = some o → h'.get? b = some o) →
      Q (its.take k ++ [.ref h'.objs.size]) { s with heap := h'.push { cls := .type "list", data := .seq (its.drop k).toArray }, toks := tk }) :
    wpAny (model prog w) A (unpackItems v (k + 1) (some k)) Q E s := by
  unfold unpackItems
  refine wpAny_bind (hni _ ?_)
  rw [if_neg (by decide)]
  refine wpAny_bind (wpAny_holding (hit _ ?_))
  dsimp only
  refine wpAny_bind (wpAny_holding (draw_walks (W A hh) k 0 _ _ (by omega) st0 fun us h1 t1 hl hj st1 k1 => ?_))
  have eus : us = its.take k := us_eq (by rw [hl, List.length_take]; omega) fun j u e => by
    have h1 := hj j u e
    have hjl : j < k := by rw [← hl]; exact (List.getElem?_eq_some_iff.mp e).1
    rw [List.getElem?_take_of_lt hjl]
    rw [Nat.zero_add] at h1
    exact h1
  rw [if_neg (by omega)]
  have lt1 : ∀ b, b < (s.heap.push o).objs.size → b ≠ s.heap.objs.size → True := fun _ _ _ => trivial
  -- the rest
  have W' := walks_shift (W A.in1 hh) k hk
  have szI : ∀ b o', (s.heap.push o).get? b = some o' → b ≠ s.heap.objs.size → h1.get? b = some o' := fun b o' e hb => k1 b o' (by simpa using hb) e
  have hTI : ({ s with heap := h1, toks := t1 } : Shared).TypeIs (.ref s.heap.objs.size) T := hty (0 + k) { s with heap := h1, toks := t1 } st1
  have hsz : ∀ b ∈ fp, b < ({ s with heap := h1, toks := t1 } : Shared).heap.objs.size := fun b hb => by
    by_cases hbI : b = s.heap.objs.size
    · subst hbI
      obtain ⟨ob, e, _⟩ := hTI
      exact Heap.lt_size e
    · have hlt := hfp b hb
      rw [Heap.size_push] at hlt
      have hb2 : b < s.heap.objs.size := Nat.lt_of_le_of_ne (Nat.le_of_lt_succ hlt) hbI
      have st := st1
      -- every object of the footprint is there: by the walk's frame from the start
      exact Nat.lt_of_lt_of_le hb2 (by
        obtain ⟨ob, e, _⟩ := hTI
        exact Nat.le_of_lt (Heap.lt_size e))
  refine wpAny_bind (wpAny_holding (wpAny_collect_iter (T := T) (by rcases hT with rfl | rfl; exact .inr (.inr (.inl rfl)); exact .inr (.inr (.inr rfl))) W'.toS
    (fun i s' st => hty (k + i) s' st) (by rw [Nat.zero_add] at st1; exact st1) hsz hI (fun s2 acc mv hacc => ?_) (by omega)))
  obtain ⟨e1, e2⟩ := hacc
  have eacc : acc.toList = its.drop k := us_eq (by rw [Array.length_toList, e1, List.length_drop]) fun j u e => by
    have := e2 j u (by rw [← Array.getElem?_toList]; exact e)
    rw [List.getElem?_drop]
    exact this
  rw [eacc, eus]
  rw [if_neg (by omega)]
  have hmid : (its.drop k).length - (k + 1 - 1 - k) = (its.drop k).length := by omega
  rw [hmid, List.take_length]
  have hd : (its.drop k).drop (its.drop k).length = [] := List.drop_length
  rw [hd]
  obtain ⟨h2, g2, d2, t2, o2⟩ := s2
  obtain rfl : g2 = s.gens := mv.gens
  obtain rfl : d2 = s.drawn := mv.drawn
  obtain rfl : o2 = s.os := mv.os
  refine wpAny_bind (wpAny_newObj_type ?_ (by
    show (its.drop k).toArray.size ≤ sizeLine
    rw [List.size_toArray, List.length_drop]; omega))
  refine wpAny_pure ?_
  show Q (List.take k its ++ [_] ++ []) _
  rw [List.append_nil]
  refine hQ h2 t2 fun b ob e => ?_
  have hb : b ≠ s.heap.objs.size := Nat.ne_of_lt (Heap.lt_size e)
  exact mv.heap b ob (by simpa using hb) (szI b ob (Heap.get?_push_of_some _ e) hb)
end

/-! ### targets, at the hand layer -/
section
variable {X : Cx} {pos : Pos}
theorem pgs_star {e : Expr} {p : Pos} {es : List Expr} {t : TG} {u : TGs} (h1 : PG X e t) (h2 : PGs X es u) : PGs X (.Starred e p :: es) (gCons t u) := by
  refine ⟨fun pins s σ H vs us Q I r h => ?_⟩
  obtain ⟨v, vr, e1, h⟩ := h
  subst e1
  cases r with
  | cons r rr =>
    show wpAny _ _ (assignInOrder (assign e X.env :: (assignEach es X.env).map (·.2)) _) _ _ _
    refine assignInOrder_cons (thn (h1.run pins s σ H _ _ _ I r h) fun _ s1 ⟨σ1, H1, I1, q1⟩ => ?_)
    exact h2.run pins s1 σ1 H1 _ _ Q I1 rr q1
def gStar (K : PySem.W.Frag) (k : Nat) (t : TGs) : TG := fun v σ H Q => ∃ a xs, v = .ref a ∧ (SqL K H a xs ∨ SqT K H a xs) ∧ k ≤ xs.length ∧ ∀ l, H l = none → t (xs.take k ++ [.ref l]) σ (upd H l (.lst (xs.drop k))) Q
theorem pg_star {es : List Expr} {k1 : Nat} {t : TGs} {k : Nat} (hc : X.calm = true) (h : PGs X es t)
    (hn : (assignEach es X.env).length = k + 1 := by rfl) (hst : (assignEach es X.env).findIdx? (·.1) = some k := by rfl) : PG X (.Tuple es k1 pos) (gStar X.K k t) := by
  refine ⟨fun pins s σ H v u Q I r hw => ?_⟩
  obtain ⟨a, xs, e1, hq, hl, hw⟩ := hw
  subst e1
  cases r
  rw [PyProof.Rows.assign_Tuple]
  refine wpAny_bind (wpAny_standAt ?_)
  unfold unpack
  rw [hn, hst]
  have fin : ∀ (its : List Value), Vals xs its → ∀ (h' : Heap) (tk : Nat), (∀ b o, s.heap.get? b = some o → h'.get? b = some o) →
      wpAny (model X.prog X.w) X.A (assignInOrder ((assignEach es X.env).map (·.2)) (its.take k ++ [.ref h'.objs.size])) (fun _ s' => ∃ σ' H', Inv X pins σ' H' s' ∧ Q σ' H') X.xe
        { s with heap := h'.push { cls := .type "list", data := .seq (its.drop k).toArray }, toks := tk } := by
    intro its rv h' tk kp
    have I1 : Inv X pins σ H { s with heap := h', toks := tk } := I.kept kp
    have hf : H h'.objs.size = none := I1.hok.fresh (Nat.le_refl _)
    have hz : (xs.drop k).length ≤ sizeLine := by
      rcases hq with hq | hq
      · obtain ⟨_, _, _, z⟩ := I.list hq
        rw [List.length_drop]; omega
      · obtain ⟨_, _, _, z⟩ := I.tuple hq
        rw [List.length_drop]; omega
    have I2 : Inv X pins σ (upd H h'.objs.size (.lst (xs.drop k))) { s with heap := h'.push { cls := .type "list", data := .seq (its.drop k).toArray }, toks := tk } :=
      I1.laid (t' := tk) (fun b o e => Heap.get?_push_of_some _ e) (Nat.le_refl _) ⟨hz, its.drop k, 0, rv.drop k, Heap.get?_push_size _ rfl⟩
    exact h.run pins _ σ _ _ _ Q I2 ((rv.take k).append (Paired.cons (show RelV (.ref h'.objs.size) (Value.ref h'.objs.size) from rfl) .nil)) (hw _ hf)
  rcases hq with hq | hq
  · obtain ⟨its, rv, pl, hz⟩ := I.list hq
    have hlen := rv.length
    have hne : a ≠ s.heap.objs.size := by
      obtain ⟨o, n, e, _⟩ := pl
      exact Nat.ne_of_lt (Heap.lt_size e)
    refine wpAny_bind (wpAny_holding (unpack_star (its := its) (T := "list_iterator") (fp := [s.heap.objs.size, a]) (St := fun i h => h.IsListIter s.heap.objs.size a i ∧ h.IsList a its.toArray) (I.ok.hd hc) (.inl rfl) (fun Q' q' => ?_) (fun Q' q' => wpAny_pyIter_list pl.isList q')
      (fun A' hA => ?_) ⟨⟨_, Heap.get?_push_size _ rfl, rfl, rfl⟩, pl.isList.at fun o e => Heap.get?_push_of_some _ e⟩ (fun i s' st => let ⟨o, e, c, _⟩ := st.1; ⟨o, e, c⟩) (fun b hb => ?_) (by simp) (by omega) (by omega) (fin its rv)))
    · unfold notIterableAtAll
      refine wpAny_bind (wpAny_specialOf pl.isList.typeIs slot_list_iter.lookup (wpAny_pure ?_))
      exact q'
    · have W := Walks.list (prog := X.prog) (w := X.w) hA s.heap.objs.size a hne its.toArray
      simpa using W
    · rw [Heap.size_push]
      rcases List.mem_cons.mp hb with rfl | hb
      · exact Nat.lt_succ_self _
      · have : b = a := by simpa using hb
        subst this
        obtain ⟨o, n, e, _⟩ := pl
        exact Nat.lt_succ_of_lt (Heap.lt_size e)
  · obtain ⟨its, rv, pl, hz⟩ := I.tuple hq
    have hlen := rv.length
    have hne : a ≠ s.heap.objs.size := by
      obtain ⟨o, e, _⟩ := pl
      exact Nat.ne_of_lt (Heap.lt_size e)
    have plT : s.heap.IsTuple a its.toArray := pl
    refine wpAny_bind (wpAny_holding (unpack_star (its := its) (T := "tuple_iterator") (fp := [s.heap.objs.size, a]) (St := fun i h => h.IsTupleIter s.heap.objs.size a i ∧ h.IsTuple a its.toArray) (I.ok.hd hc) (.inr rfl) (fun Q' q' => ?_) (fun Q' q' => wpAny_pyIter_tuple plT q')
      (fun A' hA => ?_) ⟨⟨_, Heap.get?_push_size _ rfl, rfl, rfl⟩, plT.at fun o e => Heap.get?_push_of_some _ e⟩ (fun i s' st => let ⟨o, e, c, _⟩ := st.1; ⟨o, e, c⟩) (fun b hb => ?_) (by simp) (by omega) (by omega) (fin its rv)))
    · unfold notIterableAtAll
      refine wpAny_bind (wpAny_specialOf pl.typeIs slot_tuple_iter.lookup (wpAny_pure ?_))
      exact q'
    · have W := Walks.tuple (prog := X.prog) (w := X.w) hA s.heap.objs.size a hne its.toArray
      simpa using W
    · rw [Heap.size_push]
      rcases List.mem_cons.mp hb with rfl | hb
      · exact Nat.lt_succ_self _
      · have : b = a := by simpa using hb
        subst this
        obtain ⟨o, e, _⟩ := pl
        exact Nat.lt_succ_of_lt (Heap.lt_size e)
/-- (a, b, ..) = a text of that length -/
def signsV (z : Str) : List V := z.cps.toList.map fun c => .str ⟨#[c]⟩
def gTxt (n : Nat) (t : TGs) : TG := fun v σ H Q => ∃ z, v = .str z ∧ z.cps.size = n ∧ t (signsV z) σ H Q
theorem pg_txt {es : List Expr} {k1 : Nat} {t : TGs} {n : Nat} (hc : X.calm = true) (h : PGs X es t)
    (hn : (assignEach es X.env).length = n := by rfl) (hst : (assignEach es X.env).findIdx? (·.1) = none := by rfl) : PG X (.Tuple es k1 pos) (gTxt n t) := by
  refine ⟨fun pins s σ H v u Q I r hw => ?_⟩
  obtain ⟨z, e1, hl, hw⟩ := hw
  subst e1
  obtain ⟨t0, rfl⟩ := r
  rw [PyProof.Rows.assign_Tuple]
  refine wpAny_bind (wpAny_standAt ?_)
  unfold unpack
  rw [hn, hst]
  refine wpAny_bind (wpAny_holding ?_)
  unfold unpackItems
  refine wpAny_bind ?_
  unfold notIterableAtAll
  refine wpAny_bind (wpAny_specialOf (typeIs_str s z t0) F.slot_str_iter.lookup (wpAny_pure ?_))
  rw [if_neg (by decide)]
  refine wpAny_bind (wpAny_holding (wpAny_pyIter_str fun o St W st0 => ?_))
  dsimp only
  refine wpAny_bind (wpAny_holding (draw_walks (W X.A (I.ok.hd hc)) n 0 _ _ (by omega) st0 fun us h1 t1 hl1 hj st1 k1 => ?_))
  rw [if_neg (by omega)]
  refine wpAny_bind (wpAny_holding ((W X.A (I.ok.hd hc)).done _ _ _ (by rw [hl]; rw [Nat.zero_add] at st1; exact st1) fun h2 t2 k2 => ?_))
  refine wpAny_pure ?_
  have I1 : Inv X pins σ H { s with heap := h2, toks := t2 } := I.kept fun b ob e => by
    have hb : b ∉ [s.heap.objs.size] := by
      have := Nat.ne_of_lt (Heap.lt_size e)
      simpa using this
    exact k2 b ob hb (k1 b ob hb (Heap.get?_push_of_some _ e))
  refine h.run pins _ σ H _ us Q I1 ?_ hw
  have hus : us.length = (signsV z).length := by
    unfold signsV
    rw [List.length_map, hl1, ← hl]
    exact Array.length_toList.symm
  clear hw
  have key : ∀ (l : List V) (us : List Value), us.length = l.length → (∀ (j : Nat) x u, l[j]? = some x → us[j]? = some u → RelV x u) → Vals l us := by
    intro l
    induction l with
    | nil =>
      intro us hl _
      have : us = [] := List.length_eq_zero_iff.mp hl
      subst this; exact .nil
    | cons x l ih =>
      intro us hl hr
      cases us with
      | nil => cases hl
      | cons u us => exact .cons (hr 0 x u rfl rfl) (ih us (by simpa using hl) fun j y w e1 e2 => hr (j + 1) y w (by simpa using e1) (by simpa using e2))
  refine key _ us hus fun j x u e1 e2 => ?_
  obtain ⟨c, w', h1, h2⟩ := hj j u e2
  unfold signsV at e1
  rw [List.getElem?_map, Array.getElem?_toList] at e1
  rw [Nat.zero_add] at h1
  rw [h1] at e1
  have e1 : V.str ⟨#[c]⟩ = x := by simpa using e1
  subst e1
  exact ⟨w', h2⟩
end

/-! ### targets by content -/
/-- what a target may do to the slots: anything, or to those in a list alone -/
def Pw (vs : Option (List Nat)) (σ σ' : L2.St) : Prop := match vs with
  | none => True
  | some l => wipe σ' l = wipe σ l
theorem Pw.refl (vs : Option (List Nat)) (σ : L2.St) : Pw vs σ σ := by cases vs <;> trivial
theorem Pw.trans {vs : Option (List Nat)} {σ σ1 σ2 : L2.St} (a : Pw vs σ σ1) (b : Pw vs σ1 σ2) : Pw vs σ σ2 := by
  cases vs with
  | none => trivial
  | some l =>
    have a : wipe σ1 l = wipe σ l := a
    have b : wipe σ2 l = wipe σ1 l := b
    exact b.trans a
theorem wipe_set_out (σ : L2.St) (i : Nat) (x : Option V) : ∀ l : List Nat, i ∉ l → wipe (σ.set i x) l = (wipe σ l).set i x
  | [], _ => rfl
  | v :: vs, h => by
    unfold wipe
    rw [wipe_set_out σ i x vs (fun z => h (List.mem_cons_of_mem _ z)), List.set_comm _ _ (fun e => h (by rw [e]; exact List.mem_cons_self))]
theorem wipe_set_in (σ : L2.St) (i : Nat) (x : Option V) : ∀ l : List Nat, i ∈ l → wipe (σ.set i x) l = wipe σ l
  | [], h => by cases h
  | v :: vs, h => by
    by_cases hv : i ∈ vs
    · unfold wipe
      rw [wipe_set_in σ i x vs hv]
    · have e : i = v := by
        rcases List.mem_cons.mp h with e | e
        · exact e
        · exact absurd e hv
      subst e
      unfold wipe
      rw [wipe_set_out σ i x vs hv, List.set_set]
theorem Pw.set {vs : Option (List Nat)} {σ : L2.St} {i : Nat} {x : Option V} (h : ∀ l, vs = some l → i ∈ l) : Pw vs σ (σ.set i x) := by
  cases vs with
  | none => trivial
  | some l => exact wipe_set_in σ i x l (h l rfl)

abbrev GD := D → Sl → C Sl
abbrev GDs := List D → Sl → C Sl
def gD (Z : Zx) (W : XK) (vs : Option (List Nat)) (g : GD) : TG := fun v σ H Q => ∃ m d s M, RelD Z H m d v ∧ RelS Z H m s σ ∧ HRel Z H m M ∧ Post Z W H m (g d s M) fun s' H' m' _ => ∀ σ', RelS Z H' m' s' σ' → Pw vs σ σ' → Q σ' H'
def gDs (Z : Zx) (W : XK) (vs : Option (List Nat)) (g : GDs) : TGs := fun us σ H Q => ∃ m ds s M, RelDs Z H m ds us ∧ RelS Z H m s σ ∧ HRel Z H m M ∧ Post Z W H m (g ds s M) fun s' H' m' _ => ∀ σ', RelS Z H' m' s' σ' → Pw vs σ σ' → Q σ' H'
abbrev MG (X : Cx) (W : XK) (vs : Option (List Nat)) (e : Expr) (g : GD) : Prop := PG X e (gD (zOf X) W vs g)
abbrev MGs (X : Cx) (W : XK) (vs : Option (List Nat)) (es : List Expr) (g : GDs) : Prop := PGs X es (gDs (zOf X) W vs g)
theorem pg_mono {X : Cx} {e : Expr} {t t' : TG} (h : PG X e t) (i : ∀ v σ H Q, t' v σ H Q → t v σ H Q) : PG X e t' := ⟨fun pins s σ H v u Q I r q => h.run pins s σ H v u Q I r (i v σ H Q q)⟩
theorem pgs_mono {X : Cx} {es : List Expr} {t t' : TGs} (h : PGs X es t) (i : ∀ v σ H Q, t' v σ H Q → t v σ H Q) : PGs X es t' := ⟨fun pins s σ H v u Q I r q => h.run pins s σ H v u Q I r (i v σ H Q q)⟩
def gNm (i : Nat) : GD := fun d s => C.ret (s.set i (some d))
def gsNil : GDs := fun ds s => match ds with
  | [] => C.ret s
  | _ => C.bad
def gsCons (g : GD) (gs : GDs) : GDs := fun ds s => match ds with
  | d :: ds => (g d s).bind fun s1 => gs ds s1
  | [] => C.bad
section
variable {X : Cx} {W : XK} {vs : Option (List Nat)} {pos : Pos}
theorem mg_name {i : Nat} {x : Str} (hN : X.N.Nodup) (hi : X.N[i]? = some x) (hx : Loc X.env.scope x) (hv : ∀ l, vs = some l → i ∈ l) (hf : X.fn x = true ∨ X.env.scope.names.lookup x = some .local := by first | exact .inl rfl | exact .inr rfl | assumption) : MG X W vs (.Name x pos) (gNm i) := by
  refine pg_mono (pg_name hN hi hx hf) fun v σ H Q h => ?_
  obtain ⟨m, d, s, M, rd, rs, hM, p⟩ := h
  exact p.ok hM _ (rs.set i rd) (Pw.set hv)
theorem mgs_nil : MGs X W vs [] gsNil := pgs_mono pgs_nil fun us σ H Q h => by
  obtain ⟨m, ds, s, M, rd, rs, hM, p⟩ := h
  cases ds with
  | nil => exact ⟨rd, p.ok hM _ rs (Pw.refl vs σ)⟩
  | cons _ _ => exact p.elim
theorem gcons_imp {e : Expr} {es : List Expr} {g : GD} {gs : GDs} (us : List V) (σ : L2.St) (H : Hp) (Q : L2.St → Hp → Prop) (h : gDs (zOf X) W vs (gsCons g gs) us σ H Q) : gCons (gD (zOf X) W vs g) (gDs (zOf X) W vs gs) us σ H Q := by
  obtain ⟨m, ds, s, M, rd, rs, hM, p⟩ := h
  cases ds with
  | nil => exact p.elim
  | cons d ds =>
    obtain ⟨v, r, rfl, r1, r2⟩ := rd
    refine ⟨v, r, rfl, m, d, s, M, r1, rs, hM, (Post.bind (show Post _ _ _ _ (C.bind (g d s) _ M) _ from p)).mono fun s1 H1 m1 M1 st1 hM1 p1 σ1 rs1 w1 => ?_⟩
    exact ⟨m1, ds, s1, M1, st1.rels r2, rs1, hM1, p1.mono fun s2 H2 m2 M2 st2 hM2 q σ2 rs2 w2 => q σ2 rs2 (w1.trans w2)⟩
theorem mgs_cons {e : Expr} {es : List Expr} {g : GD} {gs : GDs} (h1 : MG X W vs e g) (h2 : MGs X W vs es gs) (hs : (assignEach (e :: es) X.env).map (·.2) = assign e X.env :: (assignEach es X.env).map (·.2) := by rfl) : MGs X W vs (e :: es) (gsCons g gs) :=
  pgs_mono (pgs_cons h1 h2 hs) (gcons_imp (e := e) (es := es))
theorem mgs_star {e : Expr} {p : Pos} {es : List Expr} {g : GD} {gs : GDs} (h1 : MG X W vs e g) (h2 : MGs X W vs es gs) : MGs X W vs (.Starred e p :: es) (gsCons g gs) :=
  pgs_mono (pgs_star h1 h2) (gcons_imp (e := e) (es := es))
/-- signs of a text -/
def signsD (z : Str) : List D := z.cps.toList.map fun c => .str ⟨#[c]⟩
theorem signs_rel {Z : Zx} {H : Hp} {m : List Addr} (z : Str) : RelDs Z H m (signsD z) (signsV z) := by
  unfold signsD signsV
  generalize z.cps.toList = l
  induction l with
  | nil => rfl
  | cons c l ih => exact ⟨_, _, rfl, rfl, ih⟩
/-- (a, b, ..) = x -/
def gTp (n : Nat) (gs : GDs) : GD := fun d s => match d with
  | .str z => if z.cps.size = n then gs (signsD z) s else C.bad
  | d => fun M => match getS M d with
    | some ds => if ds.length = n then gs ds s M else .bad
    | none => .bad
theorem mg_tup {es : List Expr} {k : Nat} {gs : GDs} {n : Nat} (hc : X.calm = true) (h : MGs X W vs es gs)
    (hn : (assignEach es X.env).length = n := by rfl) (hst : (assignEach es X.env).findIdx? (·.1) = none := by rfl) : MG X W vs (.Tuple es k pos) (gTp n gs) := by
  refine ⟨fun pins s σ H v u Q I r hw => ?_⟩
  obtain ⟨m, d, sl, M, rd, rs, hM, p⟩ := hw
  have seq : ∀ ds, getS M d = some ds → Post (zOf X) W H m (if ds.length = n then gs ds sl M else .bad) (fun s' H' m' _ => ∀ σ', RelS (zOf X) H' m' s' σ' → Pw vs σ σ' → Q σ' H') →
      wpAny (model X.prog X.w) X.A (assign (.Tuple es k pos) X.env u) (fun _ s' => ∃ σ' H', Inv X pins σ' H' s' ∧ Q σ' H') X.xe s := by
    intro ds hg p
    by_cases hl : ds.length = n
    · rw [if_pos hl] at p
      obtain ⟨a, xs, rfl, hq, hr⟩ := getS_sq hM rd hg
      have fin : gDs (zOf X) W vs gs xs σ H Q := ⟨m, ds, sl, M, hr, rs, hM, p⟩
      rcases hq with hq | hq
      · exact (pg_unl hc h hn hst).run pins s σ H _ u Q I r ⟨a, xs, rfl, hq, hr.length.trans hl, fin⟩
      · exact (pg_tup hc h hn hst).run pins s σ H _ u Q I r ⟨a, xs, rfl, hq, hr.length.trans hl, fin⟩
    · rw [if_neg hl] at p
      exact p.elim
  cases d with
  | str z =>
    have rd : v = .str z := rd
    subst rd
    unfold gTp at p
    simp only at p
    split at p
    · rename_i hz
      exact (pg_txt hc h hn hst).run pins s σ H _ u Q I r ⟨z, rfl, hz, m, signsD z, sl, M, signs_rel z, rs, hM, p⟩
    · exact p.elim
  | tup xs => exact seq xs rfl p
  | ls xs => exact seq xs rfl p
  | ref n' =>
    unfold gTp at p
    cases hg : getS M (.ref n') with
    | none => simp only [hg] at p; exact p.elim
    | some ds => simp only [hg] at p; exact seq ds hg p
  | _ => exact p.elim
/-- (a, b, .., *c) = x -/
def gSt (k : Nat) (gs : GDs) : GD := fun d s M => match getS M d with
  | some ds => if k ≤ ds.length then gs (ds.take k ++ [.ref M.length]) s (M ++ [.lst (ds.drop k)]) else .bad
  | none => .bad
theorem mg_star {es : List Expr} {k1 : Nat} {gs : GDs} {k : Nat} (hc : X.calm = true) (h : MGs X W vs es gs)
    (hn : (assignEach es X.env).length = k + 1 := by rfl) (hst : (assignEach es X.env).findIdx? (·.1) = some k := by rfl) : MG X W vs (.Tuple es k1 pos) (gSt k gs) := by
  refine pg_mono (pg_star hc h hn hst) fun v σ H Q hw => ?_
  obtain ⟨m, d, sl, M, rd, rs, hM, p⟩ := hw
  unfold gSt at p
  cases hg : getS M d with
  | none => simp only [hg] at p; exact p.elim
  | some ds =>
    simp only [hg] at p
    by_cases hk : k ≤ ds.length
    · rw [if_pos hk] at p
      obtain ⟨a, xs, rfl, hq, hr⟩ := getS_sq hM rd hg
      refine ⟨a, xs, rfl, hq, by rw [hr.length]; exact hk, fun l hl => ?_⟩
      have st : Stp H m (upd H l (.lst (xs.drop k))) (m ++ [l]) := stp_new hl
      have hM' := hrel_new hM hl (o := .lst (xs.drop k)) (u := .lst (ds.drop k)) ⟨_, upd_same, st.rels (hr.drop k)⟩
      exact ⟨m ++ [l], ds.take k ++ [.ref M.length], sl, M ++ [.lst (ds.drop k)], (st.rels (hr.take k)).append (.one (show RelD (zOf X) _ _ (.ref M.length) (.ref l) from ⟨l, rfl, len_new hM⟩)), rs.mono st, hM', p.from st⟩
    · rw [if_neg hk] at p
      exact p.elim
/-- o[i] = v -/
def setD (o i v : D) : C Unit := fun M => match o, i with
  | .ref n, .int k => match M[n]? with
    | some (.lst xs) => match ixN xs.length k with
      | some j => .ok () (M.set n (.lst (xs.set j v)))
      | none => .bad
    | _ => .bad
  | _, _ => .bad
def gSb (to ti : ED) : GD := fun d s => (to s).bind fun o => (ti s).bind fun i => (setD o i d).bind fun _ => C.ret s
theorem mg_sub {o i : Expr} {to ti : ED} (ho : ME X W o to) (hi : ME X W i ti)
    (ha : ∀ v, assign (.Subscript o i pos) X.env v = (do
      let ov ← holding [v] (eval o X.env)
      let iv ← holding [v, ov] (eval i X.env)
      standAt pos
      holding [v, ov, iv] (setItem ov iv v)
      release [v, ov, iv] []) := by intro _; rfl) : MG X W vs (.Subscript o i pos) (gSb to ti) := by
  refine pg_mono (pg_sub ho hi set_list ha) fun v σ H Q hw => ?_
  obtain ⟨m, d, s, M, rd, rs, hM, p⟩ := hw
  refine ⟨m, s, M, rs, hM, p.bind.mono fun dx H1 m1 M1 st1 hM1 p1 x rx => ?_⟩
  refine ⟨m1, s, M1, rs.mono st1, hM1, p1.bind.mono fun dy H2 m2 M2 st2 hM2 p2 y ry => ?_⟩
  cases dx with
  | ref n =>
    cases dy with
    | int k =>
      have ry : y = .int k := ry
      subst ry
      obtain ⟨a, rfl, hm⟩ := st2.rel rx
      unfold C.bind setD at p2
      simp only at p2
      cases he : M2[n]? with
      | none => rw [he] at p2; exact p2.elim
      | some ob =>
        rw [he] at p2
        cases ob with
        | lst xs =>
          simp only at p2
          cases hj : ixN xs.length k with
          | none => rw [hj] at p2; exact p2.elim
          | some j =>
            rw [hj] at p2
            obtain ⟨us, h1, h2⟩ := hM2.at hm he
            have st : Stp H2 m2 (upd H2 a (.lst (us.set j v))) m2 := stp_upd h1 (fun _ z => by cases z) (fun _ _ z => by cases z) hm
            have rd2 := st.rel (st2.rel (st1.rel rd))
            exact ⟨a, us, k, j, rfl, rfl, h1, by rw [h2.length]; exact hj, p2 _ _ st (hrel_upd hM2 h1 (fun _ z => by cases z) (fun _ _ z => by cases z) hm ⟨_, upd_same, (st.rels h2).set j rd2⟩) _ (((rs.mono st1).mono st2).mono st) (Pw.refl vs σ)⟩
        | _ => exact p2.elim
    | _ => exact p2.elim
  | _ => exact p2.elim

/-! ### statements by content -/
variable {e c : Expr} {te : ED} {st : Stmt} {rest a b : List Stmt} {t u : SD} {tc : TD}
def sRet (te : ED) : SD := fun s => (te s).bind fun d => C.ret (.rt d, s)
def sRetN : SD := fun s => C.ret (.rt .non, s)
def sExp (te : ED) : SD := fun s => (te s).bind fun _ => C.ret (.nx, s)
def sNx : SD := fun s => C.ret (.nx, s)
def sBk : SD := fun s => C.ret (.bk, s)
def sCt : SD := fun s => C.ret (.ct, s)
def sBad : SD := fun _ => C.bad
def sIf (tc : TD) (t u : SD) : SD := fun s => (tc s).bind fun b => if b = true then t s else u s
def sSeq (t u : SD) : SD := fun s => (t s).bind fun r => match r.1 with
  | .nx => u r.2
  | f => C.ret (f, r.2)
def sAsg (te : ED) (g : GD) : SD := fun s => (te s).bind fun d => (g d s).bind fun s' => C.ret (.nx, s')
theorem ms_ret (he : ME X W e te) : MS X W (.Return (some e) pos) (sRet te) := ps_mono (ps_ret he) fun E σ H h => by
  obtain ⟨m, s, M, hs, hM, p⟩ := h
  exact ⟨m, s, M, hs, hM, p.bind.mono fun d H1 m1 M1 st1 hM1 p1 v rv => p1.ok hM1 v rv⟩
theorem ms_retN : MS X W (.Return none pos) sRetN := ps_mono ps_retN fun E σ H h => by
  obtain ⟨m, s, M, hs, hM, p⟩ := h
  exact p.ok hM .non rfl
theorem ms_expr (he : ME X W e te) (hs : swapsWith e none pos.line X.env = pure false := by rfl) : MS X W (.Expr e pos) (sExp te) := ps_mono (ps_expr he hs) fun E σ H h => by
  obtain ⟨m, s, M, hs, hM, p⟩ := h
  exact ⟨m, s, M, hs, hM, p.bind.mono fun d H1 m1 M1 st1 hM1 p1 v rv => p1.ok hM1 σ (hs.mono st1)⟩
theorem ms_pass : MS X W (.Pass pos) sNx := ps_mono ps_pass fun E σ H h => by
  obtain ⟨m, s, M, hs, hM, p⟩ := h
  exact p.ok hM σ hs
theorem ms_break : MS X W (.Break pos) sBk := ps_mono ps_break fun E σ H h => by
  obtain ⟨m, s, M, hs, hM, p⟩ := h
  exact p.ok hM σ hs
theorem ms_continue : MS X W (.Continue pos) sCt := ps_mono ps_continue fun E σ H h => by
  obtain ⟨m, s, M, hs, hM, p⟩ := h
  exact p.ok hM σ hs
theorem ms_never : MS X W st sBad := ps_mono ps_never fun E σ H h => by
  obtain ⟨m, s, M, hs, hM, p⟩ := h
  exact p
theorem mb_nil : MB X W [] sNx := pss_mono pss_nil fun E σ H h => by
  obtain ⟨m, s, M, hs, hM, p⟩ := h
  exact p.ok hM σ hs
theorem mb_one (h1 : MS X W st t) : MB X W [st] t := pss_one h1
theorem mb_cons (h1 : MS X W st t) (h2 : MB X W rest u) : MB X W (st :: rest) (sSeq t u) := pss_mono (pss_cons h1 h2) fun E σ H h => by
  obtain ⟨m, s, M, hs, hM, p⟩ := h
  refine ⟨m, s, M, hs, hM, p.bind.mono fun r H1 m1 M1 st1 hM1 p1 => ?_⟩
  obtain ⟨f, s1⟩ := r
  cases f with
  | nx => exact fun σ1 rs1 => ⟨m1, s1, M1, rs1, hM1, p1⟩
  | bk => exact p1.ok hM1
  | ct => exact p1.ok hM1
  | rt d => exact p1.ok hM1
theorem ms_if (hc : MT X W c tc) (ha : MB X W a t) (hb : MB X W b u) : MS X W (.If c a b pos) (sIf tc t u) := ps_mono (ps_if hc ha hb) fun E σ H h => by
  obtain ⟨m, s, M, hs, hM, p⟩ := h
  refine ⟨m, s, M, hs, hM, p.bind.mono fun k H1 m1 M1 st1 hM1 p1 => ?_⟩
  cases k with
  | true => rw [if_pos rfl]; exact ⟨m1, s, M1, hs.mono st1, hM1, p1⟩
  | false => rw [if_neg (by decide)]; exact ⟨m1, s, M1, hs.mono st1, hM1, p1⟩
theorem asg_imp {g : GD} (E : Ends) (σ : L2.St) (H : Hp) (h : tDS (zOf X) W (sAsg te g) E σ H) : tAsg (tD (zOf X) W te) (gD (zOf X) W none g) E σ H := by
  obtain ⟨m, s, M, hs, hM, p⟩ := h
  refine ⟨m, s, M, hs, hM, p.bind.mono fun d H1 m1 M1 st1 hM1 p1 v rv => ?_⟩
  exact ⟨m1, d, s, M1, rv, hs.mono st1, hM1, p1.bind.mono fun s2 H2 m2 M2 st2 hM2 p2 σ2 rs2 _ => p2.ok hM2 σ2 rs2⟩
theorem ms_asg {tg : Expr} {g : GD} (he : ME X W e te) (hg : MG X W none tg g) (hs : swapsWithSole [tg] e pos.line X.env = pure false := by rfl) (hw : swappedStores [tg] e X.env = pure none := by rfl)
    (h1 : (assignEach [tg] X.env).map (·.2) = [assign tg X.env] := by rfl) : MS X W (.Assign [tg] e pos) (sAsg te g) := ps_mono (ps_asg he hg hs hw h1) asg_imp
theorem ms_set {i : Nat} {x : Str} {pos' : Pos} (hN : X.N.Nodup) (hi : X.N[i]? = some x) (hx : Loc X.env.scope x) (he : ME X W e te) (hs : swapsWith e (some (.Name x pos')) pos.line X.env = pure false := by rfl) (hf : X.fn x = true ∨ X.env.scope.names.lookup x = some .local := by first | exact .inl rfl | exact .inr rfl | assumption) :
    MS X W (.Assign [.Name x pos'] e pos) (sAsg te (gNm i)) := ps_mono (ps_set hN hi hx he hs hf) fun E σ H h => by
  obtain ⟨m, s, M, hs, hM, p⟩ := h
  refine ⟨m, s, M, hs, hM, p.bind.mono fun d H1 m1 M1 st1 hM1 p1 v rv => ?_⟩
  exact p1.ok hM1 _ ((hs.mono st1).set i rv)
/-- a, b = e, f; a, b, c = e, f, g -/
def sPar (is : List Nat) (ta : AD) : SD := fun s => (ta s).bind fun ds => if ds.length = is.length then C.ret (.nx, (is.zip ds).foldl (fun s p => s.set p.1 (some p.2)) s) else C.bad
theorem ms_par {i j : Nat} {x y : Str} {a b : Expr} {ta : AD} {px py pt : Pos} {kt k2 pt2} (hc : X.calm = true) (hN : X.N.Nodup) (hi : X.N[i]? = some x) (hj : X.N[j]? = some y) (hij : i ≠ j)
    (hx : X.env.scope.names.lookup x = some .local) (hy : X.env.scope.names.lookup y = some .local) (ha : MA X W [a, b] ta)
    (hw : swappedStores [.Tuple [.Name x px, .Name y py] kt pt] (.Tuple [a, b] k2 pt2) X.env = pure (some [x, y]) := by rfl)
    (hs : swapsWithSole [.Tuple [.Name x px, .Name y py] kt pt] (.Tuple [a, b] k2 pt2) pos.line X.env = pure false := by rfl) :
    MS X W (.Assign [.Tuple [.Name x px, .Name y py] kt pt] (.Tuple [a, b] k2 pt2) pos) (sPar [i, j] ta) := ps_mono (ps_par hc hN hi hj hij hx hy ha hw hs) fun E σ H h => by
  obtain ⟨m, s, M, hs, hM, p⟩ := h
  refine ⟨m, s, M, hs, hM, p.bind.mono fun ds H1 m1 M1 st1 hM1 p1 us ru => ?_⟩
  split at p1
  · rename_i hl
    match ds, hl with
    | [d, e], _ =>
      obtain ⟨v, w, rfl, r1, r2⟩ := rels2 ru
      exact ⟨v, w, rfl, p1.ok hM1 _ (((hs.mono st1).set i r1).set j r2)⟩
  · exact p1.elim
theorem ms_par3 {i j l : Nat} {x y z : Str} {a b c : Expr} {ta : AD} {px py pz pt : Pos} {kt k2 pt2} (hc : X.calm = true) (hN : X.N.Nodup) (hi : X.N[i]? = some x) (hj : X.N[j]? = some y) (hl : X.N[l]? = some z) (hij : i ≠ j) (hil : i ≠ l) (hjl : j ≠ l)
    (hx : X.env.scope.names.lookup x = some .local) (hy : X.env.scope.names.lookup y = some .local) (hz : X.env.scope.names.lookup z = some .local) (ha : MA X W [a, b, c] ta)
    (hw : swappedStores [.Tuple [.Name x px, .Name y py, .Name z pz] kt pt] (.Tuple [a, b, c] k2 pt2) X.env = pure (some [x, y, z]) := by rfl)
    (hs : swapsWithSole [.Tuple [.Name x px, .Name y py, .Name z pz] kt pt] (.Tuple [a, b, c] k2 pt2) pos.line X.env = pure false := by rfl) :
    MS X W (.Assign [.Tuple [.Name x px, .Name y py, .Name z pz] kt pt] (.Tuple [a, b, c] k2 pt2) pos) (sPar [i, j, l] ta) := ps_mono (ps_par3 hc hN hi hj hl hij hil hjl hx hy hz ha hw hs) fun E σ H h => by
  obtain ⟨m, s, M, hs, hM, p⟩ := h
  refine ⟨m, s, M, hs, hM, p.bind.mono fun ds H1 m1 M1 st1 hM1 p1 us ru => ?_⟩
  split at p1
  · rename_i hl
    match ds, hl with
    | [d, e, f], _ =>
      obtain ⟨v, r, rfl, r1, ru⟩ := ru
      obtain ⟨w, w2, rfl, r2, r3⟩ := rels2 ru
      exact ⟨v, w, w2, rfl, p1.ok hM1 _ ((((hs.mono st1).set i r1).set j r2).set l r3)⟩
  · exact p1.elim
end
end Dn

/-! Dn5: what is walked, loops, list comprehensions by content -/
namespace Dn
open PySem PySem.Spec PyProof.Rows L2

/-- what is walked: the list that is to stay (if it is one that changes), the items -/
structure Wk where
  src : Option Nat
  items : List D
/-- the list has stayed -/
def Stays (w : Wk) (M : Mh) : Prop := ∀ n, w.src = some n → M[n]? = some (.lst w.items)
noncomputable instance (w : Wk) (M : Mh) : Decidable (Stays w M) := Classical.propDecidable _
structure ItOk (Z : Zx) (H0 : Hp) (m0 : List Addr) (J : It) (w : Wk) : Prop where
  go : ∀ H m M i d, Stw H0 m0 H m → HRel Z H m M → Stays w M → w.items[i]? = some d → J.go i H ∧ ∀ x H', J.yld i H x H' → Stp H m H' m ∧ HRel Z H' m M ∧ RelD Z H' m d x ∧ ∀ b o, H b = some o → H' b = some o
  stop : ∀ H m M, Stw H0 m0 H m → HRel Z H m M → Stays w M → J.stop w.items.length H
abbrev WD := Sl → C Wk
def tDI (Z : Zx) (W : XK) (t : WD) : TI := fun σ H R => ∃ m s M, RelS Z H m s σ ∧ HRel Z H m M ∧ Post Z W H m (t s M) fun w H' m' _ => ∀ J, ItOk Z H' m' J w → R J H'
abbrev MI (X : Cx) (W : XK) (tg iter : Expr) (t : WD) : Prop := PI X tg iter (tDI (zOf X) W t)
theorem pi_mono {X : Cx} {tg e : Expr} {t t' : TI} (h : PI X tg e t) (i : ∀ σ H R, t' σ H R → t σ H R) : PI X tg e t' := ⟨fun pins s σ H R I q => h.run pins s σ H R I (i σ H R q)⟩

section
variable {Z : Zx} {H0 : Hp} {m0 : List Addr}
theorem itok_tup {a : Addr} {xs : List V} {ds : List D} (hq : SqT Z.K H0 a xs) (hr : RelDs Z H0 m0 ds xs) : ItOk Z H0 m0 (Itt Z.K a) ⟨none, ds⟩ where
  go := fun H m M i d st hM _ e => by
    have hq' := SqT.keep st.tk hq
    have hr' := st.rels hr
    obtain ⟨v, e1, r1⟩ := hr'.get e
    refine ⟨⟨xs, v, hq', e1⟩, fun x H' y => ?_⟩
    obtain ⟨rfl, y⟩ := y
    have := y xs hq'
    rw [e1] at this
    cases this
    exact ⟨Stp.refl _ _, hM, r1, fun _ _ h => h⟩
  stop := fun H m M st hM _ => ⟨xs, SqT.keep st.tk hq, by rw [hr.length]; exact Nat.le_refl _⟩
theorem itok_lst {a : Addr} {n : Nat} {ds : List D} (hm : m0[n]? = some a) : ItOk Z H0 m0 (Itl Z.K a) ⟨some n, ds⟩ where
  go := fun H m M i d st hM sy e => by
    obtain ⟨vs, h1, h2⟩ := hM.at (st.ix n a hm) (sy n rfl)
    obtain ⟨v, e1, r1⟩ := h2.get e
    refine ⟨⟨vs, v, SqL.of h1, e1⟩, fun x H' y => ?_⟩
    obtain ⟨rfl, y⟩ := y
    have := y vs (SqL.of h1)
    rw [e1] at this
    cases this
    exact ⟨Stp.refl _ _, hM, r1, fun _ _ h => h⟩
  stop := fun H m M st hM sy => by
    obtain ⟨vs, h1, h2⟩ := hM.at (st.ix n a hm) (sy n rfl)
    exact ⟨vs, SqL.of h1, by rw [h2.length]; exact Nat.le_refl _⟩
theorem itok_ls {a : Addr} {xs : List V} {ds : List D} (hq : SqF Z.K H0 a xs) (hr : RelDs Z H0 m0 ds xs) : ItOk Z H0 m0 (Itl Z.K a) ⟨none, ds⟩ where
  go := fun H m M i d st hM _ e => by
    have hq' := (SqF.keep st.tk hq).sq
    have hr' := st.rels hr
    obtain ⟨v, e1, r1⟩ := hr'.get e
    refine ⟨⟨xs, v, hq', e1⟩, fun x H' y => ?_⟩
    obtain ⟨rfl, y⟩ := y
    have := y xs hq'
    rw [e1] at this
    cases this
    exact ⟨Stp.refl _ _, hM, r1, fun _ _ h => h⟩
  stop := fun H m M st hM _ => ⟨xs, (SqF.keep st.tk hq).sq, by rw [hr.length]; exact Nat.le_refl _⟩
theorem itok_rng {lo : Int} {n : Nat} : ItOk Z H0 m0 (Itr lo n) ⟨none, (List.range n).map fun i => .int (lo + (i : Nat))⟩ where
  go := fun H m M i d st hM _ e => by
    have hi : i < n := by
      have := (List.getElem?_eq_some_iff.mp e).1
      simpa using this
    have e : D.int (lo + (i : Nat)) = d := by
      rw [List.getElem?_map, List.getElem?_range hi] at e
      simpa using e
    subst e
    refine ⟨hi, fun x H' y => ?_⟩
    obtain ⟨rfl, rfl⟩ := y
    exact ⟨Stp.refl _ _, hM, rfl, fun _ _ h => h⟩
  stop := fun H m M st hM _ => by
    show n ≤ _
    rw [List.length_map, List.length_range]
    exact Nat.le_refl _
end
theorem itok_str {Z : Zx} {H0 : Hp} {m0 : List Addr} (z : Str) : ItOk Z H0 m0 (Its z) ⟨none, signsD z⟩ where
  go := fun H m M i d st hM _ e => by
    have e : (z.cps.toList.map fun c => D.str ⟨#[c]⟩)[i]? = some d := e
    rw [List.getElem?_map, Option.map_eq_some_iff] at e
    obtain ⟨c, hc, rfl⟩ := e
    refine ⟨?_, fun x H' y => ?_⟩
    · have := (List.getElem?_eq_some_iff.mp hc).1
      rwa [Array.length_toList] at this
    · obtain ⟨rfl, c', hc', rfl⟩ := y
      rw [Array.getElem?_toList, hc'] at hc
      cases hc
      exact ⟨Stp.refl _ _, hM, rfl, fun _ _ h => h⟩
  stop := fun H m M st hM _ => by
    show z.cps.size ≤ (signsD z).length
    unfold signsD
    rw [List.length_map, Array.length_toList]
    exact Nat.le_refl _
/-- for x in a tuple, a list, a text -/
def wkOf (d : D) : C Wk := fun M => match d with
  | .tup xs => .ok ⟨none, xs⟩ M
  | .ls xs => .ok ⟨none, xs⟩ M
  | .str z => .ok ⟨none, signsD z⟩ M
  | .ref n => match M[n]? with
    | some (.lst xs) => .ok ⟨some n, xs⟩ M
    | _ => .bad
  | _ => .bad
section
variable {X : Cx} {W : XK} {tg : Expr} {pos p : Pos}
theorem mi_seq {l : Expr} {tl : ED} (hl : ME X W l tl) : MI X W tg l (fun s => (tl s).bind wkOf) := by
  refine ⟨fun pins s σ H R I h => ?_⟩
  obtain ⟨m, sl, M, hs, hM, p⟩ := h
  refine thn (hl.run pins s σ H (fun v H1 => ∃ m1 d M1, RelD (zOf X) H1 m1 d v ∧ HRel (zOf X) H1 m1 M1 ∧ Post (zOf X) W H1 m1 (wkOf d M1) fun w H' m' _ => ∀ J, ItOk (zOf X) H' m' J w → R J H') I
    ⟨m, sl, M, hs, hM, p.bind.mono fun d H1 m1 M1 st1 hM1 p1 v rv => ⟨m1, d, M1, rv, hM1, p1⟩⟩) fun v s1 ⟨x, H1, I1, r1, m1, d, M1, rd, hM1, p1⟩ => ?_
  have lst : ∀ a xs, x = .ref a → SqL X.K H1 a xs → R (Itl X.K a) H1 → wpAny (model X.prog X.w) X.A (pyIter v) (PIE X pins σ tg R) X.xe s1 := by
    intro a xs e hq q
    subst e
    cases r1
    obtain ⟨its, rv, pl, hz⟩ := I1.list hq
    refine wpAny_pyIter_list pl.isList ?_
    refine ⟨s1.heap.objs.size, [s1.heap.objs.size], _, _, H1, rfl, I1.kept (t' := s1.toks) fun b o e => Heap.get?_push_of_some _ e, turn_list a _, ⟨_, Heap.get?_push_size _ rfl, rfl, rfl⟩, fun b hb => ?_, q⟩
    have e : b = s1.heap.objs.size := by simpa using hb
    subst e
    exact I1.fpOk (Nat.le_refl _) (I1.hok.fresh (Nat.le_refl _))
  cases d with
  | tup ds =>
    obtain ⟨a, xs, rfl, hq, hr⟩ := rd
    cases r1
    have q := p1.ok hM1 _ (itok_tup hq.sq hr)
    obtain ⟨its, rv, pl, hz⟩ := I1.tuple hq.sq
    have plT : s1.heap.IsTuple a its.toArray := pl
    refine wpAny_pyIter_tuple plT ?_
    refine ⟨s1.heap.objs.size, [s1.heap.objs.size], _, _, H1, rfl, I1.kept (t' := s1.toks) fun b o e => Heap.get?_push_of_some _ e, turn_tuple a _, ⟨_, Heap.get?_push_size _ rfl, rfl, rfl⟩, fun b hb => ?_, q⟩
    have e : b = s1.heap.objs.size := by simpa using hb
    subst e
    exact I1.fpOk (Nat.le_refl _) (I1.hok.fresh (Nat.le_refl _))
  | ls ds =>
    obtain ⟨a, xs, rfl, hq, hr⟩ := rd
    exact lst a xs rfl hq.sq (p1.ok hM1 _ (itok_ls hq hr))
  | str z =>
    have rd : x = .str z := rd
    subst rd
    obtain ⟨t, rfl⟩ := r1
    have q := p1.ok hM1 _ (itok_str z)
    cases hz : z.cps.all (· < 128)
    · exact wpAny_pyIter_wide hz (pi_one (tk := s1.toks) I1 _ (turn_str _ z t "str_iterator" (Or.inr rfl)) ⟨_, Heap.get?_push_size _ rfl, rfl, rfl⟩ q)
    · exact wpAny_pyIter_ascii hz (pi_one (tk := s1.toks) I1 _ (turn_str _ z t "str_ascii_iterator" (Or.inl rfl)) ⟨_, Heap.get?_push_size _ rfl, rfl, rfl⟩ q)
  | ref n =>
    obtain ⟨a, rfl, hm⟩ := rd
    unfold wkOf at p1
    simp only at p1
    split at p1
    · rename_i xs he
      obtain ⟨vs, h1, h2⟩ := hM1.at hm he
      exact lst a vs rfl (SqL.of h1) (p1.ok hM1 _ (itok_lst hm))
    · exact p1.elim
  | _ => exact p1.elim
/-- range(n), range(a, b) -/
def rng1 : List D → C Wk
  | [.int j] => if -(2 ^ 62) ≤ j ∧ j < 2 ^ 62 then C.ret ⟨none, (List.range j.toNat).map fun i => .int (0 + (i : Nat))⟩ else C.bad
  | _ => C.bad
def rng2 : List D → C Wk
  | [.int i, .int j] => if -(2 ^ 62) ≤ i ∧ i < 2 ^ 62 ∧ -(2 ^ 62) ≤ j ∧ j < 2 ^ 62 then C.ret ⟨none, (List.range (j - i).toNat).map fun k => .int (i + (k : Nat))⟩ else C.bad
  | _ => C.bad
theorem mi_range1 {a : Expr} {ta : AD} (hg : Gl X "range") (hm : X.mg "range" = none) (ha : MA X W [a] ta) (hs : starEach [a] X.env = [(false, eval a X.env)] := by rfl) : MI X W tg (.Call (.Name "range" p) [a] [] pos) (fun s => (ta s).bind rng1) := by
  refine pi_mono (pi_range1 hg hm ha hs) fun σ H R h => ?_
  obtain ⟨m, sl, M, hs, hM, p⟩ := h
  refine ⟨m, sl, M, hs, hM, p.bind.mono fun ds H1 m1 M1 st1 hM1 p1 vs rv => ?_⟩
  unfold rng1 at p1
  split at p1
  · rename_i j
    obtain ⟨v, rfl, rv1⟩ := rels1 rv
    split at p1
    · rename_i hj
      have rv1 : v = .int j := rv1
      subst rv1
      exact ⟨j, rfl, hj.1, hj.2, p1.ok hM1 _ itok_rng⟩
    · exact p1.elim
  · exact p1.elim
theorem mi_range2 {a b : Expr} {ta : AD} (hg : Gl X "range") (hm : X.mg "range" = none) (ha : MA X W [a, b] ta) (hs : starEach [a, b] X.env = [(false, eval a X.env), (false, eval b X.env)] := by rfl) (hs2 : starEach [b] X.env = [(false, eval b X.env)] := by rfl) :
    MI X W tg (.Call (.Name "range" p) [a, b] [] pos) (fun s => (ta s).bind rng2) := by
  refine pi_mono (pi_range2 hg hm ha hs hs2) fun σ H R h => ?_
  obtain ⟨m, sl, M, hs, hM, p⟩ := h
  refine ⟨m, sl, M, hs, hM, p.bind.mono fun ds H1 m1 M1 st1 hM1 p1 vs rv => ?_⟩
  unfold rng2 at p1
  split at p1
  · rename_i i j
    obtain ⟨v, u, rfl, rv1, rv2⟩ := rels2 rv
    split at p1
    · rename_i hj
      have rv1 : v = .int i := rv1
      have rv2 : u = .int j := rv2
      subst rv1 rv2
      exact ⟨i, j, rfl, hj, p1.ok hM1 _ itok_rng⟩
    · exact p1.elim
  · exact p1.elim

/-! ### for -/
noncomputable def loopD (w : Wk) (g : GD) (body : SD) : List D → SD
  | [] => fun s M => if Stays w M then .ok (.nx, s) M else .bad
  | d :: ds => fun s M => if Stays w M then ((g d s).bind fun s1 => (body s1).bind fun r => match r.1 with
      | .nx => loopD w g body ds r.2
      | .ct => loopD w g body ds r.2
      | .bk => C.ret (.nx, r.2)
      | .rt v => C.ret (.rt v, r.2)) M else .bad
noncomputable def sFor (tw : WD) (g : GD) (body : SD) : SD := fun s => (tw s).bind fun w => loopD w g body w.items s
theorem ms_for {iter : Expr} {body : List Stmt} {tw : WD} {g : GD} {tb : SD} (hp : PassesOwn (model X.prog X.w) X.A X.env X.xe) (hc : X.calm = true) (hi : MI X W tg iter tw) (hg : MG X W none tg g) (hb : MB X W body tb)
    (hs : ∀ x, foldedSetIterable iter X.env x = pure x := by intro _; rfl) : MS X W (.For tg iter body [] pos) (sFor tw g tb) := by
  refine ps_mono (ps_for hp hc hi hg hb hs) fun E σ H h => ?_
  obtain ⟨m, s, M, hs, hM, p⟩ := h
  refine ⟨m, s, M, hs, hM, p.bind.mono fun w H1 m1 M1 st1 hM1 p1 J hJ => ?_⟩
  refine ⟨fun i k σ H => k = w.items.length - i ∧ i ≤ w.items.length ∧ ∃ m s M, Stp H1 m1 H m ∧ RelS (zOf X) H m s σ ∧ HRel (zOf X) H m M ∧ Post (zOf X) W H m (loopD w g tb (w.items.drop i) s M) fun r H' m' _ => EndD (zOf X) E r.1 r.2 H' m',
    ⟨w.items.length, by omega, by omega, m1, s, M1, Stp.refl _ _, hs.mono st1, hM1, by rw [List.drop_zero]; exact p1⟩, ?_⟩
  rintro i k σ2 H2 ⟨rfl, hi, m2, s2, M2, st2, rs2, hM2, p2⟩
  by_cases hlt : i < w.items.length
  · rw [List.drop_eq_getElem_cons hlt] at p2
    unfold loopD at p2
    by_cases hsy : Stays w M2
    · rw [if_pos hsy] at p2
      obtain ⟨hgo, hy⟩ := hJ.go H2 m2 M2 i _ st2.w hM2 hsy (List.getElem?_eq_getElem hlt)
      refine .inr ⟨hgo, fun σ' H' => ∃ m s M, Stp H1 m1 H' m ∧ RelS (zOf X) H' m s σ' ∧ HRel (zOf X) H' m M ∧ Post (zOf X) W H' m (loopD w g tb (w.items.drop (i + 1)) s M) fun r H' m' _ => EndD (zOf X) E r.1 r.2 H' m',
        fun σ' H' hN => ⟨w.items.length - (i + 1), by omega, rfl, hlt, hN⟩, fun x H' y => ?_⟩
      obtain ⟨st3, hM3, r3, _⟩ := hy x H' y
      refine ⟨m2, _, s2, M2, r3, rs2.mono st3, hM3, (p2.from st3).bind.mono fun s4 H4 m4 M4 st4 hM4 p4 σ4 rs4 _ => ?_⟩
      refine ⟨m4, s4, M4, rs4, hM4, p4.bind.mono fun r H5 m5 M5 st5 hM5 p5 => ?_⟩
      have st25 : Stp H1 m1 H5 m5 := ((st2.trans st3).trans st4).trans st5
      obtain ⟨f, s5⟩ := r
      cases f with
      | nx => exact fun σ5 rs5 => ⟨m5, s5, M5, st25, rs5, hM5, p5⟩
      | ct => exact fun σ5 rs5 => ⟨m5, s5, M5, st25, rs5, hM5, p5⟩
      | bk => exact p5.ok hM5
      | rt v => exact p5.ok hM5
    · rw [if_neg hsy] at p2
      exact p2.elim
  · have e : i = w.items.length := by omega
    subst e
    rw [List.drop_length] at p2
    unfold loopD at p2
    by_cases hsy : Stays w M2
    · rw [if_pos hsy] at p2
      exact .inl ⟨hJ.stop H2 m2 M2 st2.w hM2 hsy, p2.ok hM2 σ2 rs2⟩
    · rw [if_neg hsy] at p2
      exact p2.elim

/-! ### list comprehensions -/
/-- no exception -/
def C.noX {α : Type} (f : C α) : C α := fun M => match f M with
  | .exc _ _ _ => .bad
  | r => r
theorem Post.atX {Z : Zx} {W : XK} {H1 H : Hp} {m1 m : List Addr} {α β : Type} {f : C α} {g : α → C β} {M : Mh} {k : β → Hp → List Addr → Mh → Prop} (p : Post Z W H1 m1 (f.noX.bind g M) k) : Post Z E0 H m (f M) (fun a _ _ M' => Post Z W H1 m1 (g a M') k) := by
  unfold C.bind C.noX at p
  cases e : f M with
  | bad => rw [e] at p; exact p.elim
  | ok a M' => rw [e] at p; exact fun _ _ _ _ => p
  | exc c fs M' => rw [e] at p; exact p.elim
def wipeD (s : Sl) : List Nat → Sl
  | [] => s
  | v :: vs => (wipeD s vs).set v none
theorem RelS.wipe {Z : Zx} {H : Hp} {m : List Addr} {s : Sl} {σ : L2.St} (h : RelS Z H m s σ) : ∀ l : List Nat, RelS Z H m (wipeD s l) (L2.wipe σ l)
  | [] => h
  | v :: vs => (h.wipe vs).unset v
noncomputable def compL (w : Wk) (g : GD) (tt : TD) (te : ED) (s0 : Sl) : List D → List D → C (List D)
  | [], acc => fun M => if Stays w M then .ok acc M else .bad
  | d :: ds, acc => fun M => if Stays w M then ((g d s0).noX.bind fun s1 => (tt s1).noX.bind fun b => if b = true then (te s1).noX.bind fun y => compL w g tt te s0 ds (acc ++ [y]) else compL w g tt te s0 ds acc) M else .bad
noncomputable def eComp (vs : List Nat) (tw : WD) (g : GD) (tt : TD) (te : ED) : ED := fun s => (tw s).bind fun w => if w.items.length < sizeLine then (compL w g tt te (wipeD s vs) w.items []).bind fun xs => fun M => .ok (.ref M.length) (M ++ [.lst xs]) else C.bad

theorem compL_cons {w : Wk} {g : GD} {tt : TD} {te : ED} {s0 : Sl} {d : D} {ds acc : List D} {M : Mh} : compL w g tt te s0 (d :: ds) acc M = if Stays w M then ((g d s0).noX.bind fun s1 => (tt s1).noX.bind fun b => if b = true then (te s1).noX.bind fun y => compL w g tt te s0 ds (acc ++ [y]) else compL w g tt te s0 ds acc) M else .bad := rfl
theorem compL_nil {w : Wk} {g : GD} {tt : TD} {te : ED} {s0 : Sl} {acc : List D} {M : Mh} : compL w g tt te s0 [] acc M = if Stays w M then .ok acc M else .bad := rfl
theorem bind_at {α β : Type} {f f' : C α} {g : α → C β} {M : Mh} (h : f M = f' M) : f.bind g M = f'.bind g M := by unfold C.bind; rw [h]
theorem bind_bind {α β γ : Type} (f : C α) (g : α → C β) (h : β → C γ) : (f.bind g).bind h = f.bind fun a => (g a).bind h := by
  funext M
  unfold C.bind
  cases f M <;> rfl
theorem wipe_in (σ : L2.St) (v : Nat) : ∀ vs : List Nat, v ∈ vs → (L2.wipe σ vs).set v none = L2.wipe σ vs
  | [], h => by cases h
  | u :: us, h => by
    unfold L2.wipe
    by_cases e : v = u
    · subst e
      rw [List.set_set]
    · have hv : v ∈ us := by
        rcases List.mem_cons.mp h with z | z
        · exact absurd z e
        · exact z
      rw [List.set_comm _ _ (Ne.symm e), wipe_in σ v us hv]
theorem wipe_sub (σ : L2.St) (ws : List Nat) : ∀ vs : List Nat, (∀ v ∈ vs, v ∈ ws) → L2.wipe (L2.wipe σ ws) vs = L2.wipe σ ws
  | [], _ => rfl
  | v :: vs, h => by
    show (L2.wipe (L2.wipe σ ws) vs).set v none = _
    rw [wipe_sub σ ws vs fun u hu => h u (List.mem_cons_of_mem _ hu)]
    exact wipe_in σ v ws (h v List.mem_cons_self)
theorem wipe_wipe (σ : L2.St) (vs : List Nat) : L2.wipe (L2.wipe σ vs) vs = L2.wipe σ vs := wipe_sub σ vs vs fun _ h => h
theorem stp_out {H1 H : Hp} {m1 m : List Addr} {p : Addr} {o : HO} (st : Stp H1 m1 H m) (h1 : H1 p = none) {u : HO} (h : H p = some u) (n1 : ∀ xs, u ≠ .tup xs) (n2 : ∀ a b, u ≠ .frz a b) : Stp H1 m1 (upd H p o) m :=
  ⟨st.ext, st.tk.trans (tk_upd h n1 n2), fun b x e hb => by rw [upd_ne (ne_of_none e h1)]; exact st.fr b x e hb⟩
theorem hrel_out {Z : Zx} {H : Hp} {m : List Addr} {M : Mh} {p : Addr} {o u : HO} (hM : HRel Z H m M) (h : H p = some u) (n1 : ∀ xs, u ≠ .tup xs) (n2 : ∀ a b, u ≠ .frz a b) (hp : p ∉ m) : HRel Z (upd H p o) m M :=
  ⟨hM.len, hM.nd, fun n x q => by
    obtain ⟨a, q1, r⟩ := hM.obj n x q
    exact ⟨a, q1, r.keep (tk_upd h n1 n2) (fun _ _ z => z) fun w e => by
      rw [upd_ne (fun z => hp (by rw [← z]; exact List.mem_of_getElem? q1))]; exact e⟩⟩
theorem stp_add {H1 H : Hp} {m1 m : List Addr} {p : Addr} (st : Stp H1 m1 H m) (h1 : H1 p = none) : Stp H1 m1 H (m ++ [p]) := by
  obtain ⟨n, e, f⟩ := st.ext
  refine ⟨⟨n ++ [p], by rw [e, List.append_assoc], fun a ha => ?_⟩, st.tk, st.fr⟩
  rcases List.mem_append.mp ha with h | h
  · exact f a h
  · have : a = p := by simpa using h
    subst this; exact h1
theorem hrel_add {Z : Zx} {H : Hp} {m : List Addr} {M : Mh} {p : Addr} {vs : List V} {ds : List D} (hM : HRel Z H m M) (h : H p = some (.lst vs)) (hp : p ∉ m) (r : RelDs Z H m ds vs) : HRel Z H (m ++ [p]) (M ++ [.lst ds]) := by
  refine ⟨by rw [List.length_append, List.length_append, hM.len]; rfl, ?_, fun n x q => ?_⟩
  · rw [List.nodup_append]
    refine ⟨hM.nd, by simp, fun a ha b hb => ?_⟩
    have : b = p := by simpa using hb
    subst this
    exact fun e => hp (e ▸ ha)
  · by_cases hn : n < M.length
    · rw [List.getElem?_append_left hn] at q
      obtain ⟨a, q1, r⟩ := hM.obj n x q
      exact ⟨a, ix_new n a q1, r.keep (TK.refl H) ix_new fun u e => e⟩
    · rw [List.getElem?_append_right (by omega)] at q
      have hz : n - M.length = 0 := by
        have := (List.getElem?_eq_some_iff.mp q).1
        simpa using this
      have hn2 : n = M.length := by omega
      rw [hz] at q
      have q : MO.lst ds = x := by simpa using q
      subst q
      refine ⟨p, ?_, vs, h, RelDs.keep (TK.refl H) ix_new _ _ r⟩
      rw [hn2, ← hM.len, List.getElem?_append_right (Nat.le_refl _), Nat.sub_self]
      rfl

theorem lc_imp {vs : List Nat} {tw : WD} {g : GD} {tt : TD} {te : ED} (σ : L2.St) (H : Hp) (Q : VK) (h : tD (zOf X) W (eComp vs tw g tt te) σ H Q) :
    tLc (tDI (zOf X) W tw) (gD (zOf X) E0 (some vs) g) (tDT (zOf X) E0 tt) (tD (zOf X) E0 te) vs σ H Q := by
  obtain ⟨m, s, M, hs, hM, p⟩ := h
  refine ⟨m, s, M, hs, hM, p.bind.mono fun w H1 m1 M1 st1 hM1 p1 J hJ Dl hD => ?_⟩
  split at p1
  case isFalse => exact p1.elim
  rename_i hlen
  have hDm : Dl ∉ m1 := hM1.new hD
  have stl : Stp H1 m1 (upd H1 Dl (.lst [])) m1 := stp_laid hD
  have rs1 : RelS (zOf X) H1 m1 (wipeD s vs) (L2.wipe σ vs) := (hs.mono st1).wipe vs
  refine ⟨fun i k H => k = w.items.length - i ∧ i ≤ w.items.length ∧ ∃ m M acc av, Stp H1 m1 H m ∧ H Dl = some (.lst av) ∧ Dl ∉ m ∧ RelDs (zOf X) H m acc av ∧ HRel (zOf X) H m M ∧ acc.length ≤ i ∧
      Post (zOf X) W H1 m1 ((compL w g tt te (wipeD s vs) (w.items.drop i) acc).bind (fun xs => fun M => .ok (.ref M.length) (M ++ [.lst xs])) M) (fun d' H' m' _ => ∀ v, RelD (zOf X) H' m' d' v → Q v H'),
    ⟨w.items.length, by omega, by omega, m1, M1, [], [], stl, upd_same, hDm, rfl, hrel_laid hM1 hD, Nat.le_refl _, by rw [List.drop_zero]; exact p1⟩, ?_⟩
  rintro i k H2 ⟨rfl, hi, m2, M2, acc, av, st2, hDl, hDm2, racc, hM2, hal, p2⟩
  have nt : ∀ (l : List V) xs, HO.lst l ≠ HO.tup xs := fun _ _ z => by cases z
  have nf : ∀ (l : List V) a b, HO.lst l ≠ HO.frz a b := fun _ _ _ z => by cases z
  by_cases hlt : i < w.items.length
  · rw [List.drop_eq_getElem_cons hlt] at p2
    have hsy : Stays w M2 := by
      by_cases z : Stays w M2
      · exact z
      · unfold C.bind at p2
        rw [compL_cons, if_neg z] at p2
        exact p2.elim
    have p2 : Post (zOf X) W H1 m1 ((g w.items[i] (wipeD s vs)).noX.bind (fun s1 => (tt s1).noX.bind fun b => (if b = true then (te s1).noX.bind fun y => (compL w g tt te (wipeD s vs) (w.items.drop (i + 1)) (acc ++ [y])) else compL w g tt te (wipeD s vs) (w.items.drop (i + 1)) acc).bind (fun xs => fun M => .ok (.ref M.length) (M ++ [.lst xs]))) M2)
        (fun d' H' m' _ => ∀ v, RelD (zOf X) H' m' d' v → Q v H') := by
      have e : ((compL w g tt te (wipeD s vs) (w.items[i] :: w.items.drop (i + 1)) acc).bind (fun xs => fun M => .ok (.ref M.length) (M ++ [.lst xs])) M2 : R D)
        = ((g w.items[i] (wipeD s vs)).noX.bind (fun s1 => (tt s1).noX.bind fun b => (if b = true then (te s1).noX.bind fun y => (compL w g tt te (wipeD s vs) (w.items.drop (i + 1)) (acc ++ [y])) else compL w g tt te (wipeD s vs) (w.items.drop (i + 1)) acc).bind (fun xs => fun M => .ok (.ref M.length) (M ++ [.lst xs]))) M2) := by
        rw [bind_at (f' := (g w.items[i] (wipeD s vs)).noX.bind fun s1 => (tt s1).noX.bind fun b => if b = true then (te s1).noX.bind fun y => compL w g tt te (wipeD s vs) (w.items.drop (i + 1)) (acc ++ [y]) else compL w g tt te (wipeD s vs) (w.items.drop (i + 1)) acc) (by rw [compL_cons, if_pos hsy])]
        rw [bind_bind]
        congr 1
        funext s1
        rw [bind_bind]
      rw [e] at p2
      exact p2
    obtain ⟨hgo, hy⟩ := hJ.go H2 m2 M2 i _ st2.w hM2 hsy (List.getElem?_eq_getElem hlt)
    refine .inr ⟨hgo, fun H' => ∃ m M acc av, Stp H1 m1 H' m ∧ H' Dl = some (.lst av) ∧ Dl ∉ m ∧ RelDs (zOf X) H' m acc av ∧ HRel (zOf X) H' m M ∧ acc.length ≤ i + 1 ∧
        Post (zOf X) W H1 m1 ((compL w g tt te (wipeD s vs) (w.items.drop (i + 1)) acc).bind (fun xs => fun M => .ok (.ref M.length) (M ++ [.lst xs])) M) (fun d' H' m' _ => ∀ v, RelD (zOf X) H' m' d' v → Q v H'),
      fun H' hN => ⟨w.items.length - (i + 1), by omega, rfl, hlt, hN⟩, fun x H' y => ?_⟩
    obtain ⟨st3, hM3, r3, k3⟩ := hy x H' y
    have keepD : ∀ {Ha Hb : Hp} {ma mb : List Addr} {l : List V}, Stp Ha ma Hb mb → Ha Dl = some (.lst l) → Dl ∉ ma → Hb Dl = some (.lst l) ∧ Dl ∉ mb := fun {Ha Hb ma mb l} st h hn => by
      refine ⟨st.fr _ _ h hn, ?_⟩
      obtain ⟨n, e, f⟩ := st.ext
      rw [e]
      intro z
      rcases List.mem_append.mp z with z | z
      · exact hn z
      · rw [f _ z] at h; cases h
    obtain ⟨hD3, hm3⟩ := keepD st3 hDl hDm2
    have rs3 : RelS (zOf X) H' m2 (wipeD s vs) (L2.wipe σ vs) := rs1.mono (st2.trans st3)
    refine ⟨m2, _, _, M2, r3, rs3, hM3, (Post.atX p2).mono fun s4 H4 m4 M4 st4 hM4 p4 σ4 rs4 w4 => ?_⟩
    obtain ⟨hD4, hm4⟩ := keepD st4 hD3 hm3
    refine ⟨by
      have w4 : L2.wipe σ4 vs = L2.wipe (L2.wipe σ vs) vs := w4
      rw [w4]
      exact wipe_wipe σ vs, m4, s4, M4, rs4, hM4, (Post.atX p4).mono fun b H5 m5 M5 st5 hM5 p5 => ?_⟩
    obtain ⟨hD5, hm5⟩ := keepD st5 hD4 hm4
    cases b with
    | false =>
      rw [if_neg (by decide)]
      rw [if_neg (by decide)] at p5
      exact ⟨m5, M5, acc, av, ((st2.trans st3).trans st4).trans st5, hD5, hm5, (st5.rels (st4.rels (st3.rels racc))), hM5, by omega, p5⟩
    | true =>
      rw [if_pos rfl]
      rw [if_pos rfl] at p5
      have p5 : Post (zOf X) W H1 m1 ((te s4).noX.bind (fun y => (compL w g tt te (wipeD s vs) (w.items.drop (i + 1)) (acc ++ [y])).bind (fun xs => fun M => .ok (.ref M.length) (M ++ [.lst xs]))) M5) (fun d' H' m' _ => ∀ v, RelD (zOf X) H' m' d' v → Q v H') := by
        have e : (((te s4).noX.bind fun y => compL w g tt te (wipeD s vs) (w.items.drop (i + 1)) (acc ++ [y])).bind (fun xs => fun M => .ok (.ref M.length) (M ++ [.lst xs])) M5 : R D)
          = ((te s4).noX.bind (fun y => (compL w g tt te (wipeD s vs) (w.items.drop (i + 1)) (acc ++ [y])).bind (fun xs => fun M => .ok (.ref M.length) (M ++ [.lst xs]))) M5) := by
          rw [bind_bind]
        rw [e] at p5
        exact p5
      refine ⟨m5, s4, M5, rs4.mono st5, hM5, (Post.atX p5).mono fun y H6 m6 M6 st6 hM6 p6 yv ry => ?_⟩
      obtain ⟨hD6, hm6⟩ := keepD st6 hD5 hm5
      have st16 : Stp H1 m1 H6 m6 := (((st2.trans st3).trans st4).trans st5).trans st6
      have ra6 : RelDs (zOf X) H6 m6 acc av := st6.rels (st5.rels (st4.rels (st3.rels racc)))
      have tk6 : TK H6 (upd H6 Dl (.lst (av ++ [yv]))) := tk_upd hD6 (nt _) (nf _)
      refine ⟨av, hD6, by rw [ra6.length]; omega, m6, M6, acc ++ [y], av ++ [yv], stp_out st16 hD hD6 (nt _) (nf _), upd_same, hm6, RelDs.keep tk6 (fun _ _ z => z) _ _ (ra6.append (.one ry)), hrel_out hM6 hD6 (nt _) (nf _) hm6, by rw [List.length_append]; simp; omega, p6⟩
  · have e : i = w.items.length := by omega
    subst e
    rw [List.drop_length] at p2
    have hsy : Stays w M2 := by
      by_cases z : Stays w M2
      · exact z
      · unfold C.bind at p2
        rw [compL_nil, if_neg z] at p2
        exact p2.elim
    unfold C.bind at p2
    rw [compL_nil, if_pos hsy] at p2
    exact .inl ⟨hJ.stop H2 m2 M2 st2.w hM2 hsy, p2 H2 (m2 ++ [Dl]) (stp_add st2 hD) (hrel_add hM2 hDl hDm2 racc) _ ⟨Dl, rfl, len_new hM2⟩⟩
end
end Dn

/-! Dn6: comprehensions as values, defs and their calls, the law's end -/
namespace Dn
open PySem PySem.Spec PyProof.Rows L2

section
variable {X : Cx} {W : XK} {tg iter elt : Expr} {ifs : List Expr} {scope : Scope} {own : List (Str × Nat)} {pos p : Pos}
def tYesD : TD := fun _ => C.ret true
theorem pts_mono {X : Cx} {es : List Expr} {t t' : TT} (h : PTs X es t) (i : ∀ σ H Q, t' σ H Q → t σ H Q) : PTs X es t' := ⟨fun pins s σ H Q I q => h.run pins s σ H Q I (i σ H Q q)⟩
theorem mts_nil : PTs X [] (tDT (zOf X) W tYesD) := pts_mono pts_nil fun σ H Q h => by
  obtain ⟨m, s, M, hs, hM, p⟩ := h
  exact p.ok hM
theorem mts_one {c : Expr} {t : TD} (h : MT X W c t) : PTs X [c] (tDT (zOf X) W t) := pts_one h
theorem me_lc {tw : WD} {g : GD} {tt : TD} {te : ED} (hc : X.calm = true) (hN : X.N.Nodup) (hi : MI X W tg iter tw) (ok : BlkOk X.N X.env.scope scope own)
    (hg : ∀ (s : Shared) (H : Hp) (C : Addr) (cl : List (Str × Addr)) (fp : List Addr), MG (X.blk s H scope (compEnvC scope cl C X.env) fp) E0 (some (own.map (·.2))) tg g)
    (ht : ∀ (s : Shared) (H : Hp) (C : Addr) (cl : List (Str × Addr)) (fp : List Addr), PTs (X.blk s H scope (compEnvC scope cl C X.env) fp) ifs (tDT (zOf X) E0 tt))
    (he : ∀ (s : Shared) (H : Hp) (C : Addr) (cl : List (Str × Addr)) (fp : List Addr), ME (X.blk s H scope (compEnvC scope cl C X.env) fp) E0 elt te) (hs : ∀ x, foldedSetIterable iter X.env x = pure x := by intro _; rfl) :
    ME X W (.ListComp elt [⟨tg, iter, ifs, 0⟩] scope pos) (eComp (own.map (·.2)) tw g tt te) := pe_mono (pe_lc hc hN hi ok hg ht he hs) lc_imp
/-- name = [..] -/
theorem ms_setLc {i : Nat} {y : Str} {py spos : Pos} {tw : WD} {g : GD} {tt : TD} {te : ED} (hc : X.calm = true) (hN : X.N.Nodup) (hy : X.N[i]? = some y) (hyl : X.env.scope.names.lookup y = some .local)
    (hsw : swapsWith (.ListComp elt [⟨tg, iter, ifs, 0⟩] scope pos) (some (.Name y py)) spos.line X.env = pure true) (hi : MI X W tg iter tw) (ok : BlkOk X.N X.env.scope scope own)
    (hg : ∀ (s : Shared) (H : Hp) (C : Addr) (cl : List (Str × Addr)) (fp : List Addr), MG (X.blk s H scope (compEnvC scope cl C X.env) fp) E0 (some (own.map (·.2))) tg g)
    (ht : ∀ (s : Shared) (H : Hp) (C : Addr) (cl : List (Str × Addr)) (fp : List Addr), PTs (X.blk s H scope (compEnvC scope cl C X.env) fp) ifs (tDT (zOf X) E0 tt))
    (he : ∀ (s : Shared) (H : Hp) (C : Addr) (cl : List (Str × Addr)) (fp : List Addr), ME (X.blk s H scope (compEnvC scope cl C X.env) fp) E0 elt te) (hs : ∀ x, foldedSetIterable iter X.env x = pure x := by intro _; rfl) :
    MS X W (.Assign [.Name y py] (.ListComp elt [⟨tg, iter, ifs, 0⟩] scope pos) spos) (sAsg (eComp (own.map (·.2)) tw g tt te) (gNm i)) := ps_mono (ps_setLc hc hN hy hyl hsw hi ok hg ht he hs) fun E σ H h => by
  obtain ⟨m, s, M, hs, hM, p⟩ := h
  refine lc_imp (X := X) (W := W) σ H _ ⟨m, s, M, hs, hM, p.bind.mono fun d H1 m1 M1 st1 hM1 p1 v rv => ?_⟩
  exact p1.ok hM1 _ ((hs.mono st1).set i rv)
end

/-! ### defs -/
/-- room, and nothing is being shown -/
structure RoomG (k : Nat) (A : Around) : Prop where
  r : Room k A
  g : A.guards = some []
theorem RoomG.mono {j k : Nat} {A : Around} (r : RoomG k A) (h : j ≤ k) : RoomG j A := ⟨r.r.mono h, r.g⟩
theorem RoomG.deeper {k : Nat} {A : Around} (r : RoomG (k + 1) A) (env : Env) : RoomG k (A.deeper env) := ⟨r.r.deeper env, r.g⟩
/-- the def at f keeps the promise sp, with so much room -/
structure FnG (P : Program) (w : World) (K : PySem.W.Frag) (mg : Str → Option Value) (base : Heap) (CX : CXT) (k : Nat) (f : Addr) (fd : FuncData) (ps : List Str) (sp : Sp) : Prop where
  len : ∀ vs H Q E, sp vs H Q E → vs.length = ps.length
  run : ∀ (A : Around) (outer : List Env) (s : Shared) (H : Hp) (args : Args) (us : List Value) (vs : List V) (Q : VK) (E : XK), RoomG k A → Env0 P w K mg base A outer s H → BindsTo s fd args (ps.zip us) → Vals vs us → sp vs H Q E →
    codeAny (model P w) A (.call (.ref f) args) (CR CX outer P w H s Q E) s

/-- what a def reckons of its arguments -/
abbrev Fn := List D → C D
def spD (Z : Zx) (n : Nat) (F : Fn) : Sp := fun vs H Q E => vs.length = n ∧ ∃ m ds M, RelDs Z H m ds vs ∧ HRel Z H m M ∧ Post Z E H m (F ds M) fun d H' m' _ => ∀ v, RelD Z H' m' d v → Q v H'
def noFn : Fn := fun _ => C.bad

/-! what is left of the new things behind a call: the answer alone -/
mutual
def lowD (n : Nat) : D → Bool
  | .tup ds => lowDs n ds
  | .ls ds => lowDs n ds
  | .ref k => decide (k < n)
  | _ => true
def lowDs (n : Nat) : List D → Bool
  | [] => true
  | d :: ds => lowD n d && lowDs n ds
end
def lowO (n : Nat) : MO → Bool
  | .lst ds => lowDs n ds
  | .dct kvs => lowDs n (kvs.map (·.2))
  | .ins _ fs => lowDs n (fs.map (·.2))
def gcD (n : Nat) (d : D) : C D := fun M =>
  if (M.take n).all (lowO n) = true ∧ n ≤ M.length then
    if lowD n d = true then .ok d (M.take n) else
    match d with
    | .ref k => match M[k]? with
      | some o => if lowO n o = true then .ok (.ref n) (M.take n ++ [o]) else .ok d M
      | none => .bad
    | _ => .ok d M
  else .ok d M
section
variable {Z : Zx} {H : Hp} {m : List Addr}
mutual
theorem RelD.cut (n : Nat) : ∀ (d : D) (v : V), lowD n d = true → RelD Z H m d v → RelD Z H (m.take n) d v
  | .non, _, _, h => h
  | .bl _, _, _, h => h
  | .int _, _, _, h => h
  | .str _, _, _, h => h
  | .tup ds, v, b, h => by
    obtain ⟨a, xs, e, q, r⟩ := h
    exact ⟨a, xs, e, q, RelDs.cutA n ds xs b r⟩
  | .ls ds, v, b, h => by
    obtain ⟨a, xs, e, q, r⟩ := h
    exact ⟨a, xs, e, q, RelDs.cutA n ds xs b r⟩
  | .ref k, v, b, h => by
    obtain ⟨a, e, q⟩ := h
    refine ⟨a, e, ?_⟩
    rw [List.getElem?_take_of_lt (of_decide_eq_true b)]
    exact q
  | .glo _, _, _, h => h
  | .rod _, _, _, h => h
theorem RelDs.cutA (n : Nat) : ∀ (ds : List D) (vs : List V), lowDs n ds = true → RelDs Z H m ds vs → RelDs Z H (m.take n) ds vs
  | [], _, _, h => h
  | d :: ds, vs, b, h => by
    obtain ⟨v, r, e, h1, h2⟩ := h
    have b : (lowD n d && lowDs n ds) = true := b
    rw [Bool.and_eq_true] at b
    exact ⟨v, r, e, RelD.cut n d v b.1 h1, RelDs.cutA n ds r b.2 h2⟩
end
theorem RelKs.cut {k : Type} (n : Nat) : ∀ (ds : List (k × D)) (vs : List (k × V)), lowDs n (ds.map (·.2)) = true → RelKs Z H m ds vs → RelKs Z H (m.take n) ds vs
  | [], _, _, h => h
  | (x, d) :: ds, vs, b, h => by
    obtain ⟨v, r, e, h1, h2⟩ := h
    have b : (lowD n d && lowDs n (ds.map (·.2))) = true := b
    rw [Bool.and_eq_true] at b
    exact ⟨v, r, e, RelD.cut n d v b.1 h1, RelKs.cut n ds r b.2 h2⟩
theorem ObjR.cut {n : Nat} {a : Addr} {o : MO} (b : lowO n o = true) (h : ObjR Z H m a o) : ObjR Z H (m.take n) a o := by
  cases o with
  | lst ds => obtain ⟨xs, e, r⟩ := h; exact ⟨xs, e, RelDs.cutA n _ _ b r⟩
  | dct kvs => obtain ⟨xs, e, r⟩ := h; exact ⟨xs, e, RelKs.cut n _ _ b r⟩
  | ins c fs => obtain ⟨C, dx, xs, g, e, r⟩ := h; exact ⟨C, dx, xs, g, e, RelKs.cut n _ _ b r⟩
theorem HRel.cut {n : Nat} {M : Mh} (h : HRel Z H m M) (b : (M.take n).all (lowO n) = true) : HRel Z H (m.take n) (M.take n) := by
  refine ⟨by rw [List.length_take, List.length_take, h.len], h.nd.sublist (List.take_sublist _ _), fun j o e => ?_⟩
  have hj : j < n := by
    have := (List.getElem?_eq_some_iff.mp e).1
    rw [List.length_take] at this
    omega
  have e' := e
  rw [List.getElem?_take_of_lt hj] at e'
  obtain ⟨a, q, r⟩ := h.obj j o e'
  refine ⟨a, by rw [List.getElem?_take_of_lt hj]; exact q, r.cut ?_⟩
  rw [List.all_eq_true] at b
  exact b o (List.mem_of_getElem? e)
/-- behind a call -/
theorem Post.gc {W : XK} {H0 : Hp} {m0 : List Addr} {n : Nat} {d : D} {M : Mh} {k : D → Hp → List Addr → Mh → Prop} (hn : m0.length = n) (p : Post Z W H0 m0 (gcD n d M) k) (st : Stp H0 m0 H m) (hM : HRel Z H m M) (v : V) (r : RelD Z H m d v) :
    ∃ d' m' M', RelD Z H m' d' v ∧ Stp H0 m0 H m' ∧ HRel Z H m' M' ∧ k d' H m' M' := by
  have whole : Post Z W H0 m0 (.ok d M) k → ∃ d' m' M', RelD Z H m' d' v ∧ Stp H0 m0 H m' ∧ HRel Z H m' M' ∧ k d' H m' M' := fun p => ⟨d, m, M, r, st, hM, p H m st hM⟩
  unfold gcD at p
  by_cases hb : (M.take n).all (lowO n) = true ∧ n ≤ M.length
  · rw [if_pos hb] at p
    have hcut := hM.cut hb.1
    have em : m.take n = m0 := by
      obtain ⟨l, e, _⟩ := st.ext
      rw [e, List.take_append_of_le_length (by omega), ← hn, List.take_length]
    have st0 : Stp H0 m0 H m0 := ⟨⟨[], by simp, by simp⟩, st.tk, st.fr⟩
    by_cases hd : lowD n d = true
    · rw [if_pos hd] at p
      have r' := RelD.cut n d v hd r
      rw [em] at r' hcut
      exact ⟨d, m0, M.take n, r', st0, hcut, p H m0 st0 hcut⟩
    · rw [if_neg hd] at p
      cases d with
      | ref j =>
        simp only at p
        cases ho : M[j]? with
        | none => rw [ho] at p; exact p.elim
        | some o =>
          rw [ho] at p
          simp only at p
          by_cases hob : lowO n o = true
          · rw [if_pos hob] at p
            obtain ⟨a, rfl, hm⟩ := r
            have hR := (hM.at hm ho).cut hob
            have hj : ¬ j < n := fun z => hd (decide_eq_true z)
            have han : a ∉ m0 := by
              intro z
              rw [← em] at z
              obtain ⟨i, hi, e⟩ := List.mem_iff_getElem.mp z
              have hil : i < n := by rw [List.length_take] at hi; omega
              have e2 : m[i]? = some a := by
                rw [← List.getElem?_take_of_lt hil, List.getElem?_eq_getElem hi, e]
              obtain ⟨l1, x1⟩ := List.getElem?_eq_some_iff.mp e2
              obtain ⟨l2, x2⟩ := List.getElem?_eq_some_iff.mp hm
              have := (List.getElem_inj hM.nd).mp (x1.trans x2.symm)
              omega
            have h0a : H0 a = none := by
              obtain ⟨l, e, f⟩ := st.ext
              have : a ∈ m := List.mem_of_getElem? hm
              rw [e] at this
              rcases List.mem_append.mp this with z | z
              · exact absurd z han
              · exact f a z
            rw [em] at hR hcut
            have st1 : Stp H0 m0 H (m0 ++ [a]) := ⟨⟨[a], rfl, fun b hb => by
              have : b = a := by simpa using hb
              subst this; exact h0a⟩, st.tk, st.fr⟩
            have hl : (M.take n).length = n := by rw [List.length_take]; omega
            have hM1 : HRel Z H (m0 ++ [a]) (M.take n ++ [o]) := by
              refine ⟨by rw [List.length_append, List.length_append, hl, hn]; rfl, ?_, fun i x q => ?_⟩
              · rw [List.nodup_append]
                refine ⟨by rw [← em]; exact hM.nd.sublist (List.take_sublist _ _), by simp, fun b hb c hc => ?_⟩
                have : c = a := by simpa using hc
                subst this
                exact fun e => han (e ▸ hb)
              · by_cases hi : i < n
                · rw [List.getElem?_append_left (by omega)] at q
                  obtain ⟨b, q1, r1⟩ := hcut.obj i x q
                  exact ⟨b, ix_new i b q1, r1.keep (TK.refl H) ix_new fun _ e => e⟩
                · rw [List.getElem?_append_right (by omega), hl] at q
                  have hz : i - n = 0 := by
                    have := (List.getElem?_eq_some_iff.mp q).1
                    simpa using this
                  rw [hz] at q
                  have q : o = x := by simpa using q
                  subst q
                  refine ⟨a, ?_, hR.keep (TK.refl H) ix_new fun _ e => e⟩
                  rw [show i = m0.length by omega, List.getElem?_append_right (Nat.le_refl _), Nat.sub_self]
                  rfl
            refine ⟨.ref n, m0 ++ [a], M.take n ++ [o], ⟨a, rfl, ?_⟩, st1, hM1, p H _ st1 hM1⟩
            rw [← hn, List.getElem?_append_right (Nat.le_refl _), Nat.sub_self]
            rfl
          · rw [if_neg hob] at p
            exact whole p
      | _ => exact whole p
  · rw [if_neg hb] at p
    exact whole p
end

/-- a def's reckoning from its body's: n parameters among the slots -/
def mkFn (slots n : Nat) (b : SD) : Fn := fun ds M => if ds.length = n then
  (b (ds.map some ++ List.replicate (slots - n) none)).noX.bind (fun r => match r.1 with
    | .nx => gcD M.length .non
    | .rt d => gcD M.length d
    | _ => C.bad) M else .bad
section
variable {P : Program} {w : World} {K : PySem.W.Frag} {mg : Str → Option Value} {base : Heap}
theorem start_rel {Z : Zx} {H : Hp} {m : List Addr} {ds : List D} {vs : List V} {N : List Str} {n : Nat} (r : RelDs Z H m ds vs) (hn : ds.length = n) (hN : n ≤ N.length) : RelS Z H m (ds.map some ++ List.replicate (N.length - n) none) (L2.start N vs) := by
  unfold L2.start
  have hl := r.length
  refine ⟨by rw [List.length_append, List.length_append, List.length_map, List.length_map, List.length_replicate, List.length_replicate]; omega, fun i d e => ?_⟩
  by_cases hi : i < ds.length
  · rw [List.getElem?_append_left (by rw [List.length_map]; exact hi), List.getElem?_map] at e
    cases h : ds[i]? with
    | none => rw [h] at e; cases e
    | some d' =>
      rw [h] at e
      cases e
      obtain ⟨v, e1, r1⟩ := r.get h
      refine ⟨v, ?_, r1⟩
      rw [List.getElem?_append_left (by rw [List.length_map]; omega), List.getElem?_map, e1]
      rfl
  · rw [List.getElem?_append_right (by rw [List.length_map]; omega), List.getElem?_replicate] at e
    split at e <;> cases e
/-- a def of the text, by its body -/
theorem fnG_of {x qual : Str} {st : Stmt} {f : Addr} {fd : FuncData} {N ps : List Str} {k : Nat} {b : SD} (F : Fun K x qual st f fd) (S : FnScope N ps (defScope st))
    (hbody : ∀ (cdv : Value) (A : Around) (outer : List Env) (s : Shared) (H : Hp) (E : XK), RoomG k (A.deeper (envOfC qual (defScope st) s.heap.objs.size f cdv)) →
      MB ((cxOf CX0 P w K mg base N qual (defScope st) f cdv A outer s H E).nox) E0 (defBody st) b) : FnG P w K mg base CX0 (k + 1) f fd ps (spD ⟨K, mg, w⟩ ps.length (mkFn N.length ps.length b)) := by
  obtain ⟨oc, od, kV, doc, pm, an, cdv, ct, osl, rfl, lk, hcd⟩ := F.ex
  refine ⟨fun vs H Q E h => h.1, fun A outer s H args us vs Q E hr e0 hb r hsp => ?_⟩
  obtain ⟨hl, m, ds, M, rd, hM, p⟩ := hsp
  have hds : ds.length = ps.length := by rw [← rd.length]; exact hl
  have hpl : ps.length ≤ N.length := by have := congrArg List.length S.pre; rw [List.length_take] at this; omega
  unfold mkFn at p
  rw [if_pos hds] at p
  have KX : K.In s.heap := e0.mod.kin.keeps fun b o e => (e0.bs b o e).1
  have lim : s.heap.NoLimit := e0.mod.nolimit.keeps fun b o e => (e0.bs b o e).1
  have hkind : ∀ y ∈ ps.zip us, (defScope st).names.lookup y.1 = some .local ∨ ((defScope st).names.lookup y.1 = some .cell ∧ ((cellsFrom (s.heap.objs.size + 1) (defScope st).names []).lookup y.1).isSome = true) := fun ⟨n, v⟩ hy => by
    rcases S.par n (List.of_mem_zip hy).1 with q | q
    · exact .inl q
    · exact .inr ⟨q, PySem.W.cellsFrom_some _ _ _ (.inl q)⟩
  refine codeAny_call_function hr.r.depth (KX _ _ lk) rfl S.co S.gen rfl (PySem.W.codeRec_of KX hcd) (hb _ _ _ _ ?_)
  refine wpAny_newFunctionEnv_cells S.kind hkind fun env he s1 x => ?_
  subst he
  refine ⟨lim.keeps x.toInCall.keep, codeAny_func ?_⟩
  have body := (hbody cdv A outer s H E (hr.deeper _)).nox
  have I : L2.Inv (cxOf CX0 P w K mg base N qual (defScope st) f cdv A outer s H E) [] (L2.start N vs) H s1 := inv_start S hr.r.hd e0 hl r x
  let fin : VK := fun v H' => Q v H'
  refine wpAny_mono (body.run [] s1 (L2.start N vs) H { nx := fun _ H' => Q .non H', rt := Q } I ⟨m, _, M, start_rel rd hds hpl, hM, ?_⟩) (fun fl s' hs => ?_) fun e s' hs => hs
  · have p2 : Post ⟨K, mg, w⟩ E0 H m (b (ds.map some ++ List.replicate (N.length - ps.length) none) M) (fun r H' m' M' => Post ⟨K, mg, w⟩ E H m ((match r.1 with
      | .nx => gcD M.length .non
      | .rt d => gcD M.length d
      | _ => C.bad : C D) M') fun d H' m' _ => ∀ v, RelD ⟨K, mg, w⟩ H' m' d v → Q v H') := by
      exact Post.atX p
    refine p2.mono fun r H1 m1 M1 st1 hM1 p1 => ?_
    obtain ⟨fl, s1⟩ := r
    cases fl with
    | nx =>
      intro σ _
      obtain ⟨d', m', M', r', _, _, q⟩ := Post.gc hM.len p1 st1 hM1 .non rfl
      exact q .non r'
    | rt d =>
      intro v rv
      obtain ⟨d', m', M', r', _, _, q⟩ := Post.gc hM.len p1 st1 hM1 v rv
      exact q v r'
    | bk => exact p1.elim
    | ct => exact p1.elim
  · have fin : ∀ {σ' : L2.St} {H' : Hp} {v : V} {u : Value}, L2.Inv (cxOf CX0 P w K mg base N qual (defScope st) f cdv A outer s H E) [] σ' H' s' → RelV v u → Q v H' → CE outer P w H s Q u s' :=
      fun {σ' H' v u} J rv q => ⟨v, H', J.os, J.bare, J.base, J.hok, rv, q⟩
    cases fl with
    | ret u =>
      obtain ⟨v, σ', H', J, rv, q⟩ := hs
      exact fin J rv q
    | next =>
      obtain ⟨σ', H', J, q⟩ := hs
      exact fin (v := V.non) (u := Value.none) J rfl q
    | brk =>
      obtain ⟨_, _, _, q⟩ := hs
      exact False.elim q
    | cont =>
      obtain ⟨_, _, _, q⟩ := hs
      exact False.elim q
end

/-! ### a def called by its name -/
section
variable {X : Cx} {W : XK} {k : Nat} {f : Addr} {fd : FuncData} {ps : List Str} {F : Fn} {x : Str} {pp pos : Pos} {e : Expr} {es : List Expr} {t : AD}
theorem run_g {pins : List (Addr × Obj)} {σ : L2.St} {H : Hp} {s : Shared} {Q : VK} {us : List Value} {vs : List V} (G : FnG X.prog X.w X.K X.mg X.base CX0 k f fd ps (spD (zOf X) ps.length F)) (hr : RoomG k X.A) (hb : Binds X.K fd ps [])
    (I : L2.Inv X pins σ H s) (r : Vals vs us) (h : spD (zOf X) ps.length F vs H Q W) : wpAny (model X.prog X.w) X.A (call (.ref f) us) (EP X pins σ Q) X.xe s := by
  have hl : us.length = ps.length := by rw [← r.length]; exact h.1
  have bt := hb s us I.kIn (by rw [List.append_nil]; exact hl)
  rw [List.append_nil] at bt
  refine wpAny_call (codeAny_mono (G.run X.A X.stack s H ⟨us, []⟩ us vs Q W hr I.env0 bt r h) fun r s' hq => ?_)
  cases r with
  | error er => exact False.elim hq
  | ok fl =>
    cases fl with
    | ret u => exact I.after hq
    | next => exact False.elim hq
    | brk => exact False.elim hq
    | cont => exact False.elim hq
theorem me_call (G : FnG X.prog X.w X.K X.mg X.base CX0 k f fd ps (spD (zOf X) ps.length F)) (hr : RoomG k X.A) (hg : Gl X x) (hm : X.mg x = some (.ref f)) (hk : PySem.W.keepIn X.K (.ref f) = true) (hb : Binds X.K fd ps []) (hn : (e :: es).length = ps.length)
    (ha : MA X W (e :: es) t) (hlen : ∀ s M ds M', t s M = .ok ds M' → ds.length = (e :: es).length) (hdb : (x == ("__debug__" : Str)) = false := by decide) (he : starEach (e :: es) X.env = (false, eval e X.env) :: starEach es X.env := by rfl) (hpl : (backTo pos (starEach es X.env)).any (·.1) = false := by rfl) :
    ME X W (.Call (.Name x pp) (e :: es) [] pos) (eCb F t) := by
  refine ⟨fun pins s σ H Q I h => ?_⟩
  obtain ⟨m, sl, M, hs, hM, p⟩ := h
  refine wpAny_Call_Name_kw (ld_glob I hg hm ?_ hdb)
  refine PySem.W.callWith_K (h₀ := X.base) I.ok.mod.kin hk (thn (ha.run pos pins s σ H (fun vs H1 => spD (zOf X) ps.length F vs H1 Q W) I ⟨m, sl, M, hs, hM, ?_⟩) fun us s1 ⟨vs, H1, I1, r, q⟩ => ⟨I1.kIn, run_g G hr hb I1 r q⟩) he hpl
  have pb := Post.bind (show Post _ _ _ _ (C.bind (t sl) F M) _ from p)
  cases et : t sl M with
  | bad => rw [et] at pb; exact pb
  | exc c fs M1 => rw [et] at pb; exact pb
  | ok ds M1 =>
    rw [et] at pb
    intro H1 m1 st1 hM1 vs rv
    exact ⟨by rw [rv.length, hlen _ _ _ _ et, hn], m1, ds, M1, rv, hM1, pb H1 m1 st1 hM1⟩
theorem me_call0 (G : FnG X.prog X.w X.K X.mg X.base CX0 k f fd ps (spD (zOf X) ps.length F)) (hr : RoomG k X.A) (hg : Gl X x) (hm : X.mg x = some (.ref f)) (hk : PySem.W.keepIn X.K (.ref f) = true) (hb : Binds X.K fd ps []) (hn : ps.length = 0)
    (hdb : (x == ("__debug__" : Str)) = false := by decide) : ME X W (.Call (.Name x pp) [] [] pos) (fun _ => F []) := by
  refine ⟨fun pins s σ H Q I h => ?_⟩
  obtain ⟨m, sl, M, hs, hM, p⟩ := h
  refine wpAny_Call_Name_kw (ld_glob I hg hm ?_ hdb)
  exact PySem.W.callWith_K0 I.kIn hk (run_g (W := W) (us := []) (vs := []) G hr hb I .nil ⟨hn.symm, m, [], M, rfl, hM, p⟩)
end
/-- an argument list hands on as many values as it has places -/
theorem len_nil (s : Sl) (M : Mh) (ds : List D) (M' : Mh) (h : aNil s M = .ok ds M') : ds.length = 0 := by
  cases h
  rfl
theorem len_cons {te : ED} {t : AD} {n : Nat} (hr : ∀ s M ds M', t s M = .ok ds M' → ds.length = n) (s : Sl) (M : Mh) (ds : List D) (M' : Mh) (h : aCons te t s M = .ok ds M') : ds.length = n + 1 := by
  unfold aCons C.bind at h
  cases e1 : te s M with
  | bad => rw [e1] at h; cases h
  | exc c fs M1 => rw [e1] at h; cases h
  | ok d M1 =>
    rw [e1] at h
    simp only at h
    cases e2 : t s M1 with
    | bad => rw [e2] at h; cases h
    | exc c fs M2 => rw [e2] at h; cases h
    | ok es M2 =>
      rw [e2] at h
      cases h
      rw [List.length_cons, hr _ _ _ _ e2]

/-! ### the law's end -/
/-- what the law's def must reckon: True, whatever the ints -/
def LawTrue (n : Nat) (F : Fn) : Prop := ∀ ns : List Int, ns.length ≤ n → ∃ M, F [.ls (ns.map D.int)] [] = .ok (.bl true) M
theorem ints_rel {Z : Zx} {H : Hp} {m : List Addr} : ∀ ns : List Int, RelDs Z H m (ns.map D.int) (ns.map V.int)
  | [] => rfl
  | i :: r => ⟨_, _, rfl, rfl, ints_rel r⟩
theorem call_law {P : Program} {w : World} {K : PySem.W.Frag} {mg mb : Str → Option Value} {k : Nat} {fa a : Addr} {fd : FuncData} {x : Str} {F : Fn} {s1 : Shared} {vs : List Value} {ns : List Int} {n : Nat}
    (KX : K.In s1.heap) (hns : s1.heap.Ns mainGlobals mg) (hb : s1.heap.Ns builtinsNs mb) (hbb : ∀ x : Str, x ≠ "__name__" → mb x = bootBuiltins x) (hlim : s1.heap.NoLimit) (hg : s1.gens = #[])
    (ha : s1.heap.get? a = some { cls := .type "list", data := .seq vs.toArray }) (hi : IntsAre vs ns) (hl : ns.length ≤ n) (hn : n ≤ sizeLine) (hr : RoomG k callerA)
    (G : ∀ base : Heap, K.In base → base.Ns mainGlobals mg → FnG P w K mg base CX0 k fa fd [x] (spD ⟨K, mg, w⟩ 1 F)) (hbind : ∀ (s : Shared) (u : Value), BindsTo s fd ⟨[u], []⟩ [(x, u)]) (hF : LawTrue n F) :
    codeAny (model P w) callerA (.call (.ref fa) ⟨[.ref a], []⟩) (fun r s' => r = .ok (.ret (.bool true)) ∧ OldK s1.heap s'.heap ∧ s'.os = s1.os ∧ AllBare s'.gens) s1 := by
  have rv := vals_ints hi
  have lenV := hi.length
  obtain ⟨Mf, hf⟩ := hF ns hl
  -- the abstract heap: the script alone, locked, unless it is one of the module's own
  have go : ∀ H : Hp, (∀ b, H b = none ∨ (b = a ∧ H b = some (.frz { cls := .type "list", data := .seq vs.toArray } (.lst (ns.map V.int))))) → (H a ≠ none → K.lookup a = none) → SqF K H a (ns.map V.int) → HOk P w H s1.heap →
      codeAny (model P w) callerA (.call (.ref fa) ⟨[.ref a], []⟩) (fun r s' => r = .ok (.ret (.bool true)) ∧ OldK s1.heap s'.heap ∧ s'.os = s1.os ∧ AllBare s'.gens) s1 := by
    intro H hO hK hS hok
    have at_a : ∀ b, H b ≠ none → b = a := fun b z => by
      rcases hO b with h | h
      · exact absurd h z
      · exact h.1
    have dictFree : ∀ {b : Addr} {o : Obj} {es : Array DictEntry} {ep : Nat}, s1.heap.get? b = some o → o.data = .dict es ep → H b = none := fun {b o es ep} e d => by
      rcases hO b with h | ⟨rfl, _⟩
      · exact h
      · rw [ha] at e
        cases e
        cases d
    have nsOf : ∀ {b : Addr} {mm : Str → Option Value}, s1.heap.Ns b mm → (hidT s1.heap H).Ns b mm := fun {b mm} ⟨o, es, ep, e, d, r⟩ => ⟨o, es, ep, hidT_get e (dictFree e d), d, r⟩
    have kIn : K.In (hidT s1.heap H) := fun b o e => hidT_get (KX b o e) (by
      cases q : H b with
      | none => rfl
      | some u =>
        have hne : H b ≠ none := by rw [q]; simp
        have := at_a b hne
        subst this
        rw [hK hne] at e
        cases e)
    have mod : Mod K mg (hidT s1.heap H) := ⟨kIn, nsOf hns, ⟨mb, nsOf hb, hbb⟩, let ⟨mc, h1, h2⟩ := hlim; ⟨mc, nsOf h1, h2⟩⟩
    have e0 : Env0 P w K mg (hidT s1.heap H) callerA [] s1 H := ⟨rfl, mod, fun b o e => of_hidT e, Nat.le_of_eq (hidT_size _ _), trivial, fun b hb => absurd (show b ∈ ([] : List Addr) from hb) (by simp), hok, .of_eq hg⟩
    have sp : spD ⟨K, mg, w⟩ 1 F [.ref a] H (fun v _ => v = .bl true) E0 := by
      refine ⟨rfl, [], [.ls (ns.map D.int)], [], ⟨_, _, rfl, ⟨a, ns.map V.int, rfl, hS, ints_rel ns⟩, rfl⟩, ⟨rfl, .nil, fun n o e => by simp at e⟩, ?_⟩
      rw [hf]
      exact fun H' m' _ _ v rv => rv
    refine codeAny_mono ((G _ kIn (nsOf hns)).run callerA [] s1 H ⟨[.ref a], []⟩ [.ref a] [.ref a] _ E0 hr e0 (hbind s1 (.ref a)) (.cons rfl .nil) sp) fun r s' h => ?_
    cases r with
    | error er => exact False.elim h
    | ok fl =>
      cases fl with
      | next => exact False.elim h
      | brk => exact False.elim h
      | cont => exact False.elim h
      | ret u =>
        obtain ⟨v, H', os, bare, un, hok', r', q⟩ := h
        have q : v = .bl true := q
        subst q
        obtain rfl : u = Value.bool true := r'
        refine ⟨rfl, OldK.of_keep fun b o e => ?_, os, bare⟩
        rcases hO b with z | ⟨rfl, z⟩
        · exact un.keep b o e z (fun y => absurd (show b ∈ ([] : List Addr) from y) (by simp)) (by simp)
        · obtain ⟨e1, _⟩ := hok b _ z
          obtain ⟨e2, _⟩ := hok' b _ (un.frzs b _ _ z)
          rw [e] at e1
          cases e1
          exact e2
  cases hk : K.lookup a with
  | some o =>
    have e := KX a o hk
    rw [ha] at e
    cases e
    exact go (fun _ => none) (fun _ => .inl rfl) (fun z => absurd rfl z) (.inr ⟨_, vs.toArray, _, hk, rfl, rfl, rfl, by rw [List.size_toArray, lenV]; omega, by simpa using rv⟩) (fun b u z => nomatch (show (none : Option HO) = some u from z))
  | none =>
    refine go (fun b => if b = a then some (.frz { cls := .type "list", data := .seq vs.toArray } (.lst (ns.map V.int))) else none) (fun b => ?_) (fun _ => hk) (.inl ⟨_, if_pos rfl⟩) (fun b u z => ?_)
    · by_cases hb : b = a
      · exact .inr ⟨hb, if_pos hb⟩
      · exact .inl (if_neg hb)
    · by_cases hb : b = a
      · have z' := (if_pos hb).symm.trans z
        cases z'
        subst hb
        exact ⟨ha, by rw [List.length_map]; omega, vs, _, rv, ha⟩
      · have z' := (if_neg hb).symm.trans z
        cases z'
theorem walk_law {l : PySem.W.OpenLaw} {n k : Nat} {q : Program} {loose : List Str} {XP : (Str → Option Value) → Heap → Prop} {YP : World → Heap → Prop} {d : DefRec} {K : Params → PySem.W.Frag} {x : Str} {F : Fn}
    (hn : l.most = some n) (hn2 : n ≤ sizeLine) (hdf : d.params.defaults = []) (hr : Room k callerA)
    (hY : ∀ (w : World) (h : Heap), YP w h → (K w.params).In h)
    (hG : ∀ (w : World) (mg : Str → Option Value) (fa : Addr) (h : Heap), (K w.params).In h → h.Ns mainGlobals mg → mg d.name = some (.ref fa) →
      ∃ fd : FuncData, (∀ (s : Shared) (u : Value), BindsTo s fd ⟨[u], []⟩ [(x, u)]) ∧
        ∀ base : Heap, (K w.params).In base → base.Ns mainGlobals mg → FnG l.prog w (K w.params) mg base CX0 k fa fd [x] (spD ⟨K w.params, mg, w⟩ 1 F))
    (hF : LawTrue n F) : PySem.W.WalkO q loose XP YP l.row.toRowW d [] (fun f vs => PySem.call f vs) := by
  refine Att.attach_call hn hdf fun w s0 s1 mg mb fa o pm cd doc a vs ns G Y ho hd hcd hmg hobj hints hlen hg => ?_
  have KX := hY w _ Y
  obtain ⟨fd, hb, hF'⟩ := hG w mg fa _ KX G.T.g hmg
  exact call_law KX G.T.g G.T.b G.T.builtins G.T.nolimit hg hobj hints hlen hn2 ⟨hr, rfl⟩ hF' hb hF
end Dn

/-! Dn7: repr, dicts by content -/
namespace Dn
open PySem PySem.Spec PyProof.Rows L2

section
variable {X : Cx} {W : XK}
/-! ### repr -/
def reprD (d : D) : C D := fun M => match dataOf M d with
  | some p => if p.showable = true ∧ p.hasDict = false ∧ p.depth ≤ 64 ∧ p.shown.length ≤ sizeLine then .ok (.str p.shown) M else .bad
  | none => .bad
theorem cd_repr {k : Nat} (hr : RoomG k X.A) : CallR X (.builtin "repr") (rDn (zOf X) W (one1 reprD)) := by
  intro pins s σ H xs us Q I rv hq
  obtain ⟨m, ds, M, rd, hM, p⟩ := hq
  cases ds with
  | nil => exact p.elim
  | cons d rest =>
    cases rest with
    | cons _ _ => exact p.elim
    | nil =>
      obtain ⟨v, rfl, r1⟩ := rels1 rd
      obtain ⟨u, rfl, ru⟩ := vals1 rv
      unfold one1 reprD at p
      simp only at p
      cases hd : dataOf M d with
      | none => rw [hd] at p; exact p.elim
      | some pd =>
        rw [hd] at p
        simp only at p
        split at p
        case isFalse => exact p.elim
        rename_i hc
        obtain ⟨h1, h2, h3, h4⟩ := hc
        have dp := data_dp hM r1 hd
        obtain ⟨as, rds⟩ := Dp.reads I pd v u dp ru
        have q : Q (.str pd.shown) H := p.ok hM _ rfl
        have un := hr.r.un
        cases u with
        | ref a =>
          exact repr_of_reads' rds h1 (fun z => by rw [h2] at z; cases z) hr.g (by omega) (fun _ _ e => e) (fun h' u tk k => ⟨.str pd.shown, H, I.kept k, ⟨u, rfl⟩, q⟩) h4
        | none =>
          cases rds
          exact PySem.P.repr_of_none ⟨.str _, H, I.tok _, ⟨_, rfl⟩, q⟩
        | bool b =>
          cases rds
          exact PySem.P.repr_of_bool ⟨.str _, H, I.tok _, ⟨_, rfl⟩, q⟩
        | int i t =>
          cases rds
          exact PySem.P.repr_of_int (by simpa [PyData.showable] using h1) ⟨.str _, H, I.tok _, ⟨_, rfl⟩, q⟩
        | str x t =>
          cases rds
          exact PySem.P.repr_of_str ⟨.str _, H, I.tok _, ⟨_, rfl⟩, q⟩ h4
        | _ => cases rds
end

/-! ### dicts -/
def dLook {κ : Type} [DecidableEq κ] (kvs : List (κ × D)) (k : κ) : Option D := (kvs.find? fun kv => decide (kv.1 = k)).map (·.2)
def putD (kvs : List (Key × D)) (k : Key) (v : D) : List (Key × D) :=
  if (kvs.any fun kv => decide (kv.1 = k)) = true then kvs.map (fun kv => if kv.1 = k then (kv.1, v) else kv) else kvs ++ [(k, v)]
def mergeD (kvs more : List (Key × D)) : List (Key × D) := more.foldl (fun acc kv => putD acc kv.1 kv.2) kvs
def keyD : D → Option Key
  | .int i => some (.inl i)
  | .str x => some (.inr x)
  | _ => none
section
variable {Z : Zx} {H : Hp} {m : List Addr} {M : Mh}
theorem keyD_v {d : D} {v : V} {k : Key} (r : RelD Z H m d v) (e : keyD d = some k) : v = kV k := by
  cases d with
  | int i => cases e; exact r
  | str i => cases e; exact r
  | _ => cases e
theorem dLook_v {k : Key} : ∀ {ds : List (Key × D)} {vs : List (Key × V)}, RelKs Z H m ds vs → (∀ d, dLook ds k = some d → ∃ v, valV vs k = some v ∧ RelD Z H m d v) ∧ (dLook ds k = none → valV vs k = none)
  | [], vs, r => by
    have r : vs = [] := r
    subst r
    exact ⟨fun d e => (by cases e), fun _ => rfl⟩
  | (x, d) :: ds, vs, r => by
    obtain ⟨v, rest, rfl, r1, r2⟩ := r
    have ih := dLook_v (k := k) r2
    by_cases e : x = k
    · refine ⟨fun d' h => ?_, fun h => ?_⟩
      · simp only [dLook, List.find?_cons, e, decide_true, Option.map_some] at h
        cases h
        exact ⟨v, valV_pos e, r1⟩
      · simp only [dLook, List.find?_cons, e, decide_true, Option.map_some] at h
        cases h
    · have hd : dLook ((x, d) :: ds) k = dLook ds k := by simp [dLook, List.find?_cons, e]
      rw [hd, valV_neg (p := (x, v)) e]
      exact ih
theorem RelKs.any {k : Key} : ∀ {ds : List (Key × D)} {vs : List (Key × V)}, RelKs Z H m ds vs → (ds.any fun kv => decide (kv.1 = k)) = (vs.any fun kv => decide (kv.1 = k))
  | [], vs, r => by
    have r : vs = [] := r
    subst r; rfl
  | (x, d) :: ds, vs, r => by
    obtain ⟨v, rest, rfl, r1, r2⟩ := r
    rw [List.any_cons, List.any_cons, RelKs.any r2]
theorem RelKs.append {κ : Type} : ∀ {ds es : List (κ × D)} {vs us : List (κ × V)}, RelKs Z H m ds vs → RelKs Z H m es us → RelKs Z H m (ds ++ es) (vs ++ us)
  | [], es, vs, us, h, h' => by
    have h : vs = [] := h
    subst h; exact h'
  | (x, d) :: ds, es, vs, us, h, h' => by
    obtain ⟨v, r, e1, h1, h2⟩ := h
    subst e1
    exact ⟨v, r ++ us, rfl, h1, RelKs.append h2 h'⟩
theorem RelKs.mapPut {k : Key} {d : D} {v : V} (rd : RelD Z H m d v) : ∀ {ds : List (Key × D)} {vs : List (Key × V)}, RelKs Z H m ds vs → RelKs Z H m (ds.map fun kv => if kv.1 = k then (kv.1, d) else kv) (vs.map fun kv => if kv.1 = k then (kv.1, v) else kv)
  | [], vs, r => by
    have r : vs = [] := r
    subst r; rfl
  | (x, d0) :: ds, vs, r => by
    obtain ⟨v0, rest, rfl, r1, r2⟩ := r
    rw [List.map_cons, List.map_cons]
    by_cases e : x = k
    · simp only [e, if_true]
      exact ⟨v, _, rfl, rd, RelKs.mapPut rd r2⟩
    · simp only [e, if_false]
      exact ⟨v0, _, rfl, r1, RelKs.mapPut rd r2⟩
theorem RelKs.put {k : Key} {d : D} {v : V} {ds : List (Key × D)} {vs : List (Key × V)} (r : RelKs Z H m ds vs) (rd : RelD Z H m d v) : RelKs Z H m (putD ds k d) (putK vs k v) := by
  unfold putD putK
  rw [r.any (k := k)]
  split
  · exact RelKs.mapPut rd r
  · exact r.append ⟨v, [], rfl, rd, rfl⟩
theorem RelKs.merge : ∀ {more : List (Key × D)} {mv : List (Key × V)} {ds : List (Key × D)} {vs : List (Key × V)}, RelKs Z H m more mv → RelKs Z H m ds vs → RelKs Z H m (mergeD ds more) (mergeK vs mv)
  | [], mv, ds, vs, r, q => by
    have r : mv = [] := r
    subst r; exact q
  | (x, d) :: more, mv, ds, vs, r, q => by
    obtain ⟨v, rest, rfl, r1, r2⟩ := r
    show RelKs Z H m (mergeD (putD ds x d) more) (mergeK (putK vs x v) rest)
    exact RelKs.merge r2 (q.put r1)
theorem RelKs.length {κ : Type} : ∀ {ds : List (κ × D)} {vs : List (κ × V)}, RelKs Z H m ds vs → vs.length = ds.length
  | [], vs, h => by
    have h : vs = [] := h
    subst h; rfl
  | (x, d) :: ds, vs, h => by
    obtain ⟨v, r, e1, h1, h2⟩ := h
    subst e1
    rw [List.length_cons, List.length_cons, RelKs.length h2]
end
section
variable {X : Cx} {W : XK} {a b e : Expr} {ta tb te : ED} {pos : Pos}
theorem ix_dk (hu : X.A.units + 1 < cLine) : IxR X (fun x y H Q => ∃ p v, x = .ref p ∧ DGet H p y (some v) ∧ Q v H) := by
  intro value slice pins s σ H x y v u Q I rx ry h hs
  obtain ⟨p, r, rfl, g, q⟩ := h
  obtain rfl : v = Value.ref p := rx
  exact tail_any (dict_typeIs I g) PySem.F.slot_dict_getitem.lookup (d_getItem hu I g ry fun w' s3 I3 rw' => ⟨r, H, I3, rw', q⟩) hs
/-- an item, of a dict too -/
def ixE (x y : D) : C D := match x with
  | .ref n => fun M => match M[n]? with
    | some (.dct kvs) => match (keyD y).bind (dLook kvs) with
      | some d => .ok d M
      | none => .bad
    | _ => ixD (.ref n) y M
  | x => ixD x y
theorem ie_ix (hu : X.A.units + 1 < cLine) : IxR X (rD2 (zOf X) W ixE) := by
  intro value slice pins s σ H x y v u Q I rx ry h hsl
  obtain ⟨m, d, e, M, r1, r2, hM, p⟩ := h
  have old : Post (zOf X) W H m (ixD d e M) (fun d' H' m' _ => ∀ v, RelD (zOf X) H' m' d' v → Q v H') → wpAny (model X.prog X.w) X.A (subscriptTail value slice v u) (EP X pins σ Q) X.xe s :=
    fun p => id_ix value slice pins s σ H x y v u Q I rx ry ⟨m, d, e, M, r1, r2, hM, p⟩ hsl
  cases d with
  | ref n =>
    unfold ixE at p
    simp only at p
    split at p
    · rename_i kvs he
      split at p
      · rename_i dv hd
        rw [Option.bind_eq_some_iff] at hd
        obtain ⟨k, hk, hl⟩ := hd
        obtain ⟨a, rfl, hm⟩ := r1
        obtain ⟨vs, h1, h2⟩ := hM.at hm he
        obtain ⟨v', e1, e2⟩ := (dLook_v (k := k) h2).1 dv hl
        have ey := keyD_v r2 hk
        subst ey
        exact ix_dk hu value slice pins s σ H _ _ v u Q I rx ry ⟨a, v', rfl, e1 ▸ DGet.k h1, p.ok hM v' e2⟩ hsl
      · exact p.elim
    · exact old p
  | _ => exact old p
/-- in, of a dict too -/
def inCE (x y : D) : C Bool := match y with
  | .ref n => fun M => match M[n]? with
    | some (.dct kvs) => match keyD x with
      | some k => .ok (dLook kvs k).isSome M
      | none => .bad
    | _ => inC x (.ref n) M
  | y => inC x y
def inE (x y : D) : C D := (inCE x y).bind fun r => C.ret (.bl r)
def ninE (x y : D) : C D := (inCE x y).bind fun r => C.ret (.bl (!r))
theorem in_coreE {f : Value → Value → Sem Value} {g : Bool → Bool} (h0 : OpR X f (rD2 (zOf X) W fun x y => (inC x y).bind fun r => C.ret (.bl (g r))))
    (hd : ∀ pins s σ H a y o u Q, L2.Inv X pins σ H s → DGet H a y o → RelV y u → Q (V.bl (g o.isSome)) H → wpAny (model X.prog X.w) X.A (f u (.ref a)) (EP X pins σ Q) X.xe s) :
    OpR X f (rD2 (zOf X) W fun x y => (inCE x y).bind fun r => C.ret (.bl (g r))) := by
  intro pins s σ H x y v u Q I rx ry h
  obtain ⟨m, d, e, M, r1, r2, hM, p⟩ := h
  have old : Post (zOf X) W H m ((inC d e).bind (fun r => C.ret (.bl (g r))) M) (fun d' H' m' _ => ∀ v, RelD (zOf X) H' m' d' v → Q v H') → wpAny (model X.prog X.w) X.A (f v u) (EP X pins σ Q) X.xe s :=
    fun p => h0 pins s σ H x y v u Q I rx ry ⟨m, d, e, M, r1, r2, hM, p⟩
  cases e with
  | ref n =>
    cases he : M[n]? with
    | none => exact old (by rw [bind_at (f' := inCE d (.ref n)) (by unfold inCE; simp only [he])]; exact p)
    | some o =>
      cases o with
      | dct kvs =>
        unfold C.bind inCE at p
        simp only [he] at p
        cases hk : keyD d with
        | none => simp only [hk] at p; exact p.elim
        | some k =>
          simp only [hk] at p
          obtain ⟨a, rfl, hm⟩ := r2
          cases (show u = Value.ref a from ry)
          obtain ⟨vs, h1, h2⟩ := hM.at hm he
          have ey := keyD_v r1 hk
          subst ey
          refine hd pins s σ H a _ (valV vs k) v Q I (DGet.k h1) rx ?_
          have : (valV vs k).isSome = (dLook kvs k).isSome := by
            obtain ⟨q1, q2⟩ := dLook_v (k := k) h2
            cases hl : dLook kvs k with
            | none => rw [q2 hl]; rfl
            | some dv =>
              obtain ⟨v', e1, _⟩ := q1 dv hl
              rw [e1]; rfl
          rw [this]
          exact p.ok hM _ rfl
      | lst xs => exact old (by rw [bind_at (f' := inCE d (.ref n)) (by unfold inCE; simp only [he])]; exact p)
      | ins c fs => exact old (by rw [bind_at (f' := inCE d (.ref n)) (by unfold inCE; simp only [he])]; exact p)
  | _ => exact old p
theorem oe_in (hu : X.A.units + 65 < cLine) : OpR X (compareOp .In) (rD2 (zOf X) W inE) :=
  in_coreE (g := fun b => b) (od_in hu) fun pins s σ H a y o u Q I g r q => d_in (by omega) I g r fun s3 I3 => ⟨.bl o.isSome, H, I3, rfl, q⟩
theorem oe_nin (hu : X.A.units + 65 < cLine) : OpR X (compareOp .NotIn) (rD2 (zOf X) W ninE) :=
  in_coreE (g := fun b => !b) (od_nin hu) fun pins s σ H a y o u Q I g r q => d_notIn (by omega) I g r fun s3 I3 => ⟨.bl (!o.isSome), H, I3, rfl, q⟩

/-! ### {k: v, ..} -/
abbrev PD := Sl → C (List (D × D))
def pNil : PD := fun _ => C.ret []
def pCons (tk tv : ED) (r : PD) : PD := fun s => (tk s).bind fun x => (tv s).bind fun y => (r s).bind fun ps => C.ret ((x, y) :: ps)
def RelPs (Z : Zx) (H : Hp) (m : List Addr) : List (D × D) → List (V × V) → Prop
  | [], vs => vs = []
  | (x, d) :: ds, vs => ∃ u v r, vs = (u, v) :: r ∧ RelD Z H m x u ∧ RelD Z H m d v ∧ RelPs Z H m ds r
def tDP (Z : Zx) (W : XK) (t : PD) : L2.St → Hp → (List (V × V) → Hp → Prop) → Prop := fun σ H Q => ∃ m s M, RelS Z H m s σ ∧ HRel Z H m M ∧ Post Z W H m (t s M) fun ds H' m' _ => ∀ vs, RelPs Z H' m' ds vs → Q vs H'
structure MP (X : Cx) (W : XK) (pos : Pos) (keys : List (Option Expr)) (values : List Expr) (t : PD) : Prop where
  ex : ∃ trs, PPs X pos keys values trs ∧ ∀ σ H Q, tDP (zOf X) W t σ H Q → tPairs trs σ H Q
theorem mp_nil : MP X W pos [] [] pNil := ⟨⟨[], pps_nil, fun σ H Q h => by
  obtain ⟨m, s, M, hs, hM, p⟩ := h
  exact p.ok hM [] rfl⟩⟩
theorem mp_cons {k v : Expr} {ks : List (Option Expr)} {vs : List Expr} {tk tv : ED} {r : PD} (hk : ME X W k tk) (hv : ME X W v tv) (hr : MP X W pos ks vs r) : MP X W pos (some k :: ks) (v :: vs) (pCons tk tv r) := by
  obtain ⟨trs, hp, hi⟩ := hr.ex
  refine ⟨⟨_, pps_cons hk hv hp, fun σ H Q h => ?_⟩⟩
  obtain ⟨m, s, M, hs, hM, p⟩ := h
  refine ⟨m, s, M, hs, hM, p.bind.mono fun dx H1 m1 M1 st1 hM1 p1 x rx => ⟨m1, s, M1, hs.mono st1, hM1, p1.bind.mono fun dy H2 m2 M2 st2 hM2 p2 y ry => ?_⟩⟩
  refine hi σ H2 _ ⟨m2, s, M2, (hs.mono st1).mono st2, hM2, p2.bind.mono fun ps H3 m3 M3 st3 hM3 p3 ws rw' => ?_⟩
  exact p3.ok hM3 _ ⟨x, y, ws, rfl, st3.rel (st2.rel rx), st3.rel ry, rw'⟩
def keysD : List (D × D) → Option (List (Key × D))
  | [] => some []
  | (x, d) :: r => match keyD x, keysD r with
    | some k, some l => some ((k, d) :: l)
    | _, _ => none
theorem keysD_v {Z : Zx} {H : Hp} {m : List Addr} : ∀ {ds : List (D × D)} {vs : List (V × V)} {l : List (Key × D)}, RelPs Z H m ds vs → keysD ds = some l → ∃ ks, vs = ks.map (fun kv => (kV kv.1, kv.2)) ∧ RelKs Z H m l ks
  | [], vs, l, r, e => by
    have r : vs = [] := r
    subst r; cases e
    exact ⟨[], rfl, rfl⟩
  | (x, d) :: ds, vs, l, r, e => by
    obtain ⟨u, v, rest, rfl, r1, r2, r3⟩ := r
    simp only [keysD] at e
    split at e
    · rename_i k l' hk hl
      cases e
      obtain ⟨ks, rfl, q⟩ := keysD_v r3 hl
      exact ⟨(k, v) :: ks, by rw [keyD_v r1 hk]; rfl, v, ks, rfl, r2, q⟩
    · cases e
def eDisp (t : PD) : ED := fun s => (t s).bind fun ps => fun M => match keysD ps with
  | some l => if l.length ≤ 15 then .ok (.ref M.length) (M ++ [.dct (mergeD [] l)]) else .bad
  | none => .bad
theorem Post.atB {Z : Zx} {W : XK} {H1 H : Hp} {m1 m : List Addr} {α β : Type} {f : C α} {g : α → C β} {M : Mh} {k : β → Hp → List Addr → Mh → Prop} (st : Stp H1 m1 H m) (p : Post Z W H1 m1 (f.bind g M) k) : Post Z W H m (f M) (fun a _ _ M' => Post Z W H1 m1 (g a M') k) := by
  unfold C.bind at p
  cases e : f M with
  | bad => rw [e] at p; exact p
  | ok a M' => rw [e] at p; exact fun _ _ _ _ => p
  | exc c fs M' => rw [e] at p; exact Post.from (α := α) (r := .exc c fs M') (k := fun _ _ _ _ => True) st (show Post Z W H1 m1 (.exc c fs M' : R α) _ from p)
theorem keep_out {Ha Hb : Hp} {ma mb : List Addr} {p : Addr} {o : HO} (st : Stp Ha ma Hb mb) (h : Ha p = some o) (hn : p ∉ ma) : Hb p = some o ∧ p ∉ mb := by
  refine ⟨st.fr _ _ h hn, ?_⟩
  obtain ⟨n, e, f⟩ := st.ext
  rw [e]
  intro z
  rcases List.mem_append.mp z with z | z
  · exact hn z
  · rw [f _ z] at h; cases h
theorem hrel_addO {Z : Zx} {H : Hp} {m : List Addr} {M : Mh} {p : Addr} {u : MO} (hM : HRel Z H m M) (hp : p ∉ m) (r : ObjR Z H (m ++ [p]) p u) : HRel Z H (m ++ [p]) (M ++ [u]) := by
  refine ⟨by rw [List.length_append, List.length_append, hM.len]; rfl, ?_, fun n x q => ?_⟩
  · rw [List.nodup_append]
    refine ⟨hM.nd, by simp, fun a ha b hb => ?_⟩
    have : b = p := by simpa using hb
    subst this
    exact fun e => hp (e ▸ ha)
  · by_cases hn : n < M.length
    · rw [List.getElem?_append_left hn] at q
      obtain ⟨a, q1, r⟩ := hM.obj n x q
      exact ⟨a, ix_new n a q1, r.keep (TK.refl H) ix_new fun u e => e⟩
    · rw [List.getElem?_append_right (by omega)] at q
      have hz : n - M.length = 0 := by
        have := (List.getElem?_eq_some_iff.mp q).1
        simpa using this
      have hn2 : n = M.length := by omega
      rw [hz] at q
      have q : u = x := by simpa using q
      subst q
      refine ⟨p, ?_, r⟩
      rw [hn2, ← hM.len, List.getElem?_append_right (Nat.le_refl _), Nat.sub_self]
      rfl
theorem me_disp {keys : List (Option Expr)} {values : List Expr} {t : PD} (h : MP X W pos keys values t) (hall : keys.all (·.isSome) = true := by rfl) (hl : keys.length = values.length := by rfl) (h0 : keys ≠ [] := by exact fun z => by cases z)
    (h15 : keys.length ≤ 15 := by decide) : ME X W (.Dict keys values pos) (eDisp t) := by
  obtain ⟨trs, hp, hi⟩ := h.ex
  refine pe_mono (pe_disp hp hall hl h0 h15) fun σ H Q h => ?_
  obtain ⟨m, s, M, hs, hM, p⟩ := h
  intro q hq
  have hqm : q ∉ m := hM.new hq
  have st0 : Stp H m (upd H q (.dK [])) m := stp_laid hq
  refine hi σ _ _ ⟨m, s, M, hs.mono st0, hrel_laid hM hq, (Post.atB st0 p).mono fun ps H2 m2 M2 st2 hM2 p2 vs rv => ?_⟩
  obtain ⟨hq2, hm2⟩ := keep_out st2 upd_same hqm
  refine ⟨hq2, ?_⟩
  cases hk : keysD ps with
  | none => simp only [hk] at p2; exact p2.elim
  | some l =>
    simp only [hk] at p2
    split at p2
    · rename_i h15'
      obtain ⟨ks, rfl, rk⟩ := keysD_v rv hk
      refine ⟨ks, rfl, by rw [rk.length]; exact h15', ?_⟩
      have nt : ∀ (l : List (Key × V)) xs, HO.dK l ≠ HO.tup xs := fun _ _ z => by cases z
      have nf : ∀ (l : List (Key × V)) a b, HO.dK l ≠ HO.frz a b := fun _ _ _ z => by cases z
      have st3 : Stp H m (upd H2 q (.dK (mergeK [] ks))) (m2 ++ [q]) := stp_add (stp_out (st0.trans st2) hq hq2 (nt _) (nf _)) hq
      have tk : TK H2 (upd H2 q (.dK (mergeK [] ks))) := tk_upd hq2 (nt _) (nf _)
      have hM3 : HRel (zOf X) (upd H2 q (.dK (mergeK [] ks))) (m2 ++ [q]) (M2 ++ [.dct (mergeD [] l)]) :=
        hrel_addO (hrel_out hM2 hq2 (nt _) (nf _) hm2) hm2 ⟨_, upd_same, RelKs.merge (RelKs.keep tk ix_new _ _ rk) rfl⟩
      exact p2 _ _ st3 hM3 _ ⟨q, rfl, len_new hM2⟩
    · exact p2.elim
end
end Dn

/-! Dn8: short words for the printed walks -/
namespace Dn
open PySem PySem.Spec PyProof.Rows L2
theorem RoomG.u64 {k : Nat} {A : Around} (r : RoomG k A) : A.units + 64 < cLine := r.r.units
theorem RoomG.u65 {k : Nat} {A : Around} (r : RoomG k A) : A.units + 65 < cLine := by have := r.r.un; omega
theorem RoomG.u1 {k : Nat} {A : Around} (r : RoomG k A) : A.units + 1 < cLine := by have := r.r.un; omega
abbrev tCmpD (f : D → D → C D) (ta tb : ED) : TD := fun s => (eOp f ta tb s).asB
abbrev tChainD (f g : D → D → C D) (ta tb tc : ED) : TD := fun s => (eChain f g ta tb tc s).asB
abbrev tTruD (ta : ED) : TD := fun s => (ta s).bind truC
theorem fnG_zero {P : Program} {w : World} {K : PySem.W.Frag} {mg : Str → Option Value} {base : Heap} {f : Addr} {fd : FuncData} {ps : List Str} {Z : Zx} : FnG P w K mg base CX0 0 f fd ps (spD Z ps.length noFn) :=
  ⟨fun vs H Q E h => h.1, fun A outer s H args us vs Q E hr e0 hb r hsp => by
    obtain ⟨_, m, ds, M, _, _, p⟩ := hsp
    exact p.elim⟩
def negD (d : D) : C D := match d with
  | .int i => C.ret (.int (-i))
  | _ => C.bad
theorem ud_neg {X : Cx} {W : XK} : UnR X (unaryOp .USub) (rD1 (zOf X) W negD) := by
  intro pins s σ H x v Q I rx h
  obtain ⟨m, d, M, r, hM, p⟩ := h
  cases d with
  | int i =>
    have r : x = .int i := r
    subst r
    exact un_neg pins s σ H _ v Q I rx ⟨i, rfl, p.ok hM _ rfl⟩
  | _ => exact p.elim
/-- a written dict of texts -/
def EntL (P : Params) : List DictEntry → List (Str × Str) → Prop
  | [], [] => True
  | e :: r, (x, y) :: q => (∃ t, e.key = .str x t ∧ e.hash = PyData.keyHash P x ∧ ∃ u, e.val = .str y u) ∧ EntL P r q
  | _, _ => False
theorem EntL.lit {P : Params} : ∀ {l : List DictEntry} {q : List (Str × Str)}, EntL P l q → PySem.W.KeysLit P l
  | [], [], _ => trivial
  | e :: r, (x, y) :: q, h => ⟨let ⟨⟨t, h1, h2, _⟩, _⟩ := h; ⟨x, t, h1, h2⟩, EntL.lit h.2⟩
  | [], _ :: _, h => h.elim
  | _ :: _, [], h => h.elim
theorem EntL.find {P : Params} (z : Str) : ∀ {l : List DictEntry} {q : List (Str × Str)}, EntL P l q → (∃ v e, q.lookup z = some v ∧ l.find? (·.key.isStr z) = some e ∧ ∃ u, e.val = .str v u) ∨ (q.lookup z = none ∧ l.find? (·.key.isStr z) = none ∧ l.any (·.refKey) = false)
  | [], [], _ => .inr ⟨rfl, rfl, rfl⟩
  | e :: r, (x, y) :: q, h => by
    obtain ⟨⟨t, h1, h2, u, h3⟩, hr⟩ := h
    have hk : e.key.isStr z = decide (z = x) := by
      rw [h1, PySem.W.isStr_of]
      simp only [Value.isStrOf]
      by_cases e : x = z
      · subst e; simp
      · have e' : ¬ z = x := fun q => e q.symm
        simp [e, e']
    by_cases hz : z = x
    · subst hz
      refine .inl ⟨y, e, by simp, ?_, u, h3⟩
      rw [List.find?_cons, hk]
      simp
    · have hb : (z == x) = false := by simpa using hz
      rcases EntL.find z hr with ⟨v, e', q1, q2, q3⟩ | ⟨q1, q2, q3⟩
      · refine .inl ⟨v, e', ?_, ?_, q3⟩
        · rw [List.lookup_cons, hb]; exact q1
        · rw [List.find?_cons, hk, decide_eq_false hz]; exact q2
      · refine .inr ⟨?_, ?_, ?_⟩
        · rw [List.lookup_cons, hb]; exact q1
        · rw [List.find?_cons, hk, decide_eq_false hz]; exact q2
        · rw [List.any_cons, q3, Bool.or_false]
          simp only [DictEntry.refKey, h1]
  | [], _ :: _, h => h.elim
  | _ :: _, [], h => h.elim
theorem rod_of {Z : Zx} {a : Addr} {es : Array DictEntry} {n : Nat} {q : List (Str × Str)} (l : Z.K.lookup a = some ⟨.type "dict", none, .dict es n, #[]⟩) (e : EntL Z.w.params es.toList q) (low : (a == sysModules) = false) : RodIn Z a q := by
  refine ⟨es, n, l, e.lit, low, fun x => ?_⟩
  rcases e.find x with ⟨v, en, q1, q2, u, q3⟩ | ⟨q1, q2, q3⟩
  · refine ⟨some en.val, ?_, ?_⟩
    · unfold PySem.W.nsIn
      rw [l]
      simp only [q2]
    · rw [q1]
      exact ⟨u, q3⟩
  · refine ⟨none, ?_, ?_⟩
    · unfold PySem.W.nsIn
      rw [l]
      simp only [q2, q3, Bool.false_eq_true, if_false]
    · rw [q1]
      trivial
/-- a written tuple of texts and numbers -/
def TupL : List Value → List D → Prop
  | [], [] => True
  | u :: us, .str x :: ds => (∃ t, u = .str x t) ∧ TupL us ds
  | u :: us, .int x :: ds => (∃ t, u = .int x t) ∧ TupL us ds
  | _, _ => False
theorem TupL.vals {Z : Zx} {H : Hp} {m : List Addr} : ∀ {us : List Value} {ds : List D}, TupL us ds → ∃ xs, Vals xs us ∧ RelDs Z H m ds xs ∧ us.length = ds.length
  | [], [], _ => ⟨[], .nil, rfl, rfl⟩
  | u :: us, .str x :: ds, h => by
    obtain ⟨xs, h1, h2, h3⟩ := TupL.vals (Z := Z) (H := H) (m := m) h.2
    obtain ⟨t, e⟩ := h.1
    exact ⟨.str x :: xs, .cons ⟨t, e⟩ h1, ⟨_, _, rfl, rfl, h2⟩, by rw [List.length_cons, List.length_cons, h3]⟩
  | u :: us, .int x :: ds, h => by
    obtain ⟨xs, h1, h2, h3⟩ := TupL.vals (Z := Z) (H := H) (m := m) h.2
    obtain ⟨t, e⟩ := h.1
    exact ⟨.int x :: xs, .cons ⟨t, e⟩ h1, ⟨_, _, rfl, rfl, h2⟩, by rw [List.length_cons, List.length_cons, h3]⟩
theorem tup_of {Z : Zx} {H : Hp} {m : List Addr} {a : Addr} {o : Obj} {its : Array Value} {n : Nat} {ds : List D} (l : Z.K.lookup a = some o) (hn : o.dict = none) (hc : o.cls = .type "tuple") (hd : o.data = .seq its n) (e : TupL its.toList ds) (hz : ds.length ≤ 1000 := by decide) : RelD Z H m (.tup ds) (.ref a) := by
  obtain ⟨xs, h1, h2, h3⟩ := e.vals (Z := Z) (H := H) (m := m)
  refine ⟨a, xs, rfl, .inr ⟨o, its, n, hn, l, hc, hd, ?_, h1⟩, h2⟩
  have e : sizeLine = 16777216 := by first | rfl | decide
  rw [Array.length_toList] at h3
  omega
end Dn

/-! DnA: d.get, dict(..) -/
namespace Dn
open PySem PySem.Spec PyProof.Rows L2
/-- what is asked of a dict -/
def getC (n : Nat) (y z : D) : C D := fun M => match M[n]? with
  | some (.dct kvs) => match keyD y with
    | some k => .ok ((dLook kvs k).getD z) M
    | none => .bad
  | _ => .bad
def eGet1 (td ty : ED) : ED := fun s => (td s).bind fun x => match x with
  | .ref n => fun M => match M[n]? with
    | some (.dct _) => ((ty s).bind fun y => getC n y .non) M
    | _ => .bad
  | _ => C.bad
def eGet2 (td ty tz : ED) : ED := fun s => (td s).bind fun x => match x with
  | .ref n => fun M => match M[n]? with
    | some (.dct _) => ((ty s).bind fun y => (tz s).bind fun z => getC n y z) M
    | _ => .bad
  | _ => C.bad
section
variable {X : Cx} {W : XK} {a b e f o : Expr} {ta tb te td ty tz : ED} {pos apos : Pos}
theorem getC_v {H : Hp} {m : List Addr} {M : Mh} {n : Nat} {p : Addr} {y z : D} {vy vz : V} {Q : VK} (hm : m[n]? = some p) (ry : RelD (zOf X) H m y vy) (rz : RelD (zOf X) H m z vz) (hM : HRel (zOf X) H m M)
    (q : Post (zOf X) W H m (getC n y z M) (fun d' H' m' _ => ∀ v, RelD (zOf X) H' m' d' v → Q v H')) : ∃ ov, DGet H p vy ov ∧ Q (ov.getD vz) H := by
  unfold getC at q
  split at q
  · rename_i kvs he
    split at q
    · rename_i k hk
      obtain ⟨vs, h1, h2⟩ := hM.at hm he
      have ey := keyD_v ry hk
      subst ey
      refine ⟨valV vs k, DGet.k h1, ?_⟩
      obtain ⟨q1, q2⟩ := dLook_v (k := k) h2
      cases hl : dLook kvs k with
      | none =>
        rw [hl] at q
        rw [q2 hl]
        exact q.ok hM _ rz
      | some dv =>
        obtain ⟨v', e1, e2⟩ := q1 dv hl
        rw [hl] at q
        rw [e1]
        exact q.ok hM _ e2
    · exact q.elim
  · exact q.elim
theorem me_get1 (hu : X.A.units + 1 < cLine) (ho : ME X W o td) (he : ME X W e ty) (m : M1 X o "get" apos e pos := by exact ⟨rfl, rfl, rfl, rfl⟩) : ME X W (.Call (.Attribute o "get" apos) [e] [] pos) (eGet1 td ty) := by
  refine pe_mono (pe_dget1 hu ho he m) fun σ H Q h => ?_
  obtain ⟨m, s, M, hs, hM, p⟩ := h
  refine ⟨m, s, M, hs, hM, p.bind.mono fun dx H1 m1 M1 st1 hM1 p1 x rx => ?_⟩
  cases dx with
  | ref n =>
    obtain ⟨a, rfl, hm1⟩ := rx
    simp only at p1
    split at p1
    · rename_i kvs hk
      obtain ⟨vs, h1, h2⟩ := hM1.at hm1 hk
      refine ⟨a, rfl, .inl ⟨vs, .inl h1⟩, m1, s, M1, hs.mono st1, hM1, p1.bind.mono fun dy H2 m2 M2 st2 hM2 p2 y ry => ?_⟩
      exact getC_v (z := .non) (st2.ix n a hm1) ry rfl hM2 p2
    · exact p1.elim
  | _ => exact p1.elim
theorem me_get2 (hu : X.A.units + 1 < cLine) (ho : ME X W o td) (he : ME X W e ty) (hf : ME X W f tz) (m : M2 X o "get" apos e f pos := by exact ⟨rfl, rfl, rfl, rfl⟩) : ME X W (.Call (.Attribute o "get" apos) [e, f] [] pos) (eGet2 td ty tz) := by
  refine pe_mono (pe_dget2 hu ho he hf m) fun σ H Q h => ?_
  obtain ⟨m, s, M, hs, hM, p⟩ := h
  refine ⟨m, s, M, hs, hM, p.bind.mono fun dx H1 m1 M1 st1 hM1 p1 x rx => ?_⟩
  cases dx with
  | ref n =>
    obtain ⟨a, rfl, hm1⟩ := rx
    simp only at p1
    split at p1
    · rename_i kvs hk
      obtain ⟨vs, h1, h2⟩ := hM1.at hm1 hk
      refine ⟨a, rfl, .inl ⟨vs, .inl h1⟩, m1, s, M1, hs.mono st1, hM1, p1.bind.mono fun dy H2 m2 M2 st2 hM2 p2 y ry => ?_⟩
      refine ⟨m2, s, M2, (hs.mono st1).mono st2, hM2, p2.bind.mono fun dz H3 m3 M3 st3 hM3 p3 z rz => ?_⟩
      exact getC_v (st3.ix n a (st2.ix n a hm1)) (st3.rel ry) rz hM3 p3
    · exact p1.elim
  | _ => exact p1.elim
/-- the pairs, by content -/
def pairsD : List D → Option (List (Key × D))
  | [] => some []
  | .tup [x, y] :: r => match keyD x, pairsD r with
    | some k, some l => some ((k, y) :: l)
    | _, _ => none
  | _ :: _ => none
theorem pairsD_v {Z : Zx} {H : Hp} {m : List Addr} : ∀ {ds : List D} {vs : List V} {l : List (Key × D)}, RelDs Z H m ds vs → pairsD ds = some l → ∃ (ps : List Addr) (kvs : List (Key × V)), vs = ps.map V.ref ∧ Paired (fun p kv => SqT Z.K H p [kV kv.1, kv.2]) ps kvs ∧ RelKs Z H m l kvs
  | [], vs, l, r, e => by
    have r : vs = [] := r
    subst r; cases e
    exact ⟨[], [], rfl, .nil, rfl⟩
  | d :: ds, vs, l, r, e => by
    obtain ⟨v, rest, rfl, r1, r2⟩ := r
    unfold pairsD at e
    split at e
    · rename_i h; cases h
    · rename_i x y r' h
      cases h
      split at e
      · rename_i k l' hk hl
        cases e
        obtain ⟨ps, kvs, rfl, h1, h2⟩ := pairsD_v r2 hl
        obtain ⟨a, xs, rfl, hq, hr⟩ := r1
        obtain ⟨vx, _, rfl, rx, vy, _, rfl, ry, hn⟩ := hr
        cases hn
        have ex := keyD_v rx hk
        subst ex
        exact ⟨a :: ps, (k, vy) :: kvs, rfl, .cons hq.sq h1, ⟨vy, kvs, rfl, ry, h2⟩⟩
      · cases e
    · cases e
theorem pairs_at {pins : List (Addr × Obj)} {σ : L2.St} {H : Hp} {s : Shared} (I : L2.Inv X pins σ H s) : ∀ {ps : List Addr} {kvs : List (Key × V)}, Paired (fun p kv => SqT X.K H p [kV kv.1, kv.2]) ps kvs →
    ∃ (prs : List (Key × Value)) (ws : List (Value × Value)), KV kvs prs ∧ prs.length = ps.length ∧ ws.length = ps.length ∧ ∀ (j : Nat) k v, ws[j]? = some (k, v) → ∃ b q, ps[j]? = some b ∧ IsTup s.heap b #[k, v] ∧ prs[j]? = some (q, v) ∧ keyIs q k = true
  | _, _, .nil => ⟨[], [], .nil, rfl, rfl, fun j k v e => by simp at e⟩
  | _, _, .cons (a := p) (b := kv) h t => by
    obtain ⟨prs, ws, r, hl, hl2, hp⟩ := pairs_at I t
    obtain ⟨its, rv, ht, _⟩ := I.tuple h
    obtain ⟨u, y, ei, ru, ry⟩ := vals2 rv
    subst ei
    refine ⟨(kv.1, y) :: prs, (u, y) :: ws, .cons ⟨rfl, ry⟩ r, by rw [List.length_cons, List.length_cons, hl], by rw [List.length_cons, List.length_cons, hl2], fun j k v e => ?_⟩
    cases j with
    | zero =>
      have e' : (u, y) = (k, v) := Option.some.inj e
      cases e'
      exact ⟨p, kv.1, rfl, ht, rfl, kV_is (P := X.prog) (w := X.w) ru⟩
    | succ j =>
      obtain ⟨b, q, e1, e2, e3, e4⟩ := hp j k v (by simpa using e)
      exact ⟨b, q, by simpa using e1, e2, by simpa using e3, e4⟩
theorem call_dictN (hcalm : X.calm = true) : CallR X (.type "dict") (fun xs H Q => ∃ (a : Addr) (ps : List Addr) (kvs : List (Key × V)), xs = [.ref a] ∧ TupN X.K H a (ps.map V.ref) ∧ Paired (fun p kv => SqT X.K H p [kV kv.1, kv.2]) ps kvs ∧
    ∀ p, H p = none → Q (.ref p) (upd H p (.dK (mergeK [] kvs)))) := by
  rintro pins s σ H _ us Q I r ⟨a, ps, kvs, rfl, hq, hp, q⟩
  obtain ⟨u, rfl, rx⟩ := vals1 r
  cases rx
  obtain ⟨its, rv, pl, hz⟩ := hq.plain I
  have ei := refs_at rv
  subst ei
  rw [List.length_map] at hz
  obtain ⟨prs, ws, rel, hl, hl2, hpr⟩ := pairs_at I hp
  have P := PairArg.tuple (prog := X.prog) (w := X.w) a (ps.map Value.ref).toArray (fun j => ps.getD j 0) ws
  refine PySem.call_dict_pairs (knd := mixKind X.prog X.w) (kvs := prs) P (I.ok.hd hcalm) ⟨pl, ?_, fun j k v e => ?_⟩ ⟨by rw [hl, hl2], fun i k v e => ?_⟩ (by rw [hl2]; exact hz) fun h' tk hd' kp => ?_
  · rw [List.size_toArray, List.length_map, hl2]
  · obtain ⟨b, q', e1, e2, e3, e4⟩ := hpr j k v e
    obtain ⟨o, ho, hc, n, hd⟩ := e2
    refine ⟨by simp [e1], .inl ?_⟩
    show s.heap.IsTuple (ps.getD j 0) _
    rw [List.getD_eq_getElem?_getD, e1]
    exact ⟨o, ho, hc, n, hd⟩
  · obtain ⟨b, q', e1, e2, e3, e4⟩ := hpr i k v e
    exact ⟨q', e3, e4⟩
  · have hm : (s.heap.objs.size == sysModules) = false := beq_eq_false_iff_ne.mpr (Nat.ne_of_gt I.big)
    have hlen : (mergeK [] kvs).length ≤ sizeLine := by
      refine Nat.le_trans (length_mergeK kvs []) ?_
      rw [List.length_nil, Nat.zero_add, rel.length, hl]
      exact hz
    exact ⟨.ref s.heap.objs.size, upd H s.heap.objs.size (.dK (mergeK [] kvs)), I.laid (t' := tk) (fun b o e => kp b o (by simp) e) (Nat.le_refl _) (show ObjOk X.prog X.w _ _ _ (.dK (mergeK [] kvs)) from ⟨hlen, hm, merged [] prs, KV.merge rel .nil, hd'⟩), rfl, q _ (I.hok.fresh (Nat.le_refl _))⟩
def dictD (d : D) : C D := fun M => match d with
  | .tup ds => match pairsD ds with
    | some l => .ok (.ref M.length) (M ++ [.dct (mergeD [] l)])
    | none => .bad
  | .ref n => match M[n]? with
    | some (.lst ds) => match pairsD ds with
      | some l => .ok (.ref M.length) (M ++ [.dct (mergeD [] l)])
      | none => .bad
    | some (.dct kvs) => .ok (.ref M.length) (M ++ [.dct kvs])
    | _ => .bad
  | _ => .bad
theorem cd_dict (hcalm : X.calm = true) : CallR X (.type "dict") (rDn (zOf X) W (one1 dictD)) := by
  intro pins s σ H xs us Q I rv hq
  obtain ⟨m, ds, M, rd, hM, p⟩ := hq
  cases ds with
  | nil => exact p.elim
  | cons d rest =>
    cases rest with
    | cons _ _ => exact p.elim
    | nil =>
      obtain ⟨v, rfl, r1⟩ := rels1 rd
      have p : Post (zOf X) W H m (dictD d M) _ := p
      unfold dictD at p
      cases d with
      | tup ds =>
        simp only at p
        split at p
        · rename_i l hl
          obtain ⟨a, vs, rfl, hq, hr⟩ := r1
          obtain ⟨ps, kvs, rfl, h1, h2⟩ := pairsD_v hr hl
          refine call_dictN hcalm pins s σ H _ us Q I rv ⟨a, ps, kvs, rfl, hq, h1, fun q hn => ?_⟩
          have st := stp_new (m := m) (o := .dK (mergeK [] kvs)) hn
          exact p _ _ st (hrel_new hM hn ⟨_, upd_same, RelKs.merge (RelKs.keep st.tk st.ix _ _ h2) rfl⟩) _ ⟨q, rfl, len_new hM⟩
        · exact p.elim
      | ref n =>
        simp only at p
        split at p
        · rename_i ds hk
          split at p
          · rename_i l hl
            obtain ⟨a, rfl, hm⟩ := r1
            obtain ⟨vs, h1, hr⟩ := hM.at hm hk
            obtain ⟨ps, kvs, rfl, h2, h3⟩ := pairsD_v hr hl
            refine call_dictP hcalm pins s σ H _ us Q I rv ⟨a, ps, kvs, rfl, SqL.of h1, h2, fun q hn => ?_⟩
            have st := stp_new (m := m) (o := .dK (mergeK [] kvs)) hn
            exact p _ _ st (hrel_new hM hn ⟨_, upd_same, RelKs.merge (RelKs.keep st.tk st.ix _ _ h3) rfl⟩) _ ⟨q, rfl, len_new hM⟩
          · exact p.elim
        · rename_i kvs hk
          obtain ⟨a, rfl, hm⟩ := r1
          obtain ⟨vs, h1, hr⟩ := hM.at hm hk
          refine call_dictD pins s σ H _ us Q I rv ⟨a, vs, rfl, .inl h1, fun q hn => ?_⟩
          have st := stp_new (m := m) (o := .dK vs) hn
          exact p _ _ st (hrel_new hM hn ⟨_, upd_same, RelKs.keep st.tk st.ix _ _ hr⟩) _ ⟨q, rfl, len_new hM⟩
        · exact p.elim
      | _ => exact p.elim
end
end Dn

/-! Dn9: the reckonings, step by step (for simp) -/
namespace Dn
open PySem PySem.Spec PyProof.Rows L2
theorem ofString_inj {a b : String} : (Str.ofString a = Str.ofString b) = (a = b) := by
  apply propext
  constructor
  · intro h
    rw [Str.ofString_eq_toList, Str.ofString_eq_toList] at h
    have h1 : (a.toList.map Char.toNat) = (b.toList.map Char.toNat) := by
      have := congrArg (fun s : Str => s.cps.toList) h
      simpa using this
    have h2 : a.toList = b.toList := by
      have inj : ∀ (l l' : List Char), l.map Char.toNat = l'.map Char.toNat → l = l' := by
        intro l
        induction l with
        | nil => intro l' h; cases l' with
          | nil => rfl
          | cons c r => cases h
        | cons c r ih => intro l' h; cases l' with
          | nil => cases h
          | cons c' r' =>
            simp only [List.map_cons, List.cons.injEq] at h
            rw [ih r' h.2]
            have : c = c' := by
              apply Char.ext
              apply UInt32.toNat_inj.mp
              exact h.1
            rw [this]
      exact inj _ _ h1
    exact String.toList_inj.mp h2
  · intro h; rw [h]
section
variable {α β : Type} {M : Mh} {s : Sl}
theorem ret_run (a : α) : C.ret a M = .ok a M := rfl
theorem bad_run : (C.bad : C α) M = .bad := rfl
theorem bind_run (f : C α) (g : α → C β) : f.bind g M = match f M with
  | .bad => .bad
  | .ok a M1 => g a M1
  | .exc c fs M1 => .exc c fs M1 := rfl
theorem noX_run (f : C α) : f.noX M = match f M with
  | .exc _ _ _ => .bad
  | .bad => .bad
  | .ok a M1 => .ok a M1 := by unfold C.noX; cases f M <;> rfl
theorem asB_run (t : C D) : t.asB M = match t M with
  | .bad => .bad
  | .ok d M1 => (match d with
    | .bl b => .ok b M1
    | _ => .bad)
  | .exc c fs M1 => .exc c fs M1 := by
  unfold C.asB C.bind
  cases t M with
  | ok d M1 => cases d <;> rfl
  | _ => rfl
theorem eOp_run (f : D → D → C D) (ta tb : ED) : eOp f ta tb s M = match ta s M with
  | .bad => .bad
  | .ok x M1 => (match tb s M1 with
    | .bad => .bad
    | .ok y M2 => f x y M2
    | .exc c fs M2 => .exc c fs M2)
  | .exc c fs M1 => .exc c fs M1 := by
  unfold eOp
  rw [bind_run]
  cases ta s M with
  | ok x M1 =>
    simp only [bind_run]
    cases tb s M1 <;> rfl
  | _ => rfl
theorem eUn_run (f : D → C D) (ta : ED) : eUn f ta s M = match ta s M with
  | .bad => .bad
  | .ok x M1 => f x M1
  | .exc c fs M1 => .exc c fs M1 := by
  unfold eUn
  rw [bind_run]
  cases ta s M <;> rfl
theorem eCb_run (f : List D → C D) (ta : AD) : eCb f ta s M = match ta s M with
  | .bad => .bad
  | .ok x M1 => f x M1
  | .exc c fs M1 => .exc c fs M1 := by
  unfold eCb
  rw [bind_run]
  cases ta s M <;> rfl
theorem aNil_run : aNil s M = .ok [] M := rfl
theorem aCons_run (ta : ED) (tr : AD) : aCons ta tr s M = match ta s M with
  | .bad => .bad
  | .ok x M1 => (match tr s M1 with
    | .bad => .bad
    | .ok xs M2 => .ok (x :: xs) M2
    | .exc c fs M2 => .exc c fs M2)
  | .exc c fs M1 => .exc c fs M1 := by
  unfold aCons
  rw [bind_run]
  cases ta s M with
  | ok x M1 =>
    simp only [bind_run]
    cases tr s M1 <;> rfl
  | _ => rfl
theorem eVar_run (i : Nat) : eVar i s M = match s[i]? with
  | some (some d) => .ok d M
  | _ => .bad := by
  unfold eVar
  cases s[i]? with
  | none => rfl
  | some o => cases o <;> rfl
theorem eC_run (d : D) : eC d s M = .ok d M := rfl
theorem tCmpD_run (f : D → D → C D) (ta tb : ED) : tCmpD f ta tb s M = match eOp f ta tb s M with
  | .bad => .bad
  | .ok d M1 => (match d with
    | .bl b => .ok b M1
    | _ => .bad)
  | .exc c fs M1 => .exc c fs M1 := asB_run _
theorem tTruD_run (ta : ED) : tTruD ta s M = match ta s M with
  | .bad => .bad
  | .ok d M1 => truC d M1
  | .exc c fs M1 => .exc c fs M1 := by
  unfold tTruD
  rw [bind_run]
  cases ta s M <;> rfl
theorem tAndD_run (t u : TD) : tAndD t u s M = match t s M with
  | .bad => .bad
  | .ok b M1 => if b = true then u s M1 else .ok false M1
  | .exc c fs M1 => .exc c fs M1 := by
  unfold tAndD C.bind
  cases t s M with
  | ok b M1 => cases b <;> rfl
  | _ => rfl
theorem tOrD_run (t u : TD) : tOrD t u s M = match t s M with
  | .bad => .bad
  | .ok b M1 => if b = true then .ok true M1 else u s M1
  | .exc c fs M1 => .exc c fs M1 := by
  unfold tOrD C.bind
  cases t s M with
  | ok b M1 => cases b <;> rfl
  | _ => rfl
theorem tNotD_run (t : TD) : tNotD t s M = match t s M with
  | .bad => .bad
  | .ok b M1 => .ok (!b) M1
  | .exc c fs M1 => .exc c fs M1 := by
  unfold tNotD
  rw [bind_run]
  cases t s M <;> rfl
theorem tYesD_run : tYesD s M = .ok true M := rfl
theorem eIf_run (t : TD) (ta tb : ED) : eIf t ta tb s M = match t s M with
  | .bad => .bad
  | .ok b M1 => if b = true then ta s M1 else tb s M1
  | .exc c fs M1 => .exc c fs M1 := by
  unfold eIf C.bind
  cases t s M with
  | ok b M1 => cases b <;> rfl
  | _ => rfl
theorem eAnd_run (ta tb : ED) : eAnd ta tb s M = match ta s M with
  | .bad => .bad
  | .ok d M1 => (match d with
    | .bl b => if b = true then tb s M1 else .ok (.bl false) M1
    | _ => .bad)
  | .exc c fs M1 => .exc c fs M1 := by
  unfold eAnd C.bind
  cases ta s M with
  | ok d M1 => cases d with
    | bl b => cases b <;> rfl
    | _ => rfl
  | _ => rfl
theorem eOr_run (ta tb : ED) : eOr ta tb s M = match ta s M with
  | .bad => .bad
  | .ok d M1 => (match d with
    | .bl b => if b = true then .ok (.bl true) M1 else tb s M1
    | _ => .bad)
  | .exc c fs M1 => .exc c fs M1 := by
  unfold eOr C.bind
  cases ta s M with
  | ok d M1 => cases d with
    | bl b => cases b <;> rfl
    | _ => rfl
  | _ => rfl
theorem notD_run (b : Bool) : notD (.bl b) M = .ok (.bl (!b)) M := rfl
theorem eSl_run (te : ED) (tl th : OD) : eSl te tl th s M = match te s M with
  | .bad => .bad
  | .ok x M1 => (match tl s M1 with
    | .bad => .bad
    | .ok l M2 => (match th s M2 with
      | .bad => .bad
      | .ok u M3 => slD x l u M3
      | .exc c fs M3 => .exc c fs M3)
    | .exc c fs M2 => .exc c fs M2)
  | .exc c fs M1 => .exc c fs M1 := by
  unfold eSl
  rw [bind_run]
  cases te s M with
  | ok x M1 =>
    simp only [bind_run]
    cases tl s M1 with
    | ok l M2 =>
      simp only
      cases th s M2 <;> rfl
    | _ => rfl
  | _ => rfl
theorem oNone_run : oNone s M = .ok none M := rfl
theorem oSome_run (t : ED) : oSome t s M = match t s M with
  | .bad => .bad
  | .ok d M1 => (match d with
    | .int i => .ok (some i) M1
    | _ => .bad)
  | .exc c fs M1 => .exc c fs M1 := by
  unfold oSome C.bind
  cases t s M with
  | ok d M1 => cases d <;> rfl
  | _ => rfl
/-! statements -/
theorem sRet_run (te : ED) : sRet te s M = match te s M with
  | .bad => .bad
  | .ok d M1 => .ok (.rt d, s) M1
  | .exc c fs M1 => .exc c fs M1 := by
  unfold sRet
  rw [bind_run]
  cases te s M <;> rfl
theorem sRetN_run : sRetN s M = .ok (.rt .non, s) M := rfl
theorem sExp_run (te : ED) : sExp te s M = match te s M with
  | .bad => .bad
  | .ok d M1 => .ok (.nx, s) M1
  | .exc c fs M1 => .exc c fs M1 := by
  unfold sExp
  rw [bind_run]
  cases te s M <;> rfl
theorem sNx_run : sNx s M = .ok (.nx, s) M := rfl
theorem sBk_run : sBk s M = .ok (.bk, s) M := rfl
theorem sCt_run : sCt s M = .ok (.ct, s) M := rfl
theorem sIf_run (tc : TD) (t u : SD) : sIf tc t u s M = match tc s M with
  | .bad => .bad
  | .ok b M1 => if b = true then t s M1 else u s M1
  | .exc c fs M1 => .exc c fs M1 := by
  unfold sIf C.bind
  cases tc s M with
  | ok b M1 => cases b <;> rfl
  | _ => rfl
theorem sSeq_run (t u : SD) : sSeq t u s M = match t s M with
  | .bad => .bad
  | .ok r M1 => (match r with
    | (.nx, s1) => u s1 M1
    | (.bk, s1) => .ok (.bk, s1) M1
    | (.ct, s1) => .ok (.ct, s1) M1
    | (.rt d, s1) => .ok (.rt d, s1) M1)
  | .exc c fs M1 => .exc c fs M1 := by
  unfold sSeq C.bind
  cases t s M with
  | ok r M1 => obtain ⟨f, s1⟩ := r; cases f <;> rfl
  | _ => rfl
theorem sAsg_run (te : ED) (g : GD) : sAsg te g s M = match te s M with
  | .bad => .bad
  | .ok d M1 => (match g d s M1 with
    | .bad => .bad
    | .ok s' M2 => .ok (.nx, s') M2
    | .exc c fs M2 => .exc c fs M2)
  | .exc c fs M1 => .exc c fs M1 := by
  unfold sAsg
  rw [bind_run]
  cases te s M with
  | ok x M1 =>
    simp only [bind_run]
    cases g x s M1 <;> rfl
  | _ => rfl
theorem gNm_run (i : Nat) (d : D) : gNm i d s M = .ok (s.set i (some d)) M := rfl
theorem gsNil_run : gsNil [] s M = .ok s M := rfl
theorem gsCons_run (g : GD) (gs : GDs) (d : D) (ds : List D) : gsCons g gs (d :: ds) s M = match g d s M with
  | .bad => .bad
  | .ok s1 M1 => gs ds s1 M1
  | .exc c fs M1 => .exc c fs M1 := by
  show (g d s).bind (fun s1 => gs ds s1) M = _
  rw [bind_run]
  cases g d s M <;> rfl
theorem gSb_run (to ti : ED) (d : D) : gSb to ti d s M = match to s M with
  | .bad => .bad
  | .ok o M1 => (match ti s M1 with
    | .bad => .bad
    | .ok i M2 => (match setD o i d M2 with
      | .bad => .bad
      | .ok _ M3 => .ok s M3
      | .exc c fs M3 => .exc c fs M3)
    | .exc c fs M2 => .exc c fs M2)
  | .exc c fs M1 => .exc c fs M1 := by
  unfold gSb
  rw [bind_run]
  cases to s M with
  | ok x M1 =>
    simp only [bind_run]
    cases ti s M1 with
    | ok l M2 =>
      simp only
      cases setD x l d M2 <;> rfl
    | _ => rfl
  | _ => rfl
theorem gTp_tup (n : Nat) (gs : GDs) (ds : List D) : gTp n gs (.tup ds) s M = if ds.length = n then gs ds s M else .bad := rfl
theorem gTp_str (n : Nat) (gs : GDs) (z : Str) : gTp n gs (.str z) s M = if z.cps.size = n then gs (signsD z) s M else .bad := by
  unfold gTp
  simp only
  split <;> rfl
theorem gSt_tup (k : Nat) (gs : GDs) (ds : List D) : gSt k gs (.tup ds) s M = if k ≤ ds.length then gs (ds.take k ++ [.ref M.length]) s (M ++ [.lst (ds.drop k)]) else .bad := rfl
theorem sPar_run (is : List Nat) (ta : AD) : sPar is ta s M = match ta s M with
  | .bad => .bad
  | .ok ds M1 => if ds.length = is.length then .ok (.nx, (is.zip ds).foldl (fun s p => s.set p.1 (some p.2)) s) M1 else .bad
  | .exc c fs M1 => .exc c fs M1 := by
  unfold sPar C.bind
  cases ta s M with
  | ok ds M1 =>
    simp only
    split <;> rfl
  | _ => rfl
theorem sFor_run (tw : WD) (g : GD) (body : SD) : sFor tw g body s M = match tw s M with
  | .bad => .bad
  | .ok w M1 => loopD w g body w.items s M1
  | .exc c fs M1 => .exc c fs M1 := by
  unfold sFor
  rw [bind_run]
  cases tw s M <;> rfl
theorem eComp_run (vs : List Nat) (tw : WD) (g : GD) (tt : TD) (te : ED) : eComp vs tw g tt te s M = match tw s M with
  | .bad => .bad
  | .ok w M1 => if w.items.length < sizeLine then (match compL w g tt te (wipeD s vs) w.items [] M1 with
    | .bad => .bad
    | .ok xs M2 => .ok (.ref M2.length) (M2 ++ [.lst xs])
    | .exc c fs M2 => .exc c fs M2) else .bad
  | .exc c fs M1 => .exc c fs M1 := by
  unfold eComp
  rw [bind_run]
  cases tw s M with
  | ok w M1 =>
    simp only
    split
    · rw [bind_run]
      cases compL w g tt te (wipeD s vs) w.items [] M1 <;> rfl
    · rfl
  | _ => rfl
theorem newT_run (xs : List D) : newT xs M = if xs.length ≤ sizeLine then .ok (.tup xs) M else .bad := rfl
theorem newL_run (xs : List D) : newL xs M = if xs.length ≤ sizeLine then .ok (.ref M.length) (M ++ [.lst xs]) else .bad := rfl
theorem one1_run (f : D → C D) (d : D) : one1 f [d] M = f d M := rfl
theorem eqD_run (a b : D) : eqD a b M = match eqC a b M with
  | .bad => .bad
  | .ok r M1 => .ok (.bl r) M1
  | .exc c fs M1 => .exc c fs M1 := by
  unfold eqD
  rw [bind_run]
  cases eqC a b M <;> rfl
theorem neD_run (a b : D) : neD a b M = match eqC a b M with
  | .bad => .bad
  | .ok r M1 => .ok (.bl (!r)) M1
  | .exc c fs M1 => .exc c fs M1 := by
  unfold neD
  rw [bind_run]
  cases eqC a b M <;> rfl
theorem eqC_str (a b : Str) : eqC (.str a) (.str b) M = .ok (decide (a = b)) M := rfl
theorem eqC_int (a b : Int) : eqC (.int a) (.int b) M = .ok (decide (a = b)) M := rfl
theorem eqC_bl (a b : Bool) : eqC (.bl a) (.bl b) M = .ok (decide (a = b)) M := rfl
theorem inE_run (a b : D) : inE a b M = match inCE a b M with
  | .bad => .bad
  | .ok r M1 => .ok (.bl r) M1
  | .exc c fs M1 => .exc c fs M1 := by
  unfold inE
  rw [bind_run]
  cases inCE a b M <;> rfl
theorem ninE_run (a b : D) : ninE a b M = match inCE a b M with
  | .bad => .bad
  | .ok r M1 => .ok (.bl (!r)) M1
  | .exc c fs M1 => .exc c fs M1 := by
  unfold ninE
  rw [bind_run]
  cases inCE a b M <;> rfl
theorem inCE_rod (a : Str) (kvs : List (Str × Str)) : inCE (.str a) (.rod kvs) M = .ok (kvs.lookup a).isSome M := rfl
theorem inCE_tup (x : D) (ds : List D) (h : (flatD x && ds.all flatD) = true) : inCE x (.tup ds) M = .ok (inF x ds) M := by
  rw [Bool.and_eq_true] at h
  show inQ x (.tup ds) M = _
  unfold inQ
  show (if flatD x = true ∧ ds.all flatD = true then R.ok (inF x ds) M else _) = _
  rw [if_pos h]
theorem ixE_rod (k : Str) (kvs : List (Str × Str)) : ixE (.rod kvs) (.str k) M = match kvs.lookup k with
  | some v => .ok (.str v) M
  | none => .bad := rfl
theorem ixE_tup (xs : List D) (i : Int) : ixE (.tup xs) (.int i) M = match atD xs i with
  | some d => .ok d M
  | none => .bad := rfl
theorem ixE_ls (xs : List D) (i : Int) : ixE (.ls xs) (.int i) M = match atD xs i with
  | some d => .ok d M
  | none => .bad := rfl
theorem ixE_lst {n : Nat} {xs : List D} (i : Int) (h : M[n]? = some (.lst xs)) : ixE (.ref n) (.int i) M = match atD xs i with
  | some d => .ok d M
  | none => .bad := by
  unfold ixE
  simp only [h]
  unfold ixD
  simp only [getS, getL, h]
  all_goals (cases atD xs i <;> rfl)
theorem ixE_dct {n : Nat} {kvs : List (Key × D)} (y : D) (h : M[n]? = some (.dct kvs)) : ixE (.ref n) y M = match (keyD y).bind (dLook kvs) with
  | some d => .ok d M
  | none => .bad := by
  unfold ixE
  simp only [h]
  all_goals (cases (keyD y).bind (dLook kvs) <;> rfl)
theorem addD_int (i j : Int) : addD (.int i) (.int j) M = .ok (.int (i + j)) M := rfl
theorem addD_str (x y : Str) : addD (.str x) (.str y) M = if x.length + y.length ≤ sizeLine then .ok (.str (x ++ y)) M else .bad := by
  unfold addD; simp only; split <;> rfl
theorem addD_tup (x y : List D) : addD (.tup x) (.tup y) M = if x.length + y.length ≤ sizeLine then .ok (.tup (x ++ y)) M else .bad := by
  unfold addD; simp only; split <;> rfl
theorem addD_lst {n k : Nat} {xs ys : List D} (h : M[n]? = some (.lst xs)) (h' : M[k]? = some (.lst ys)) : addD (.ref n) (.ref k) M = if (xs ++ ys).length ≤ sizeLine then .ok (.ref M.length) (M ++ [.lst (xs ++ ys)]) else .bad := by
  unfold addD
  simp only [h, h']
  rfl
theorem subD_int (i j : Int) : subD (.int i) (.int j) M = .ok (.int (i - j)) M := rfl
theorem mulD_int (i j : Int) : mulD (.int i) (.int j) M = if CMul i j then .ok (.int (i * j)) M else .bad := by
  unfold mulD; simp only; split <;> rfl
theorem fdivD_int (i j : Int) : fdivD (.int i) (.int j) M = if CDivN i j then .ok (.int (i.fdiv j)) M else .bad := by
  unfold fdivD D.int2; simp only; split <;> rfl
theorem modD_int (i j : Int) : modD (.int i) (.int j) M = if j ≠ 0 then .ok (.int (i.fmod j)) M else .bad := by
  unfold modD D.int2; simp only; split <;> rfl
theorem powD_int (i j : Int) : powD (.int i) (.int j) M = if CPow i j then .ok (.int (i ^ j.toNat)) M else .bad := by
  unfold powD D.int2; simp only; split <;> rfl
theorem ltD_int (i j : Int) : ltD (.int i) (.int j) M = .ok (.bl (decide (i < j))) M := rfl
theorem leD_int (i j : Int) : leD (.int i) (.int j) M = .ok (.bl (decide (i ≤ j))) M := rfl
theorem gtD_int (i j : Int) : gtD (.int i) (.int j) M = .ok (.bl (decide (j < i))) M := rfl
theorem geD_int (i j : Int) : geD (.int i) (.int j) M = .ok (.bl (decide (j ≤ i))) M := rfl
theorem truC_bl (b : Bool) : truC (.bl b) M = .ok b M := rfl
theorem lenD_tup (xs : List D) : lenD (.tup xs) M = .ok (.int xs.length) M := rfl
theorem lenD_lst {n : Nat} {xs : List D} (h : M[n]? = some (.lst xs)) : lenD (.ref n) M = .ok (.int xs.length) M := by
  unfold lenD
  simp only [getS, getL, h]
theorem lenD_ls (xs : List D) : lenD (.ls xs) M = .ok (.int xs.length) M := rfl
theorem tupleD_lst {n : Nat} {xs : List D} (h : M[n]? = some (.lst xs)) : tupleD (.ref n) M = if xs.length ≤ sizeLine then .ok (.tup xs) M else .bad := by
  unfold tupleD
  simp only [getS, getL, h]
  rfl
theorem listD_tup (xs : List D) : listD (.tup xs) M = if xs.length ≤ sizeLine then .ok (.ref M.length) (M ++ [.lst xs]) else .bad := rfl
theorem wkOf_tup (xs : List D) : wkOf (.tup xs) M = .ok ⟨none, xs⟩ M := rfl
theorem wkOf_lst {n : Nat} {xs : List D} (h : M[n]? = some (.lst xs)) : wkOf (.ref n) M = .ok ⟨some n, xs⟩ M := by
  unfold wkOf
  simp only [h]
theorem eJoin_run (ta tb : ED) : eJoin ta tb s M = match ta s M with
  | .bad => .bad
  | .ok x M1 => (match x with
    | .str a => (match tb s M1 with
      | .bad => .bad
      | .ok y M2 => joinD (.str a) y M2
      | .exc c fs M2 => .exc c fs M2)
    | _ => .bad)
  | .exc c fs M1 => .exc c fs M1 := by
  unfold eJoin
  rw [bind_run]
  cases ta s M with
  | ok d M1 =>
    cases d with
    | str a =>
      simp only [bind_run]
      cases tb s M1 <;> rfl
    | _ => rfl
  | _ => rfl
theorem eLm_run (f : Nat → List D → C D) (ta : ED) (tb : AD) : eLm f ta tb s M = match ta s M with
  | .bad => .bad
  | .ok x M1 => (match x with
    | .ref n => (match M1[n]? with
      | some (.lst _) => (match tb s M1 with
        | .bad => .bad
        | .ok ys M2 => f n ys M2
        | .exc c fs M2 => .exc c fs M2)
      | _ => .bad)
    | _ => .bad)
  | .exc c fs M1 => .exc c fs M1 := by
  unfold eLm
  rw [bind_run]
  cases ta s M with
  | ok d M1 =>
    cases d with
    | ref n =>
      simp only [bind_run]
      cases M1[n]? with
      | none => rfl
      | some o =>
        cases o with
        | lst xs => cases tb s M1 <;> rfl
        | _ => rfl
    | _ => rfl
  | _ => rfl
end
/-! ### what stands below -/
def Clo (M : Mh) : Prop := M.all (lowO M.length) = true
mutual
theorem lowD_mono {n k : Nat} (h : n ≤ k) : ∀ d : D, lowD n d = true → lowD k d = true
  | .tup ds, b => lowDs_mono h ds b
  | .ls ds, b => lowDs_mono h ds b
  | .ref j, b => decide_eq_true (Nat.lt_of_lt_of_le (of_decide_eq_true b) h)
  | .non, _ => rfl
  | .bl _, _ => rfl
  | .int _, _ => rfl
  | .str _, _ => rfl
  | .glo _, _ => rfl
  | .rod _, _ => rfl
theorem lowDs_mono {n k : Nat} (h : n ≤ k) : ∀ ds : List D, lowDs n ds = true → lowDs k ds = true
  | [], _ => rfl
  | d :: ds, b => by
    have b : (lowD n d && lowDs n ds) = true := b
    show (lowD k d && lowDs k ds) = true
    rw [Bool.and_eq_true] at b ⊢
    exact ⟨lowD_mono h d b.1, lowDs_mono h ds b.2⟩
end
theorem lowO_mono {n k : Nat} (h : n ≤ k) {o : MO} (b : lowO n o = true) : lowO k o = true := by
  cases o with
  | lst ds => exact lowDs_mono h _ b
  | dct kvs => exact lowDs_mono h _ b
  | ins c fs => exact lowDs_mono h _ b
theorem Clo.nil : Clo [] := rfl
theorem Clo.snoc {M : Mh} {o : MO} (h : Clo M) (b : lowO (M.length + 1) o = true) : Clo (M ++ [o]) := by
  unfold Clo at h ⊢
  rw [List.all_append, List.length_append, Bool.and_eq_true]
  refine ⟨?_, by simpa using b⟩
  rw [List.all_eq_true] at h ⊢
  exact fun x hx => lowO_mono (Nat.le_add_right _ _) (h x hx)
theorem Clo.set {M : Mh} {o : MO} {n : Nat} (h : Clo M) (b : lowO M.length o = true) : Clo (M.set n o) := by
  unfold Clo at h ⊢
  rw [List.length_set]
  rw [List.all_eq_true] at h ⊢
  intro x hx
  rcases List.mem_or_eq_of_mem_set hx with z | z
  · exact h x z
  · rw [z]; exact b
/-- behind a call: the answer has no new thing in it -/
theorem gc_low {n : Nat} {d : D} {M E : Mh} (h : Clo M) (hn : M.length = n) (b : lowD n d = true) : gcD n d (M ++ E) = .ok d M := by
  unfold gcD
  have e : (M ++ E).take n = M := by rw [← hn, List.take_left']; rfl
  rw [e]
  rw [if_pos ⟨by rw [← hn]; exact h, by rw [List.length_append]; omega⟩, if_pos b]
/-- .. the answer is a new list -/
theorem gc_new {n k : Nat} {o : MO} {M E : Mh} (h : Clo M) (hn : M.length = n) (hk : (M ++ E)[k]? = some o) (hkn : n ≤ k) (b : lowO n o = true) : gcD n (.ref k) (M ++ E) = .ok (.ref n) (M ++ [o]) := by
  unfold gcD
  have e : (M ++ E).take n = M := by rw [← hn, List.take_left']; rfl
  rw [e]
  rw [if_pos ⟨by rw [← hn]; exact h, by rw [List.length_append]; omega⟩, if_neg (by
    show ¬ decide (k < n) = true
    intro z
    have := of_decide_eq_true z
    omega)]
  simp only [hk, if_pos b]
theorem mkFn_ok {slots n : Nat} {b : SD} {ds : List D} {M M' : Mh} {d : D} {s' : Sl} {r : R D} (hn : ds.length = n) (h : b (ds.map some ++ List.replicate (slots - n) none) M = .ok (.rt d, s') M') (hr : gcD M.length d M' = r) : mkFn slots n b ds M = r := by
  unfold mkFn
  rw [if_pos hn, bind_run, noX_run, h]
  exact hr
end Dn

/-! Sy: sayings as a type, their content, sizes -/
namespace Dn
open PySem PySem.Spec PyProof.Rows L2
inductive Sy where
  | letter (w : Str)
  | neg (s : Sy)
  | conj (l : List Sy)
  | disj (l : List Sy)
  | so (s t : Sy)
  | must (h : Str) (s : Sy)
  | may (h : Str) (s : Sy)
  | told (s t : Sy)
mutual
def enc : Sy → D
  | .letter w => .tup [.str "letter", .str w]
  | .neg s => .tup [.str "not", enc s]
  | .conj l => .tup [.str "and", .tup (encs l)]
  | .disj l => .tup [.str "or", .tup (encs l)]
  | .so s t => .tup [.str "so", enc s, enc t]
  | .must h s => .tup [.str "must", .str h, enc s]
  | .may h s => .tup [.str "may", .str h, enc s]
  | .told s t => .tup [.str "told", enc s, enc t]
def encs : List Sy → List D
  | [] => []
  | s :: l => enc s :: encs l
end
theorem encs_map : ∀ l : List Sy, encs l = l.map enc
  | [] => rfl
  | s :: l => by rw [encs, encs_map l]; rfl
theorem encs_len : ∀ l : List Sy, (encs l).length = l.length
  | [] => rfl
  | s :: l => by rw [encs, List.length_cons, List.length_cons, encs_len l]
mutual
/-- how many -/
def Sy.sz : Sy → Nat
  | .letter _ => 1
  | .neg s => s.sz + 1
  | .conj l => szs l + 1
  | .disj l => szs l + 1
  | .so s t => s.sz + t.sz + 1
  | .must _ s => s.sz + 1
  | .may _ s => s.sz + 1
  | .told s t => s.sz + t.sz + 1
def szs : List Sy → Nat
  | [] => 0
  | s :: l => s.sz + szs l
end
mutual
/-- how deep -/
def Sy.dep : Sy → Nat
  | .letter _ => 1
  | .neg s => s.dep + 1
  | .conj l => deps l + 1
  | .disj l => deps l + 1
  | .so s t => max s.dep t.dep + 1
  | .must _ s => s.dep + 1
  | .may _ s => s.dep + 1
  | .told s t => max s.dep t.dep + 1
def deps : List Sy → Nat
  | [] => 0
  | s :: l => max s.dep (deps l)
end
mutual
def Sy.okw (P : Str → Prop) : Sy → Prop
  | .letter w => P w
  | .neg s => s.okw P
  | .conj l => okws P l
  | .disj l => okws P l
  | .so s t => s.okw P ∧ t.okw P
  | .must h s => P h ∧ s.okw P
  | .may h s => P h ∧ s.okw P
  | .told s t => s.okw P ∧ t.okw P
def okws (P : Str → Prop) : List Sy → Prop
  | [] => True
  | s :: l => s.okw P ∧ okws P l
end
mutual
def Sy.plain : Sy → Bool
  | .letter _ => true
  | .neg s => s.plain
  | .conj l => plains l
  | .disj l => plains l
  | .so s t => s.plain && t.plain
  | .must _ s => s.plain
  | .may _ s => s.plain
  | .told _ _ => false
def plains : List Sy → Bool
  | [] => true
  | s :: l => s.plain && plains l
end
mutual
/-- how many beside the letters -/
def Sy.ins : Sy → Nat
  | .letter _ => 0
  | .neg s => s.ins + 1
  | .conj l => inss l + 1
  | .disj l => inss l + 1
  | .so s t => s.ins + t.ins + 1
  | .must _ s => s.ins + 1
  | .may _ s => s.ins + 1
  | .told s t => s.ins + t.ins + 1
def inss : List Sy → Nat
  | [] => 0
  | s :: l => s.ins + inss l
end
mutual
/-- three at most side by side -/
def Sy.ar3 : Sy → Prop
  | .letter _ => True
  | .neg s => s.ar3
  | .conj l => ar3s l ∧ l.length ≤ 3
  | .disj l => ar3s l ∧ l.length ≤ 3
  | .so s t => s.ar3 ∧ t.ar3
  | .must _ s => s.ar3
  | .may _ s => s.ar3
  | .told s t => s.ar3 ∧ t.ar3
def ar3s : List Sy → Prop
  | [] => True
  | s :: l => s.ar3 ∧ ar3s l
end
theorem sz_pos : ∀ s : Sy, 1 ≤ s.sz := by
  intro s; cases s <;> simp only [Sy.sz] <;> omega
theorem dep_pos : ∀ s : Sy, 1 ≤ s.dep := by
  intro s; cases s <;> simp only [Sy.dep] <;> omega
mutual
theorem dep_le_sz : ∀ s : Sy, s.dep ≤ s.sz
  | .letter _ => Nat.le_refl _
  | .neg s => by have := dep_le_sz s; simp only [Sy.dep, Sy.sz]; omega
  | .conj l => by have := deps_le_szs l; simp only [Sy.dep, Sy.sz]; omega
  | .disj l => by have := deps_le_szs l; simp only [Sy.dep, Sy.sz]; omega
  | .so s t => by have := dep_le_sz s; have := dep_le_sz t; simp only [Sy.dep, Sy.sz]; omega
  | .must _ s => by have := dep_le_sz s; simp only [Sy.dep, Sy.sz]; omega
  | .may _ s => by have := dep_le_sz s; simp only [Sy.dep, Sy.sz]; omega
  | .told s t => by have := dep_le_sz s; have := dep_le_sz t; simp only [Sy.dep, Sy.sz]; omega
theorem deps_le_szs : ∀ l : List Sy, deps l ≤ szs l
  | [] => Nat.le_refl _
  | s :: l => by have := dep_le_sz s; have := deps_le_szs l; simp only [deps, szs]; omega
end
/-! no changing thing in it -/
mutual
theorem enc_low (n : Nat) : ∀ s : Sy, lowD n (enc s) = true
  | .letter _ => rfl
  | .neg s => by simp only [enc, lowD, lowDs, enc_low n s, Bool.and_self]
  | .conj l => by simp only [enc, lowD, lowDs, encs_low n l, Bool.and_self]
  | .disj l => by simp only [enc, lowD, lowDs, encs_low n l, Bool.and_self]
  | .so s t => by simp only [enc, lowD, lowDs, enc_low n s, enc_low n t, Bool.and_self]
  | .must _ s => by simp only [enc, lowD, lowDs, enc_low n s, Bool.and_self]
  | .may _ s => by simp only [enc, lowD, lowDs, enc_low n s, Bool.and_self]
  | .told s t => by simp only [enc, lowD, lowDs, enc_low n s, enc_low n t, Bool.and_self]
theorem encs_low (n : Nat) : ∀ l : List Sy, lowDs n (encs l) = true
  | [] => rfl
  | s :: l => by simp only [encs, lowDs, enc_low n s, encs_low n l, Bool.and_self]
end
/-! as data -/
mutual
def dat : Sy → PyData
  | .letter w => .tuple [.str "letter", .str w]
  | .neg s => .tuple [.str "not", dat s]
  | .conj l => .tuple [.str "and", .tuple (dats l)]
  | .disj l => .tuple [.str "or", .tuple (dats l)]
  | .so s t => .tuple [.str "so", dat s, dat t]
  | .must h s => .tuple [.str "must", .str h, dat s]
  | .may h s => .tuple [.str "may", .str h, dat s]
  | .told s t => .tuple [.str "told", dat s, dat t]
def dats : List Sy → List PyData
  | [] => []
  | s :: l => dat s :: dats l
end
mutual
theorem enc_dat (h : Nat → Option PyData) : ∀ s : Sy, toP h (enc s) = some (dat s)
  | .letter _ => rfl
  | .neg s => by simp only [enc, dat, toP, toPs, enc_dat h s, Option.map_some]
  | .conj l => by simp only [enc, dat, toP, toPs, encs_dat h l, Option.map_some]
  | .disj l => by simp only [enc, dat, toP, toPs, encs_dat h l, Option.map_some]
  | .so s t => by simp only [enc, dat, toP, toPs, enc_dat h s, enc_dat h t, Option.map_some]
  | .must _ s => by simp only [enc, dat, toP, toPs, enc_dat h s, Option.map_some]
  | .may _ s => by simp only [enc, dat, toP, toPs, enc_dat h s, Option.map_some]
  | .told s t => by simp only [enc, dat, toP, toPs, enc_dat h s, enc_dat h t, Option.map_some]
theorem encs_dat (h : Nat → Option PyData) : ∀ l : List Sy, toPs h (encs l) = some (dats l)
  | [] => rfl
  | s :: l => by simp only [encs, dats, toPs, enc_dat h s, encs_dat h l]
end
theorem data_enc (M : Mh) (s : Sy) : dataOf M (enc s) = some (dat s) := enc_dat _ s
mutual
theorem dat_showable : ∀ s : Sy, (dat s).showable = true
  | .letter _ => by simp only [dat, PyData.showable, PyData.showableAll, Bool.and_self]
  | .neg s => by simp only [dat, PyData.showable, PyData.showableAll, dat_showable s, Bool.and_self]
  | .conj l => by simp only [dat, PyData.showable, PyData.showableAll, dats_showable l, Bool.and_self]
  | .disj l => by simp only [dat, PyData.showable, PyData.showableAll, dats_showable l, Bool.and_self]
  | .so s t => by simp only [dat, PyData.showable, PyData.showableAll, dat_showable s, dat_showable t, Bool.and_self]
  | .must _ s => by simp only [dat, PyData.showable, PyData.showableAll, dat_showable s, Bool.and_self]
  | .may _ s => by simp only [dat, PyData.showable, PyData.showableAll, dat_showable s, Bool.and_self]
  | .told s t => by simp only [dat, PyData.showable, PyData.showableAll, dat_showable s, dat_showable t, Bool.and_self]
theorem dats_showable : ∀ l : List Sy, PyData.showableAll (dats l) = true
  | [] => by simp only [dats, PyData.showableAll]
  | s :: l => by simp only [dats, PyData.showableAll, dat_showable s, dats_showable l, Bool.and_self]
end
mutual
theorem dat_noDict : ∀ s : Sy, (dat s).hasDict = false
  | .letter _ => by simp only [dat, PyData.hasDict, PyData.hasDictAll, Bool.or_self]
  | .neg s => by simp only [dat, PyData.hasDict, PyData.hasDictAll, dat_noDict s, Bool.or_self]
  | .conj l => by simp only [dat, PyData.hasDict, PyData.hasDictAll, dats_noDict l, Bool.or_self]
  | .disj l => by simp only [dat, PyData.hasDict, PyData.hasDictAll, dats_noDict l, Bool.or_self]
  | .so s t => by simp only [dat, PyData.hasDict, PyData.hasDictAll, dat_noDict s, dat_noDict t, Bool.or_self]
  | .must _ s => by simp only [dat, PyData.hasDict, PyData.hasDictAll, dat_noDict s, Bool.or_self]
  | .may _ s => by simp only [dat, PyData.hasDict, PyData.hasDictAll, dat_noDict s, Bool.or_self]
  | .told s t => by simp only [dat, PyData.hasDict, PyData.hasDictAll, dat_noDict s, dat_noDict t, Bool.or_self]
theorem dats_noDict : ∀ l : List Sy, PyData.hasDictAll (dats l) = false
  | [] => by simp only [dats, PyData.hasDictAll]
  | s :: l => by simp only [dats, PyData.hasDictAll, dat_noDict s, dats_noDict l, Bool.or_self]
end
mutual
theorem dat_depth : ∀ s : Sy, (dat s).depth ≤ 2 * s.dep
  | .letter _ => by simp only [dat, PyData.depth, PyData.depthAll, Sy.dep]; omega
  | .neg s => by have := dat_depth s; simp only [dat, PyData.depth, PyData.depthAll, Sy.dep]; omega
  | .conj l => by have := dats_depth l; simp only [dat, PyData.depth, PyData.depthAll, Sy.dep]; omega
  | .disj l => by have := dats_depth l; simp only [dat, PyData.depth, PyData.depthAll, Sy.dep]; omega
  | .so s t => by have := dat_depth s; have := dat_depth t; simp only [dat, PyData.depth, PyData.depthAll, Sy.dep]; omega
  | .must _ s => by have := dat_depth s; simp only [dat, PyData.depth, PyData.depthAll, Sy.dep]; omega
  | .may _ s => by have := dat_depth s; simp only [dat, PyData.depth, PyData.depthAll, Sy.dep]; omega
  | .told s t => by have := dat_depth s; have := dat_depth t; simp only [dat, PyData.depth, PyData.depthAll, Sy.dep]; omega
theorem dats_depth : ∀ l : List Sy, PyData.depthAll (dats l) ≤ 2 * deps l
  | [] => by simp only [dats, PyData.depthAll, deps]; omega
  | s :: l => by have := dat_depth s; have := dats_depth l; simp only [dats, PyData.depthAll, deps]; omega
end
/-! how long it is shown -/
def Shrt (w : Str) : Prop := w.length ≤ 8 ∧ (reprText w).length ≤ 20 ∧ PyData.strOk w = true
theorem join2_len (ts : List Str) : (Str.join ", " ts).length ≤ piled ts := by
  by_cases h : ts = []
  · subst h; exact Nat.zero_le _
  · have := join_length_add ts h
    omega
theorem tupleText_len (ts : List Str) : (tupleText ts).length ≤ piled ts + 4 := by
  unfold tupleText
  have := join2_len ts
  rw [Str.length_append, Str.length_append]
  have h1 : ("(" : Str).length = 1 := by decide +kernel
  have h2 : ((if ts.length == 1 then ",)" else ")" : String) : Str).length ≤ 2 := by split <;> decide +kernel
  rw [h1]
  omega
theorem listText_len (ts : List Str) : (listText ts).length ≤ piled ts + 4 := by
  unfold listText
  rw [Str.length_append]
  have h2 : ("]" : Str).length = 1 := by decide +kernel
  rw [h2]
  cases ts with
  | nil =>
    have : (textFrom 0 "[" []).length = 1 := by decide +kernel
    rw [this]; omega
  | cons t r =>
    have : textFrom 0 "[" (t :: r) = textFrom 1 ("[" ++ t) r := by first | rfl | simp [textFrom]
    rw [this, textFrom_length_pos r 1 _ (by omega), Str.length_append, piled_cons]
    have h3 : ("[" : Str).length = 1 := by decide +kernel
    rw [h3]
    omega
theorem r_letter : (reprText "letter").length = 8 := by decide +kernel
theorem r_not : (reprText "not").length = 5 := by decide +kernel
theorem r_and : (reprText "and").length = 5 := by decide +kernel
theorem r_or : (reprText "or").length = 4 := by decide +kernel
theorem r_so : (reprText "so").length = 4 := by decide +kernel
theorem r_must : (reprText "must").length = 6 := by decide +kernel
theorem r_may : (reprText "may").length = 5 := by decide +kernel
theorem r_told : (reprText "told").length = 6 := by decide +kernel
mutual
theorem shown_len : ∀ s : Sy, s.okw Shrt → (dat s).shown.length + 2 ≤ 64 * s.sz
  | .letter w, h => by
    have h : Shrt w := h
    have := h.2.1
    simp only [dat, PyData.shown, PyData.shownAll, Sy.sz]
    have t := tupleText_len [reprText "letter", reprText w]
    simp only [piled_cons, piled_nil, r_letter] at t
    omega
  | .neg s, h => by
    have ih := shown_len s h
    simp only [dat, PyData.shown, PyData.shownAll, Sy.sz]
    have t := tupleText_len [reprText "not", (dat s).shown]
    simp only [piled_cons, piled_nil, r_not] at t
    omega
  | .conj l, h => by
    have ih := showns_len l h
    simp only [dat, PyData.shown, PyData.shownAll, Sy.sz]
    have t := tupleText_len [reprText "and", tupleText (PyData.shownAll (dats l))]
    have t2 := tupleText_len (PyData.shownAll (dats l))
    simp only [piled_cons, piled_nil, r_and] at t
    omega
  | .disj l, h => by
    have ih := showns_len l h
    simp only [dat, PyData.shown, PyData.shownAll, Sy.sz]
    have t := tupleText_len [reprText "or", tupleText (PyData.shownAll (dats l))]
    have t2 := tupleText_len (PyData.shownAll (dats l))
    simp only [piled_cons, piled_nil, r_or] at t
    omega
  | .so s u, h => by
    have ih := shown_len s h.1
    have ih2 := shown_len u h.2
    simp only [dat, PyData.shown, PyData.shownAll, Sy.sz]
    have t := tupleText_len [reprText "so", (dat s).shown, (dat u).shown]
    simp only [piled_cons, piled_nil, r_so] at t
    omega
  | .must w s, h => by
    have hw : Shrt w := h.1
    have := hw.2.1
    have ih := shown_len s h.2
    simp only [dat, PyData.shown, PyData.shownAll, Sy.sz]
    have t := tupleText_len [reprText "must", reprText w, (dat s).shown]
    simp only [piled_cons, piled_nil, r_must] at t
    omega
  | .may w s, h => by
    have hw : Shrt w := h.1
    have := hw.2.1
    have ih := shown_len s h.2
    simp only [dat, PyData.shown, PyData.shownAll, Sy.sz]
    have t := tupleText_len [reprText "may", reprText w, (dat s).shown]
    simp only [piled_cons, piled_nil, r_may] at t
    omega
  | .told s u, h => by
    have ih := shown_len s h.1
    have ih2 := shown_len u h.2
    simp only [dat, PyData.shown, PyData.shownAll, Sy.sz]
    have t := tupleText_len [reprText "told", (dat s).shown, (dat u).shown]
    simp only [piled_cons, piled_nil, r_told] at t
    omega
theorem showns_len : ∀ l : List Sy, okws Shrt l → piled (PyData.shownAll (dats l)) ≤ 64 * szs l
  | [], _ => by simp only [dats, PyData.shownAll, piled_nil, szs]; omega
  | s :: l, h => by
    have ih := shown_len s h.1
    have ih2 := showns_len l h.2
    have := sz_pos s
    simp only [dats, PyData.shownAll, piled_cons, szs]
    omega
end
end Dn

/-! Rn: what a reckoning ends in (for simp, from outside in) -/
namespace Dn
open PySem PySem.Spec PyProof.Rows L2
def Run {α : Type} (r : R α) (Q : α → Mh → Prop) : Prop := match r with
  | .ok a M => Q a M
  | _ => False
section
variable {α β : Type} {M : Mh} {s : Sl} {Q : α → Mh → Prop} {QD : D → Mh → Prop} {QL : List D → Mh → Prop} {QB : Bool → Mh → Prop} {QS : FL × Sl → Mh → Prop} {QG : Sl → Mh → Prop} {QW : Wk → Mh → Prop}
theorem Run.eq {r : R α} (h : Run r Q) : ∃ a M', r = .ok a M' ∧ Q a M' := by
  cases r with
  | ok a M => exact ⟨a, M, rfl, h⟩
  | _ => exact h.elim
theorem Run.mono {Q' : α → Mh → Prop} {r : R α} (h : Run r Q) (i : ∀ a M, Q a M → Q' a M) : Run r Q' := by
  cases r with
  | ok a M => exact i a M h
  | _ => exact h.elim
theorem Run.of {r : R α} {a : α} {M' : Mh} (h : r = .ok a M') (q : Q a M') : Run r Q := by rw [h]; exact q
theorem run_ok (a : α) : Run (.ok a M) Q = Q a M := rfl
theorem run_bad : Run (.bad : R α) Q = False := rfl
theorem run_exc {c : Str} {fs : List (Str × D)} : Run (.exc c fs M : R α) Q = False := rfl
theorem run_ret (a : α) : Run (C.ret a M) Q = Q a M := rfl
theorem run_badC : Run ((C.bad : C α) M) Q = False := rfl
theorem run_bind (f : C β) (g : β → C α) : Run (f.bind g M) Q = Run (f M) fun a M1 => Run (g a M1) Q := by
  rw [bind_run]; cases f M <;> rfl
theorem run_noX (f : C α) : Run (f.noX M) Q = Run (f M) Q := by
  rw [noX_run]; cases f M <;> rfl
theorem run_if {c : Prop} [Decidable c] (x y : R α) : Run (if c then x else y) Q = if c then Run x Q else Run y Q := by
  split <;> rfl
theorem run_eOp (f : D → D → C D) (ta tb : ED) : Run (eOp f ta tb s M) QD = Run (ta s M) fun x M1 => Run (tb s M1) fun y M2 => Run (f x y M2) QD := by
  unfold eOp; rw [run_bind]; congr; funext x M1; rw [run_bind]
theorem run_eUn (f : D → C D) (ta : ED) : Run (eUn f ta s M) QD = Run (ta s M) fun x M1 => Run (f x M1) QD := by
  unfold eUn; rw [run_bind]
theorem run_eCb (f : List D → C D) (ta : AD) : Run (eCb f ta s M) QD = Run (ta s M) fun x M1 => Run (f x M1) QD := by
  unfold eCb; rw [run_bind]
theorem run_aNil : Run (aNil s M) QL = QL [] M := rfl
theorem run_aCons (ta : ED) (tr : AD) : Run (aCons ta tr s M) QL = Run (ta s M) fun x M1 => Run (tr s M1) fun xs M2 => QL (x :: xs) M2 := by
  unfold aCons; rw [run_bind]; congr; funext x M1; rw [run_bind]; rfl
theorem run_eVar {i : Nat} {d : D} (h : s[i]? = some (some d)) : Run (eVar i s M) QD = QD d M := by rw [eVar_run, h]; rfl
theorem run_eC (d : D) : Run (eC d s M) QD = QD d M := rfl
theorem run_asB (t : C D) : Run (t.asB M) QB = Run (t M) fun d M1 => ∃ b, d = .bl b ∧ QB b M1 := by
  rw [asB_run]
  cases t M with
  | ok d M1 =>
    cases d with
    | bl b =>
      show QB b M1 = ∃ b', D.bl b = .bl b' ∧ QB b' M1
      exact propext ⟨fun h => ⟨b, rfl, h⟩, fun ⟨b', e, h⟩ => by cases e; exact h⟩
    | _ => exact (propext ⟨fun h => h.elim, fun ⟨b', e, h⟩ => by cases e⟩)
  | _ => rfl
theorem ex_bl (b : Bool) (p : Bool → Prop) : (∃ b', D.bl b = .bl b' ∧ p b') = p b := propext ⟨fun ⟨b', e, h⟩ => by cases e; exact h, fun h => ⟨b, rfl, h⟩⟩
theorem run_tCmpD (f : D → D → C D) (ta tb : ED) : Run (tCmpD f ta tb s M) QB = Run (ta s M) fun x M1 => Run (tb s M1) fun y M2 => Run (f x y M2) fun d M3 => ∃ b, d = .bl b ∧ QB b M3 := by
  unfold tCmpD; rw [run_asB, run_eOp]
theorem run_tTruD (ta : ED) : Run (tTruD ta s M) QB = Run (ta s M) fun x M1 => Run (truC x M1) QB := by
  unfold tTruD; rw [run_bind]
theorem run_tAndD (t u : TD) : Run (tAndD t u s M) QB = Run (t s M) fun b M1 => if b = true then Run (u s M1) QB else QB false M1 := by
  rw [tAndD_run]
  cases t s M with
  | ok b M1 => cases b <;> rfl
  | _ => rfl
theorem run_tOrD (t u : TD) : Run (tOrD t u s M) QB = Run (t s M) fun b M1 => if b = true then QB true M1 else Run (u s M1) QB := by
  rw [tOrD_run]
  cases t s M with
  | ok b M1 => cases b <;> rfl
  | _ => rfl
theorem run_tNotD (t : TD) : Run (tNotD t s M) QB = Run (t s M) fun b M1 => QB (!b) M1 := by
  unfold tNotD; rw [run_bind]; rfl
theorem run_tYesD : Run (tYesD s M) QB = QB true M := rfl
theorem run_eIf (t : TD) (ta tb : ED) : Run (eIf t ta tb s M) QD = Run (t s M) fun b M1 => if b = true then Run (ta s M1) QD else Run (tb s M1) QD := by
  rw [eIf_run]
  cases t s M with
  | ok b M1 => cases b <;> rfl
  | _ => rfl
theorem run_eAnd (ta tb : ED) : Run (eAnd ta tb s M) QD = Run (ta s M) fun d M1 => ∃ b, d = .bl b ∧ if b = true then Run (tb s M1) QD else QD (.bl false) M1 := by
  rw [eAnd_run]
  cases ta s M with
  | ok d M1 => cases d with
    | bl b => show _ = ∃ b', _; rw [ex_bl]; cases b <;> rfl
    | _ => exact (propext ⟨fun h => h.elim, fun ⟨b', e, h⟩ => by cases e⟩)
  | _ => rfl
theorem run_eOr (ta tb : ED) : Run (eOr ta tb s M) QD = Run (ta s M) fun d M1 => ∃ b, d = .bl b ∧ if b = true then QD (.bl true) M1 else Run (tb s M1) QD := by
  rw [eOr_run]
  cases ta s M with
  | ok d M1 => cases d with
    | bl b => show _ = ∃ b', _; rw [ex_bl]; cases b <;> rfl
    | _ => exact (propext ⟨fun h => h.elim, fun ⟨b', e, h⟩ => by cases e⟩)
  | _ => rfl
theorem run_notD (b : Bool) : Run (notD (.bl b) M) QD = QD (.bl (!b)) M := rfl
theorem run_eSl (te : ED) (tl th : OD) : Run (eSl te tl th s M) QD = Run (te s M) fun x M1 => Run (tl s M1) fun l M2 => Run (th s M2) fun u M3 => Run (slD x l u M3) QD := by
  unfold eSl; rw [run_bind]; congr; funext x M1; rw [run_bind]; congr; funext l M2; rw [run_bind]
theorem run_oNone {QO : Option Int → Mh → Prop} : Run (oNone s M) QO = QO none M := rfl
theorem run_oInt {QO : Option Int → Mh → Prop} (i : Int) : Run (oSome (eC (.int i)) s M) QO = QO (some i) M := rfl
/-! statements -/
theorem run_sRet (te : ED) : Run (sRet te s M) QS = Run (te s M) fun d M1 => QS (.rt d, s) M1 := by
  unfold sRet; rw [run_bind]; rfl
theorem run_sRetN : Run (sRetN s M) QS = QS (.rt .non, s) M := rfl
theorem run_sExp (te : ED) : Run (sExp te s M) QS = Run (te s M) fun d M1 => QS (.nx, s) M1 := by
  unfold sExp; rw [run_bind]; rfl
theorem run_sNx : Run (sNx s M) QS = QS (.nx, s) M := rfl
theorem run_sBk : Run (sBk s M) QS = QS (.bk, s) M := rfl
theorem run_sCt : Run (sCt s M) QS = QS (.ct, s) M := rfl
theorem run_sIf (tc : TD) (t u : SD) : Run (sIf tc t u s M) QS = Run (tc s M) fun b M1 => if b = true then Run (t s M1) QS else Run (u s M1) QS := by
  rw [sIf_run]
  cases tc s M with
  | ok b M1 => cases b <;> rfl
  | _ => rfl
/-- the end of a sequence's first part -/
def After (u : SD) (Q : FL × Sl → Mh → Prop) : FL × Sl → Mh → Prop := fun r M1 => match r.1 with
  | .nx => Run (u r.2 M1) Q
  | f => Q (f, r.2) M1
theorem after_nx (u : SD) : After u QS (.nx, s) M = Run (u s M) QS := rfl
theorem after_rt (u : SD) (d : D) : After u QS (.rt d, s) M = QS (.rt d, s) M := rfl
theorem after_bk (u : SD) : After u QS (.bk, s) M = QS (.bk, s) M := rfl
theorem after_ct (u : SD) : After u QS (.ct, s) M = QS (.ct, s) M := rfl
theorem run_sSeq (t u : SD) : Run (sSeq t u s M) QS = Run (t s M) (After u QS) := by
  rw [sSeq_run]
  cases t s M with
  | ok r M1 => obtain ⟨f, s1⟩ := r; cases f <;> rfl
  | _ => rfl
theorem run_sAsg (te : ED) (g : GD) : Run (sAsg te g s M) QS = Run (te s M) fun d M1 => Run (g d s M1) fun s' M2 => QS (.nx, s') M2 := by
  unfold sAsg; rw [run_bind]; congr; funext x M1; rw [run_bind]; rfl
theorem run_gNm (i : Nat) (d : D) : Run (gNm i d s M) QG = QG (s.set i (some d)) M := rfl
theorem run_gsNil : Run (gsNil [] s M) QG = QG s M := rfl
theorem run_gsCons (g : GD) (gs : GDs) (d : D) (ds : List D) : Run (gsCons g gs (d :: ds) s M) QG = Run (g d s M) fun s1 M1 => Run (gs ds s1 M1) QG := by
  show Run ((g d s).bind (fun s1 => gs ds s1) M) QG = _
  rw [run_bind]
theorem run_gSb (to ti : ED) (d : D) : Run (gSb to ti d s M) QG = Run (to s M) fun o M1 => Run (ti s M1) fun i M2 => Run (setD o i d M2) fun _ M3 => QG s M3 := by
  unfold gSb; rw [run_bind]; congr; funext x M1; rw [run_bind]; congr; funext l M2; rw [run_bind]; rfl
theorem run_gTp_tup {n : Nat} (gs : GDs) {ds : List D} (h : ds.length = n) : Run (gTp n gs (.tup ds) s M) QG = Run (gs ds s M) QG := by rw [gTp_tup, if_pos h]
theorem run_gTp_str {n : Nat} (gs : GDs) {z : Str} (h : z.cps.size = n) : Run (gTp n gs (.str z) s M) QG = Run (gs (signsD z) s M) QG := by rw [gTp_str, if_pos h]
theorem run_gSt {k : Nat} (gs : GDs) {ds : List D} (h : k ≤ ds.length) : Run (gSt k gs (.tup ds) s M) QG = Run (gs (ds.take k ++ [.ref M.length]) s (M ++ [.lst (ds.drop k)])) QG := by rw [gSt_tup, if_pos h]
theorem run_sPar {is : List Nat} (ta : AD) : Run (sPar is ta s M) QS = Run (ta s M) fun ds M1 => ds.length = is.length ∧ QS (.nx, (is.zip ds).foldl (fun s p => s.set p.1 (some p.2)) s) M1 := by
  rw [sPar_run]
  cases ta s M with
  | ok ds M1 =>
    show Run (if _ then _ else _) QS = _
    by_cases h : ds.length = is.length
    · rw [if_pos h]; exact propext ⟨fun q => ⟨h, q⟩, fun q => q.2⟩
    · rw [if_neg h]; exact propext ⟨fun q => q.elim, fun q => (h q.1).elim⟩
  | _ => rfl
theorem run_sFor (tw : WD) (g : GD) (body : SD) : Run (sFor tw g body s M) QS = Run (tw s M) fun w M1 => Run (loopD w g body w.items s M1) QS := by
  unfold sFor; rw [run_bind]
theorem run_eComp (vs : List Nat) (tw : WD) (g : GD) (tt : TD) (te : ED) : Run (eComp vs tw g tt te s M) QD = Run (tw s M) fun w M1 => w.items.length < sizeLine ∧ Run (compL w g tt te (wipeD s vs) w.items [] M1) fun xs M2 => QD (.ref M2.length) (M2 ++ [.lst xs]) := by
  unfold eComp; rw [run_bind]; congr; funext w M1
  by_cases h : w.items.length < sizeLine
  · rw [if_pos h, run_bind]; exact propext ⟨fun q => ⟨h, q⟩, fun q => q.2⟩
  · rw [if_neg h]; exact propext ⟨fun q => q.elim, fun q => (h q.1).elim⟩
/-! operators -/
theorem run_newT (xs : List D) : Run (newT xs M) QD = (xs.length ≤ sizeLine ∧ QD (.tup xs) M) := by
  rw [newT_run]
  by_cases h : xs.length ≤ sizeLine
  · rw [if_pos h]; exact propext ⟨fun q => ⟨h, q⟩, fun q => q.2⟩
  · rw [if_neg h]; exact propext ⟨fun q => q.elim, fun q => (h q.1).elim⟩
theorem run_newL (xs : List D) : Run (newL xs M) QD = (xs.length ≤ sizeLine ∧ QD (.ref M.length) (M ++ [.lst xs])) := by
  rw [newL_run]
  by_cases h : xs.length ≤ sizeLine
  · rw [if_pos h]; exact propext ⟨fun q => ⟨h, q⟩, fun q => q.2⟩
  · rw [if_neg h]; exact propext ⟨fun q => q.elim, fun q => (h q.1).elim⟩
theorem run_one1 (f : D → C D) (d : D) : Run (one1 f [d] M) QD = Run (f d M) QD := rfl
theorem run_eqD (a b : D) : Run (eqD a b M) QD = Run (eqC a b M) fun r M1 => QD (.bl r) M1 := by
  unfold eqD; rw [run_bind]; rfl
theorem run_neD (a b : D) : Run (neD a b M) QD = Run (eqC a b M) fun r M1 => QD (.bl (!r)) M1 := by
  unfold neD; rw [run_bind]; rfl
theorem run_eqC_str (a b : Str) : Run (eqC (.str a) (.str b) M) QB = QB (decide (a = b)) M := rfl
theorem run_eqC_int (a b : Int) : Run (eqC (.int a) (.int b) M) QB = QB (decide (a = b)) M := rfl
theorem run_eqC_bl (a b : Bool) : Run (eqC (.bl a) (.bl b) M) QB = QB (decide (a = b)) M := rfl
theorem run_inE (a b : D) : Run (inE a b M) QD = Run (inCE a b M) fun r M1 => QD (.bl r) M1 := by
  unfold inE; rw [run_bind]; rfl
theorem run_ninE (a b : D) : Run (ninE a b M) QD = Run (inCE a b M) fun r M1 => QD (.bl (!r)) M1 := by
  unfold ninE; rw [run_bind]; rfl
theorem run_inCE_rod (a : Str) (kvs : List (Str × Str)) : Run (inCE (.str a) (.rod kvs) M) QB = QB (kvs.lookup a).isSome M := rfl
theorem run_inCE_tup (x : D) (ds : List D) (h : (flatD x && ds.all flatD) = true) : Run (inCE x (.tup ds) M) QB = QB (inF x ds) M := by
  rw [inCE_tup x ds h]; rfl
theorem run_ixE_rod {k v : Str} {kvs : List (Str × Str)} (h : kvs.lookup k = some v) : Run (ixE (.rod kvs) (.str k) M) QD = QD (.str v) M := by rw [ixE_rod, h]; rfl
theorem run_ixE_tup {xs : List D} {i : Int} {d : D} (h : atD xs i = some d) : Run (ixE (.tup xs) (.int i) M) QD = QD d M := by rw [ixE_tup, h]; rfl
theorem run_ixE_ls {xs : List D} {i : Int} {d : D} (h : atD xs i = some d) : Run (ixE (.ls xs) (.int i) M) QD = QD d M := by rw [ixE_ls, h]; rfl
theorem run_ixE_lst {n : Nat} {xs : List D} {i : Int} {d : D} (h : M[n]? = some (.lst xs)) (h2 : atD xs i = some d) : Run (ixE (.ref n) (.int i) M) QD = QD d M := by rw [ixE_lst i h, h2]; rfl
theorem run_ixE_dct {n : Nat} {kvs : List (Key × D)} {y d : D} (h : M[n]? = some (.dct kvs)) (h2 : (keyD y).bind (dLook kvs) = some d) : Run (ixE (.ref n) y M) QD = QD d M := by rw [ixE_dct y h, h2]; rfl
theorem run_addD_int (i j : Int) : Run (addD (.int i) (.int j) M) QD = QD (.int (i + j)) M := rfl
theorem run_addD_str (x y : Str) : Run (addD (.str x) (.str y) M) QD = (x.length + y.length ≤ sizeLine ∧ QD (.str (x ++ y)) M) := by
  rw [addD_str]
  by_cases h : x.length + y.length ≤ sizeLine
  · rw [if_pos h]; exact propext ⟨fun q => ⟨h, q⟩, fun q => q.2⟩
  · rw [if_neg h]; exact propext ⟨fun q => q.elim, fun q => (h q.1).elim⟩
theorem run_addD_tup (x y : List D) : Run (addD (.tup x) (.tup y) M) QD = (x.length + y.length ≤ sizeLine ∧ QD (.tup (x ++ y)) M) := by
  rw [addD_tup]
  by_cases h : x.length + y.length ≤ sizeLine
  · rw [if_pos h]; exact propext ⟨fun q => ⟨h, q⟩, fun q => q.2⟩
  · rw [if_neg h]; exact propext ⟨fun q => q.elim, fun q => (h q.1).elim⟩
theorem run_addD_lst {n k : Nat} {xs ys : List D} (h : M[n]? = some (.lst xs)) (h' : M[k]? = some (.lst ys)) : Run (addD (.ref n) (.ref k) M) QD = ((xs ++ ys).length ≤ sizeLine ∧ QD (.ref M.length) (M ++ [.lst (xs ++ ys)])) := by
  rw [addD_lst h h']
  by_cases h : (xs ++ ys).length ≤ sizeLine
  · rw [if_pos h]; exact propext ⟨fun q => ⟨h, q⟩, fun q => q.2⟩
  · rw [if_neg h]; exact propext ⟨fun q => q.elim, fun q => (h q.1).elim⟩
theorem run_subD_int (i j : Int) : Run (subD (.int i) (.int j) M) QD = QD (.int (i - j)) M := rfl
theorem run_mulD_int (i j : Int) : Run (mulD (.int i) (.int j) M) QD = (CMul i j ∧ QD (.int (i * j)) M) := by
  rw [mulD_int]
  by_cases h : CMul i j
  · rw [if_pos h]; exact propext ⟨fun q => ⟨h, q⟩, fun q => q.2⟩
  · rw [if_neg h]; exact propext ⟨fun q => q.elim, fun q => (h q.1).elim⟩
theorem run_fdivD_int (i j : Int) : Run (fdivD (.int i) (.int j) M) QD = (CDivN i j ∧ QD (.int (i.fdiv j)) M) := by
  rw [fdivD_int]
  by_cases h : CDivN i j
  · rw [if_pos h]; exact propext ⟨fun q => ⟨h, q⟩, fun q => q.2⟩
  · rw [if_neg h]; exact propext ⟨fun q => q.elim, fun q => (h q.1).elim⟩
theorem run_modD_int (i j : Int) : Run (modD (.int i) (.int j) M) QD = (j ≠ 0 ∧ QD (.int (i.fmod j)) M) := by
  rw [modD_int]
  by_cases h : j ≠ 0
  · rw [if_pos h]; exact propext ⟨fun q => ⟨h, q⟩, fun q => q.2⟩
  · rw [if_neg h]; exact propext ⟨fun q => q.elim, fun q => (h q.1).elim⟩
theorem run_powD_int (i j : Int) : Run (powD (.int i) (.int j) M) QD = (CPow i j ∧ QD (.int (i ^ j.toNat)) M) := by
  rw [powD_int]
  by_cases h : CPow i j
  · rw [if_pos h]; exact propext ⟨fun q => ⟨h, q⟩, fun q => q.2⟩
  · rw [if_neg h]; exact propext ⟨fun q => q.elim, fun q => (h q.1).elim⟩
theorem run_ltD_int (i j : Int) : Run (ltD (.int i) (.int j) M) QD = QD (.bl (decide (i < j))) M := rfl
theorem run_leD_int (i j : Int) : Run (leD (.int i) (.int j) M) QD = QD (.bl (decide (i ≤ j))) M := rfl
theorem run_gtD_int (i j : Int) : Run (gtD (.int i) (.int j) M) QD = QD (.bl (decide (j < i))) M := rfl
theorem run_geD_int (i j : Int) : Run (geD (.int i) (.int j) M) QD = QD (.bl (decide (j ≤ i))) M := rfl
theorem run_truC_bl (b : Bool) : Run (truC (.bl b) M) QB = QB b M := rfl
theorem run_lenD_tup (xs : List D) : Run (lenD (.tup xs) M) QD = QD (.int xs.length) M := rfl
theorem run_lenD_lst {n : Nat} {xs : List D} (h : M[n]? = some (.lst xs)) : Run (lenD (.ref n) M) QD = QD (.int xs.length) M := by rw [lenD_lst h]; rfl
theorem run_tupleD_lst {n : Nat} {xs : List D} (h : M[n]? = some (.lst xs)) : Run (tupleD (.ref n) M) QD = (xs.length ≤ sizeLine ∧ QD (.tup xs) M) := by
  rw [tupleD_lst h]
  by_cases h : xs.length ≤ sizeLine
  · rw [if_pos h]; exact propext ⟨fun q => ⟨h, q⟩, fun q => q.2⟩
  · rw [if_neg h]; exact propext ⟨fun q => q.elim, fun q => (h q.1).elim⟩
theorem run_listD_tup (xs : List D) : Run (listD (.tup xs) M) QD = (xs.length ≤ sizeLine ∧ QD (.ref M.length) (M ++ [.lst xs])) := run_newL xs
theorem run_wkOf_tup (xs : List D) : Run (wkOf (.tup xs) M) QW = QW ⟨none, xs⟩ M := rfl
theorem run_wkOf_lst {n : Nat} {xs : List D} (h : M[n]? = some (.lst xs)) : Run (wkOf (.ref n) M) QW = QW ⟨some n, xs⟩ M := by rw [wkOf_lst h]; rfl
theorem run_rng1 {j : Int} (h : -(2 ^ 62) ≤ j ∧ j < 2 ^ 62) : Run (rng1 [.int j] M) QW = QW ⟨none, (List.range j.toNat).map fun i => .int (0 + (i : Nat))⟩ M := by
  show Run ((if _ then _ else _ : C Wk) M) QW = _
  rw [if_pos h]; rfl
theorem run_eJoin (ta tb : ED) : Run (eJoin ta tb s M) QD = Run (ta s M) fun x M1 => ∃ a, x = .str a ∧ Run (tb s M1) fun y M2 => Run (joinD (.str a) y M2) QD := by
  rw [eJoin_run]
  cases ta s M with
  | ok d M1 =>
    cases d with
    | str a =>
      show Run (match tb s M1 with | .bad => .bad | .ok y M2 => joinD (.str a) y M2 | .exc c fs M2 => .exc c fs M2) QD = ∃ b, D.str a = .str b ∧ Run (tb s M1) fun y M2 => Run (joinD (.str b) y M2) QD
      refine propext ⟨fun h => ⟨a, rfl, ?_⟩, fun ⟨b, e, h⟩ => ?_⟩
      · cases e2 : tb s M1 <;> rw [e2] at h <;> exact h
      · cases e; cases e2 : tb s M1 <;> rw [e2] at h <;> exact h
    | _ => exact (propext ⟨fun h => h.elim, fun ⟨b', e, h⟩ => by cases e⟩)
  | _ => rfl
theorem ex_str (b : Str) (p : Str → Prop) : (∃ b', D.str b = .str b' ∧ p b') = p b := propext ⟨fun ⟨b', e, h⟩ => by cases e; exact h, fun h => ⟨b, rfl, h⟩⟩
theorem run_eLm {f : Nat → List D → C D} (ta : ED) (tb : AD) : Run (eLm f ta tb s M) QD = Run (ta s M) fun x M1 => ∃ n, x = .ref n ∧ (∃ xs, M1[n]? = some (.lst xs)) ∧ Run (tb s M1) fun ys M2 => Run (f n ys M2) QD := by
  rw [eLm_run]
  cases ta s M with
  | ok d M1 =>
    cases d with
    | ref n =>
      refine propext ⟨fun h => ⟨n, rfl, ?_⟩, fun ⟨b, e, ⟨xs, e3⟩, h⟩ => ?_⟩
      · show _ ∧ _
        have h : Run (match M1[n]? with | some (.lst _) => (match tb s M1 with | .bad => .bad | .ok ys M2 => f n ys M2 | .exc c fs M2 => .exc c fs M2) | _ => .bad) QD := h
        cases e3 : M1[n]? with
        | none => rw [e3] at h; exact h.elim
        | some o =>
          rw [e3] at h
          cases o with
          | lst xs =>
            refine ⟨⟨xs, rfl⟩, ?_⟩
            have h : Run (match tb s M1 with | .bad => .bad | .ok ys M2 => f n ys M2 | .exc c fs M2 => .exc c fs M2) QD := h
            cases e2 : tb s M1 <;> rw [e2] at h <;> exact h
          | _ => exact h.elim
      · cases e
        show Run (match M1[n]? with | some (.lst _) => (match tb s M1 with | .bad => .bad | .ok ys M2 => f n ys M2 | .exc c fs M2 => .exc c fs M2) | _ => .bad) QD
        rw [e3]
        show Run (match tb s M1 with | .bad => .bad | .ok ys M2 => f n ys M2 | .exc c fs M2 => .exc c fs M2) QD
        cases e2 : tb s M1 <;> rw [e2] at h <;> exact h
    | _ => exact (propext ⟨fun h => h.elim, fun ⟨b', e, h⟩ => by cases e⟩)
  | _ => rfl
theorem ex_ref (b : Nat) (p : Nat → Prop) : (∃ b', D.ref b = .ref b' ∧ p b') = p b := propext ⟨fun ⟨b', e, h⟩ => by cases e; exact h, fun h => ⟨b, rfl, h⟩⟩
theorem run_setD {n : Nat} {xs : List D} {k : Int} {j : Nat} {v : D} {QU : Unit → Mh → Prop} (h : M[n]? = some (.lst xs)) (h2 : ixN xs.length k = some j) : Run (setD (.ref n) (.int k) v M) QU = QU () (M.set n (.lst (xs.set j v))) := by
  unfold setD; simp only [h, h2]; rfl
theorem run_reprD {p : PyData} {d : D} (h : dataOf M d = some p) : Run (reprD d M) QD = ((p.showable = true ∧ p.hasDict = false ∧ p.depth ≤ 64 ∧ p.shown.length ≤ sizeLine) ∧ QD (.str p.shown) M) := by
  unfold reprD; simp only [h]
  split
  · rename_i h; exact propext ⟨fun q => ⟨h, q⟩, fun q => q.2⟩
  · rename_i h; exact propext ⟨fun q => q.elim, fun q => (h q.1).elim⟩
/-- a def -/
theorem run_mkFn {slots n : Nat} {b : SD} {ds : List D} (hn : ds.length = n) (h : Run (b (ds.map some ++ List.replicate (slots - n) none) M) fun r M' => (∃ d, r.1 = .rt d ∧ Run (gcD M.length d M') QD) ∨ (r.1 = .nx ∧ Run (gcD M.length .non M') QD)) : Run (mkFn slots n b ds M) QD := by
  unfold mkFn
  rw [if_pos hn, run_bind, run_noX]
  refine h.mono ?_
  rintro ⟨f, s'⟩ M' (⟨d, e, q⟩ | ⟨e, q⟩)
  · have e : f = .rt d := e
    subst e; exact q
  · have e : f = .nx := e
    subst e; exact q
end
end Dn

/-! Ev: more steps for simp -/
namespace Dn
open PySem PySem.Spec PyProof.Rows L2
section
variable {M : Mh} {s : Sl}
theorem ixE_ref (n : Nat) (y : D) : ixE (.ref n) y M = match M[n]? with
  | some (.dct kvs) => (match (keyD y).bind (dLook kvs) with
    | some d => .ok d M
    | none => .bad)
  | some (.lst xs) => (match y with
    | .int i => (match atD xs i with
      | some d => .ok d M
      | none => .bad)
    | _ => ixD (.ref n) y M)
  | _ => ixD (.ref n) y M := by
  unfold ixE
  simp only
  cases e : M[n]? with
  | none => rfl
  | some o =>
    cases o with
    | lst xs =>
      cases y with
      | int i =>
        simp only
        have h := ixE_lst (M := M) i e
        unfold ixE at h
        simp only [e] at h
        exact h
      | _ => rfl
    | _ => rfl
theorem lenD_ref (n : Nat) : lenD (.ref n) M = match M[n]? with
  | some (.lst xs) => .ok (.int xs.length) M
  | _ => .bad := by
  unfold lenD getS getL
  simp only
  cases M[n]? with
  | none => rfl
  | some o => cases o <;> rfl
theorem tupleD_ref (n : Nat) : tupleD (.ref n) M = match M[n]? with
  | some (.lst xs) => newT xs M
  | _ => .bad := by
  unfold tupleD getS getL
  simp only
  cases M[n]? with
  | none => rfl
  | some o => cases o <;> rfl
theorem tupleD_tup (xs : List D) : tupleD (.tup xs) M = newT xs M := rfl
theorem listD_ref (n : Nat) : listD (.ref n) M = match M[n]? with
  | some (.lst xs) => newL xs M
  | _ => .bad := by
  unfold listD getS getL
  simp only
  cases M[n]? with
  | none => rfl
  | some o => cases o <;> rfl
theorem wkOf_ref (n : Nat) : wkOf (.ref n) M = match M[n]? with
  | some (.lst xs) => .ok ⟨some n, xs⟩ M
  | _ => .bad := by
  unfold wkOf
  simp only
  all_goals (cases M[n]? with
    | none => rfl
    | some o => cases o <;> rfl)
theorem addD_ref (n k : Nat) : addD (.ref n) (.ref k) M = match M[n]? with
  | some (.lst xs) => (match M[k]? with
    | some (.lst ys) => newL (xs ++ ys) M
    | _ => .bad)
  | _ => .bad := by
  unfold addD
  simp only
  cases M[n]? with
  | none => rfl
  | some o =>
    cases o with
    | lst xs =>
      cases M[k]? with
      | none => rfl
      | some o => cases o <;> rfl
    | _ => rfl
def setL (xs : List D) (k : Int) (v : D) : Option (List D) := (ixN xs.length k).map fun j => xs.set j v
theorem setD_ref (n : Nat) (k : Int) (v : D) : setD (.ref n) (.int k) v M = match M[n]? with
  | some (.lst xs) => (match setL xs k v with
    | some ys => .ok () (M.set n (.lst ys))
    | none => .bad)
  | _ => .bad := by
  unfold setD setL
  simp only
  cases M[n]? with
  | none => rfl
  | some o =>
    cases o with
    | lst xs =>
      simp only
      cases ixN xs.length k <;> rfl
    | _ => rfl
theorem ixN_lit (n j : Nat) : ixN n (Int.ofNat j) = if j < n then some j else none := by
  unfold ixN
  rw [if_pos (by exact Int.natCast_nonneg j)]
  by_cases h : j < n
  · rw [if_pos (by exact Int.ofNat_lt.mpr h), if_pos h]; rfl
  · rw [if_neg (by intro z; exact h (Int.ofNat_lt.mp z)), if_neg h]
theorem atD_0 (a : D) (l : List D) : atD (a :: l) 0 = some a := by
  unfold atD
  have : ixN (a :: l).length 0 = some 0 := (ixN_lit _ 0).trans (if_pos (by simp))
  rw [this]; rfl
theorem atD_1 (a b : D) (l : List D) : atD (a :: b :: l) 1 = some b := by
  unfold atD
  have : ixN (a :: b :: l).length 1 = some 1 := (ixN_lit _ 1).trans (if_pos (by simp))
  rw [this]; rfl
theorem atD_2 (a b c : D) (l : List D) : atD (a :: b :: c :: l) 2 = some c := by
  unfold atD
  have : ixN (a :: b :: c :: l).length 2 = some 2 := (ixN_lit _ 2).trans (if_pos (by simp))
  rw [this]; rfl
theorem atD_3 (a b c d : D) (l : List D) : atD (a :: b :: c :: d :: l) 3 = some d := by
  unfold atD
  have : ixN (a :: b :: c :: d :: l).length 3 = some 3 := (ixN_lit _ 3).trans (if_pos (by simp))
  rw [this]; rfl
theorem atD_4 (a b c d e : D) (l : List D) : atD (a :: b :: c :: d :: e :: l) 4 = some e := by
  unfold atD
  have : ixN (a :: b :: c :: d :: e :: l).length 4 = some 4 := (ixN_lit _ 4).trans (if_pos (by simp))
  rw [this]; rfl
theorem atD_get {xs : List D} {j : Nat} {d : D} (h : xs[j]? = some d) : atD xs (Int.ofNat j) = some d := by
  unfold atD
  rw [ixN_lit, if_pos (List.getElem?_eq_some_iff.mp h).1]
  exact h
theorem setL_0 (a v : D) (l : List D) : setL (a :: l) 0 v = some (v :: l) := by
  unfold setL
  have : ixN (a :: l).length 0 = some 0 := (ixN_lit _ 0).trans (if_pos (by simp))
  rw [this]; rfl
theorem setL_1 (a b v : D) (l : List D) : setL (a :: b :: l) 1 v = some (a :: v :: l) := by
  unfold setL
  have : ixN (a :: b :: l).length 1 = some 1 := (ixN_lit _ 1).trans (if_pos (by simp))
  rw [this]; rfl
theorem setL_2 (a b c v : D) (l : List D) : setL (a :: b :: c :: l) 2 v = some (a :: b :: v :: l) := by
  unfold setL
  have : ixN (a :: b :: c :: l).length 2 = some 2 := (ixN_lit _ 2).trans (if_pos (by simp))
  rw [this]; rfl
theorem setL_3 (a b c d v : D) (l : List D) : setL (a :: b :: c :: d :: l) 3 v = some (a :: b :: c :: v :: l) := by
  unfold setL
  have : ixN (a :: b :: c :: d :: l).length 3 = some 3 := (ixN_lit _ 3).trans (if_pos (by simp))
  rw [this]; rfl
/-! the heap -/
theorem gs_eq {n : Nat} {o : MO} (h : n < M.length) : (M.set n o)[n]? = some o := List.getElem?_set_self h
theorem gs_ne {n k : Nat} {o : MO} (h : n ≠ k) : (M.set n o)[k]? = M[k]? := List.getElem?_set_ne h
theorem ga_lt {E : Mh} {k : Nat} (e : k < M.length) : (M ++ E)[k]? = M[k]? := List.getElem?_append_left e
theorem ga_new {x : MO} : (M ++ [x])[M.length]? = some x := by simp
theorem len_app (x : MO) : List.length (M ++ [x]) = M.length + 1 := by simp
theorem lt_of_get {n : Nat} {o : MO} (h : M[n]? = some o) : n < M.length := (List.getElem?_eq_some_iff.mp h).1
theorem newL_ok {xs : List D} (h : xs.length ≤ sizeLine) : newL xs M = .ok (.ref M.length) (M ++ [.lst xs]) := by rw [newL_run, if_pos h]
theorem newT_ok {xs : List D} (h : xs.length ≤ sizeLine) : newT xs M = .ok (.tup xs) M := by rw [newT_run, if_pos h]
theorem sizeLine_eq : sizeLine = 16777216 := by first | rfl | decide
theorem newL_s {xs : List D} (h : xs.length ≤ 100000) : newL xs M = .ok (.ref M.length) (M ++ [.lst xs]) := newL_ok (by rw [sizeLine_eq]; omega)
theorem newT_s {xs : List D} (h : xs.length ≤ 100000) : newT xs M = .ok (.tup xs) M := newT_ok (by rw [sizeLine_eq]; omega)
theorem mulD_ok {i j : Int} (h : CMul i j) : mulD (.int i) (.int j) M = .ok (.int (i * j)) M := by rw [mulD_int, if_pos h]
theorem fdivD_ok {i j : Int} (h : CDivN i j) : fdivD (.int i) (.int j) M = .ok (.int (i.fdiv j)) M := by rw [fdivD_int, if_pos h]
theorem modD_ok {i j : Int} (h : j ≠ 0) : modD (.int i) (.int j) M = .ok (.int (i.fmod j)) M := by rw [modD_int, if_pos h]
theorem powD_ok {i j : Int} (h : CPow i j) : powD (.int i) (.int j) M = .ok (.int (i ^ j.toNat)) M := by rw [powD_int, if_pos h]
theorem addD_strok {x y : Str} (h : x.length + y.length ≤ sizeLine) : addD (.str x) (.str y) M = .ok (.str (x ++ y)) M := by rw [addD_str, if_pos h]
theorem rng1_ok {j : Int} (h : -(2 ^ 62) ≤ j ∧ j < 2 ^ 62) : rng1 [.int j] M = .ok ⟨none, (List.range j.toNat).map fun i => .int (0 + (i : Nat))⟩ M := by
  show (if _ then _ else _ : C Wk) M = _
  rw [if_pos h]; rfl
theorem slD_ls (xs : List D) (lo hi : Option Int) : slD (.ls xs) lo hi M = newL (cutD xs lo hi) M := rfl
/-! comparing with [] -/
theorem eqC_ref (n k : Nat) : eqC (.ref n) (.ref k) M = match dataOf M (.ref n), dataOf M (.ref k) with
    | some p, some q => if SeqAt.shaped p = true ∧ SeqAt.shaped q = true then .ok (PyData.eqv p q) M else .bad
    | _, _ => .bad := rfl
end
end Dn

/-! Drw: the feed, and what is drawn from it -/
namespace Dn
open PySem PySem.Spec PyProof.Rows L2
noncomputable def b_feed : SD := (sRet (eCb newL (aCons (eSl (eVar 0) oNone (oSome (eC (.int 63)))) (aCons (eC (.int 0)) (aCons (eC (.int 0)) (aCons (eC (.int 0)) aNil))))))
noncomputable def b_draw : SD := (sSeq (sAsg (eOp addD (eOp ixE (eVar 0) (eC (.int 3))) (eC (.int 1))) (gSb (eVar 0) (eC (.int 3)))) (sSeq (sIf (tCmpD gtD (eOp ixE (eVar 0) (eC (.int 2))) (eC (.int 0))) (sSeq (sAsg (eOp modD (eOp ixE (eVar 0) (eC (.int 2))) (eVar 1)) (gNm 2)) (sSeq (sAsg (eOp fdivD (eOp ixE (eVar 0) (eC (.int 2))) (eVar 1)) (gSb (eVar 0) (eC (.int 2)))) (sRet (eVar 2)))) sNx) (sSeq (sAsg (eC (.int 5)) (gNm 3)) (sSeq (sIf (tCmpD neD (eOp ixE (eVar 0) (eC (.int 0))) (eCb newL aNil)) (sAsg (eOp ixE (eOp ixE (eVar 0) (eC (.int 0))) (eOp modD (eOp ixE (eVar 0) (eC (.int 1))) (eCb (one1 lenD) (aCons (eOp ixE (eVar 0) (eC (.int 0))) aNil)))) (gNm 3)) sNx) (sSeq (sAsg (eOp addD (eOp ixE (eVar 0) (eC (.int 1))) (eC (.int 1))) (gSb (eVar 0) (eC (.int 1)))) (sSeq (sIf (tAndD (tCmpD geD (eVar 3) (eOp powD (eC (.int 10)) (eC (.int 18)))) (tCmpD leD (eOp ixE (eVar 0) (eC (.int 1))) (eCb (one1 lenD) (aCons (eOp ixE (eVar 0) (eC (.int 0))) aNil)))) (sSeq (sAsg (eOp fdivD (eVar 3) (eVar 1)) (gSb (eVar 0) (eC (.int 2)))) (sRet (eOp modD (eVar 3) (eVar 1)))) sNx) (sSeq (sAsg (eOp modD (eOp powD (eOp addD (eOp addD (eOp modD (eVar 3) (eC (.int 2147483629))) (eOp mulD (eC (.int 7919)) (eOp ixE (eVar 0) (eC (.int 3))))) (eC (.int 1))) (eC (.int 5))) (eC (.int 2147483647))) (gNm 4)) (sRet (eOp modD (eOp fdivD (eOp modD (eOp powD (eOp addD (eVar 4) (eOp mulD (eC (.int 104729)) (eOp ixE (eVar 0) (eC (.int 3))))) (eC (.int 5))) (eC (.int 2147483587))) (eC (.int 64))) (eVar 1))))))))))
noncomputable def b_say (dr sy : Fn) : SD := (sSeq (sAsg (eOp subD (eOp ixE (eVar 1) (eC (.int 0))) (eC (.int 1))) (gSb (eVar 1) (eC (.int 0)))) (sSeq (sAsg (eCb dr (aCons (eVar 0) (aCons (eC (.int 14)) aNil))) (gNm 3)) (sSeq (sIf (tOrD (tCmpD ltD (eVar 3) (eC (.int 3))) (tCmpD ltD (eOp ixE (eVar 1) (eC (.int 0))) (eC (.int 1)))) (sRet (eCb newT (aCons (eC (.str "letter")) (aCons (eOp ixE (eCb newL (aCons (eC (.str "a")) (aCons (eC (.str "b")) (aCons (eC (.str "p")) aNil)))) (eCb dr (aCons (eVar 0) (aCons (eC (.int 3)) aNil)))) aNil)))) sNx) (sSeq (sIf (tCmpD inE (eVar 3) (eCb newT (aCons (eC (.int 3)) (aCons (eC (.int 4)) aNil)))) (sRet (eCb newT (aCons (eC (.str "not")) (aCons (eCb sy (aCons (eVar 0) (aCons (eVar 1) (aCons (eVar 2) aNil)))) aNil)))) sNx) (sSeq (sIf (tCmpD ltD (eVar 3) (eC (.int 8))) (sSeq (sAsg (eOp ixE (eCb newL (aCons (eC (.int 2)) (aCons (eC (.int 1)) (aCons (eC (.int 3)) (aCons (eC (.int 2)) (aCons (eC (.int 0)) aNil)))))) (eCb dr (aCons (eVar 0) (aCons (eC (.int 5)) aNil)))) (gNm 4)) (sSeq (sAsg (eComp [7] (fun s => ((aCons (eVar 4) aNil) s).bind rng1) (gNm 7) (tCmpD gtD (eOp ixE (eVar 1) (eC (.int 0))) (eC (.int 0))) (eCb sy (aCons (eVar 0) (aCons (eVar 1) (aCons (eVar 2) aNil))))) (gNm 5)) (sRet (eCb newT (aCons (eOp ixE (eCb newL (aCons (eC (.str "and")) (aCons (eC (.str "or")) aNil))) (eOp modD (eVar 3) (eC (.int 2)))) (aCons (eCb (one1 tupleD) (aCons (eVar 5) aNil)) aNil)))))) sNx) (sSeq (sIf (tOrD (tCmpD inE (eVar 3) (eCb newT (aCons (eC (.int 8)) (aCons (eC (.int 9)) aNil)))) (tAndD (tCmpD eqD (eVar 3) (eC (.int 13))) (tNotD (tTruD (eVar 2))))) (sRet (eCb newT (aCons (eC (.str "so")) (aCons (eCb sy (aCons (eVar 0) (aCons (eVar 1) (aCons (eVar 2) aNil)))) (aCons (eCb sy (aCons (eVar 0) (aCons (eVar 1) (aCons (eVar 2) aNil)))) aNil))))) sNx) (sSeq (sIf (tCmpD eqD (eVar 3) (eC (.int 13))) (sRet (eCb newT (aCons (eC (.str "told")) (aCons (eCb sy (aCons (eVar 0) (aCons (eVar 1) (aCons (eVar 2) aNil)))) (aCons (eCb sy (aCons (eVar 0) (aCons (eVar 1) (aCons (eVar 2) aNil)))) aNil))))) sNx) (sSeq (sAsg (eOp ixE (eCb newL (aCons (eC (.str "h")) (aCons (eC (.str "k")) aNil))) (eCb dr (aCons (eVar 0) (aCons (eC (.int 2)) aNil)))) (gNm 6)) (sRet (eCb newT (aCons (eOp ixE (eCb newL (aCons (eC (.str "must")) (aCons (eC (.str "may")) aNil))) (eOp modD (eVar 3) (eC (.int 2)))) (aCons (eVar 6) (aCons (eCb sy (aCons (eVar 0) (aCons (eVar 1) (aCons (eVar 2) aNil)))) aNil)))))))))))))
theorem set_app {M E : Mh} {n : Nat} {o : MO} (h : n < M.length) : (M ++ E).set n o = M.set n o ++ E := List.set_append_left _ _ h
local macro_rules | `(tactic| walk_at "dn") => `(tactic| simp only [ret_run, bad_run, bind_run, noX_run, asB_run, eOp_run, eUn_run, eCb_run, aNil_run, aCons_run, eVar_run, eC_run, tCmpD_run, tTruD_run, tAndD_run, tOrD_run, tNotD_run, tYesD_run, eIf_run, eAnd_run, eOr_run, notD_run, eSl_run, oNone_run, oSome_run, sRet_run, sRetN_run, sExp_run, sNx_run, sBk_run, sCt_run, sIf_run, sSeq_run, sAsg_run, gNm_run, gsNil_run, gsCons_run, gSb_run, gTp_tup, gTp_str, gSt_tup, sPar_run, sFor_run, eComp_run, newT_s, newL_s, one1_run, eqD_run, neD_run, eqC_str, eqC_int, eqC_bl, inE_run, ninE_run, inCE_rod, inCE_tup, ixE_rod, ixE_tup, ixE_ls, ixE_ref, addD_int, addD_strok, addD_tup, addD_ref, subD_int, mulD_ok, fdivD_ok, modD_ok, powD_ok, ltD_int, leD_int, gtD_int, geD_int, truC_bl, lenD_tup, lenD_ref, lenD_ls, tupleD_ref, listD_tup, wkOf_tup, wkOf_ref, eJoin_run, eLm_run, setD_ref, atD_0, atD_1, atD_2, atD_3, atD_4, setL_0, setL_1, setL_2, setL_3, gs_eq, gs_ne, ga_lt, ga_new, len_app, List.length_set, List.length_map, set_app, List.set_set, decide_eq_true_eq,
  Nat.reduceAdd, Nat.reduceLeDiff, Nat.reduceEqDiff, Nat.reduceSub, String.reduceEq, reduceIte, Int.reduceLE, Nat.le_refl, ofString_inj, List.set_cons_succ, List.set_cons_zero, List.getElem?_cons_succ, List.getElem?_cons_zero, List.length_cons, List.length_nil, decide_true, decide_false, if_true, if_false, Bool.false_eq_true, List.take_succ_cons, List.take_zero, List.drop_succ_cons, List.drop_zero, List.cons_append, List.nil_append, ne_eq, not_false_eq_true, Bool.not_true, Bool.not_false, *])
theorem lay_ints : ∀ ns : List Int, PyData.canLayAll0 (ns.map PyData.int) = true
  | [] => by simp only [List.map_nil, PyData.canLayAll0]
  | n :: r => by simp only [List.map_cons, PyData.canLayAll0, PyData.canLay0, lay_ints r, Bool.and_self]
theorem dep_ints : ∀ ns : List Int, PyData.depthAll (ns.map PyData.int) ≤ 1
  | [] => by simp only [List.map_nil, PyData.depthAll]; omega
  | n :: r => by have := dep_ints r; simp only [List.map_cons, PyData.depthAll, PyData.depth]; omega
theorem toPs_ints (h : Nat → Option PyData) : ∀ ns : List Int, toPs h (ns.map D.int) = some (ns.map PyData.int)
  | [] => rfl
  | n :: r => by simp only [List.map_cons, toPs, toP, toPs_ints h r]
theorem eqC_nil {M : Mh} {n k : Nat} {ns : List Int} (h : M[n]? = some (.lst (ns.map D.int))) (h' : M[k]? = some (.lst [])) : eqC (.ref n) (.ref k) M = .ok (decide (ns = [])) M := by
  have e1 : dataOf M (.ref n) = some (.list (ns.map PyData.int)) := by
    unfold dataOf toP hP; simp only [h, toPs_ints, Option.map_some]
  have e2 : dataOf M (.ref k) = some (.list []) := by
    unfold dataOf toP hP; simp only [h', toPs, Option.map_some]
  rw [eqC_ref]
  simp only [e1, e2]
  rw [if_pos]
  · cases ns with
    | nil => simp only [List.map_nil, PyData.eqv, PyData.eqvAll, decide_true]
    | cons a r => simp only [List.map_cons, PyData.eqv, PyData.eqvAll]; simp
  · constructor
    · unfold SeqAt.shaped
      rw [Bool.and_eq_true]
      refine ⟨by simp only [PyData.canLay0, lay_ints], decide_eq_true ?_⟩
      have := dep_ints ns
      simp only [PyData.depth]; omega
    · decide +kernel
def feedO (c : Nat) (i r n : Int) : MO := .lst [.ref c, .int i, .int r, .int n]
theorem fmod_rng {a m : Int} (h : 1 ≤ m) : 0 ≤ a.fmod m ∧ a.fmod m < m := ⟨Int.fmod_nonneg_of_pos _ (by omega), Int.fmod_lt_of_pos _ (by omega)⟩
theorem fdiv_lt {a : Int} (h0 : 0 ≤ a) (h : a < 2 ^ 32) : 0 ≤ a.fdiv 64 ∧ a.fdiv 64 < 2 ^ 32 := by
  rw [Int.fdiv_eq_ediv_of_nonneg _ (by omega)]; omega
theorem cpow_of {a : Int} {j : Nat} (hj : j ≤ 1000000) (h0 : 0 ≤ a) (h : a < 2 ^ 63) : CPow a j := ⟨by omega, by omega, by omega⟩
theorem cdiv_of {i j : Int} (h : 1 ≤ j) (h2 : j < 1000000) : CDivN i j := ⟨by omega, by omega⟩
theorem cmul_of {i j : Int} (h : 0 ≤ i) (h2 : i < 2 ^ 63) : CMul i j := .inl ⟨by omega, by omega⟩
theorem draw_body {M : Mh} {f c : Nat} {i r n m : Int} {ns : List Int} (hf : M[f]? = some (.lst [.ref c, .int i, .int r, .int n])) (hc : M[c]? = some (.lst (ns.map D.int))) (hfc : ¬ f = c) (hn : 0 ≤ n) (hn2 : n < 2 ^ 40) (hi : 0 ≤ i) (hm : 1 ≤ m) (hm2 : m < 1000000) :
    ∃ q i' r' s' E, b_draw [some (.ref f), some (.int m), none, none, none] M = .ok (.rt (.int q), s') (M.set f (.lst [.ref c, .int i', .int r', .int (n + 1)]) ++ E) ∧ 0 ≤ q ∧ q < m ∧ 0 ≤ i' := by
  have fl : f < List.length M := lt_of_get hf
  have cl : c < List.length M := lt_of_get hc
  have m0 : ¬ m = 0 := by omega
  have a1 : CDivN r m := cdiv_of hm hm2
  have p0 : CPow 10 18 := cpow_of (j := 18) (by omega) (by omega) (by omega)
  have p1 : ∀ x : Int, CPow (x.fmod 2147483629 + 7919 * (n + 1) + 1) 5 := fun x => cpow_of (j := 5) (by omega) (by have := @fmod_rng x 2147483629 (by omega); omega) (by have := @fmod_rng x 2147483629 (by omega); omega)
  have p2 : ∀ x : Int, CPow (x.fmod 2147483647 + 104729 * (n + 1)) 5 := fun x => cpow_of (j := 5) (by omega) (by have := @fmod_rng x 2147483647 (by omega); omega) (by have := @fmod_rng x 2147483647 (by omega); omega)
  have p3 : CMul 7919 (n + 1) := cmul_of (by omega) (by omega)
  have p4 : CMul 104729 (n + 1) := cmul_of (by omega) (by omega)
  have p5 : ∀ x : Int, CDivN x 64 := fun x => cdiv_of (by omega) (by omega)
  have p6 : ∀ x : Int, CDivN x m := fun x => cdiv_of hm hm2
  have p7 : ¬ (2147483629 : Int) = 0 := by omega
  have p8 : ¬ (2147483647 : Int) = 0 := by omega
  have p9 : ¬ (2147483587 : Int) = 0 := by omega
  have hq : ∀ o, eqC (.ref c) (.ref M.length) (M.set f o ++ [.lst []]) = .ok (decide (ns = [])) (M.set f o ++ [.lst []]) := fun o => by
    refine eqC_nil ?_ ?_
    · rw [ga_lt (by rw [List.length_set]; exact cl), gs_ne hfc]; exact hc
    · have := @ga_new (M.set f o) (.lst [])
      rwa [List.length_set] at this
  unfold b_draw
  by_cases hr : 0 < r
  · walk_at "dn"
    exact ⟨_, _, _, _, [], by rw [List.append_nil], (fmod_rng hm).1, (fmod_rng hm).2, hi⟩
  · by_cases he : ns = []
    · have h1 : ¬ (10 : Int) ^ Int.toNat 18 ≤ 5 := by decide
      walk_at "dn"
      exact ⟨_, _, _, _, _, rfl, (fmod_rng hm).1, (fmod_rng hm).2, by omega⟩
    · have nl : ¬ ((ns.length : Int) = 0) := by
        cases ns with
        | nil => exact (he rfl).elim
        | cons a r => simp only [List.length_cons]; omega
      have : ∃ cell, atD (ns.map D.int) (i.fmod ns.length) = some (.int cell) := by
        have b := @fmod_rng i ns.length (by omega)
        obtain ⟨j, hj⟩ := Int.eq_ofNat_of_zero_le b.1
        have hjl : j < ns.length := by omega
        refine ⟨ns[j], ?_⟩
        rw [hj]
        exact atD_get (by rw [List.getElem?_map, List.getElem?_eq_getElem hjl]; rfl)
      obtain ⟨cell, hcell⟩ := this
      by_cases h1 : (10 : Int) ^ Int.toNat 18 ≤ cell
      · by_cases h2 : i + 1 ≤ (ns.length : Int)
        · walk_at "dn"
          exact ⟨_, _, _, _, _, rfl, (fmod_rng hm).1, (fmod_rng hm).2, by omega⟩
        · walk_at "dn"
          exact ⟨_, _, _, _, _, rfl, (fmod_rng hm).1, (fmod_rng hm).2, by omega⟩
      · walk_at "dn"
        exact ⟨_, _, _, _, _, rfl, (fmod_rng hm).1, (fmod_rng hm).2, by omega⟩
end Dn

/-! Say: sayings drawn -/
namespace Dn
open PySem PySem.Spec PyProof.Rows L2
theorem inF_nil (x : D) : inF x [] = false := rfl
theorem inF_int (a b : Int) (l : List D) : inF (.int a) (.int b :: l) = (decide (b = a) || inF (.int a) l) := by
  unfold inF; rw [List.any_cons]
  have : eqF (.int b) (.int a) = decide (b = a) := by
    show (b == a) = _
    by_cases h : b = a
    · subst h; simp
    · rw [decide_eq_false h]; simpa using h
  rw [this]
theorem inF_str (a b : Str) (l : List D) : inF (.str a) (.str b :: l) = (decide (b = a) || inF (.str a) l) := by
  unfold inF; rw [List.any_cons]
  have : eqF (.str b) (.str a) = decide (b = a) := by
    show (b == a) = _
    by_cases h : b = a
    · subst h; simp
    · rw [decide_eq_false h]; simpa using h
  rw [this]
/-- where the feed and the purse stand -/
structure Bs (M : Mh) (f l c : Nat) (ns : List Int) : Prop where
  cl : Clo M
  fl : f < List.length M
  ll : l < List.length M
  cc : M[c]? = some (.lst (ns.map D.int))
  nfl : ¬ f = l
  nfc : ¬ f = c
  nlc : ¬ l = c
def St (M : Mh) (f l c : Nat) (i r n left : Int) (E : Mh) : Mh := (M.set f (.lst [.ref c, .int i, .int r, .int n])).set l (.lst [.int left]) ++ E
section
variable {M : Mh} {f l c : Nat} {ns : List Int}
theorem Bs.lc (b : Bs M f l c ns) : c < List.length M := lt_of_get b.cc
theorem st_len (i r n left : Int) (E : Mh) : List.length (St M f l c i r n left E) = List.length M + List.length E := by
  unfold St; rw [List.length_append, List.length_set, List.length_set]
theorem st_l (b : Bs M f l c ns) (i r n left : Int) (E : Mh) : (St M f l c i r n left E)[l]? = some (.lst [.int left]) := by
  unfold St; rw [ga_lt (by rw [List.length_set, List.length_set]; exact b.ll), gs_eq (by rw [List.length_set]; exact b.ll)]
theorem st_f (b : Bs M f l c ns) (i r n left : Int) (E : Mh) : (St M f l c i r n left E)[f]? = some (.lst [.ref c, .int i, .int r, .int n]) := by
  unfold St; rw [ga_lt (by rw [List.length_set, List.length_set]; exact b.fl), gs_ne (fun e => b.nfl e.symm), gs_eq b.fl]
theorem st_c (b : Bs M f l c ns) (i r n left : Int) (E : Mh) : (St M f l c i r n left E)[c]? = some (.lst (ns.map D.int)) := by
  unfold St; rw [ga_lt (by rw [List.length_set, List.length_set]; exact b.lc), gs_ne b.nlc, gs_ne b.nfc, b.cc]
theorem st_at (i r n left : Int) (E : Mh) (j : Nat) : (St M f l c i r n left E)[List.length M + j]? = E[j]? := by
  unfold St
  rw [List.getElem?_append_right (by rw [List.length_set, List.length_set]; omega), List.length_set, List.length_set]
  congr 1; omega
theorem st_app (i r n left : Int) (E E' : Mh) : St M f l c i r n left E ++ E' = St M f l c i r n left (E ++ E') := by
  unfold St; rw [List.append_assoc]
theorem st_setl (b : Bs M f l c ns) (i r n left x : Int) (E : Mh) : (St M f l c i r n left E).set l (.lst [.int x]) = St M f l c i r n x E := by
  unfold St; rw [List.set_append_left _ _ (by rw [List.length_set, List.length_set]; exact b.ll), List.set_set]
theorem st_setf (b : Bs M f l c ns) (i r n left i' r' n' : Int) (E : Mh) : (St M f l c i r n left E).set f (.lst [.ref c, .int i', .int r', .int n']) = St M f l c i' r' n' left E := by
  unfold St; rw [List.set_append_left _ _ (by rw [List.length_set, List.length_set]; exact b.fl), List.set_comm _ _ (fun e => b.nfl e.symm), List.set_set]
theorem set_self {M : Mh} {n : Nat} {o : MO} (h : M[n]? = some o) : M.set n o = M := by
  obtain ⟨hl, e⟩ := List.getElem?_eq_some_iff.mp h
  rw [← e]; exact List.set_getElem_self hl
theorem st_self {i r n left : Int} (hf : M[f]? = some (.lst [.ref c, .int i, .int r, .int n])) (hl : M[l]? = some (.lst [.int left])) : St M f l c i r n left [] = M := by
  unfold St; rw [set_self hf, set_self hl, List.append_nil]
def lowE (E : Mh) : Bool := E.all (lowO 0)
theorem st_clo (b : Bs M f l c ns) (i r n left : Int) {E : Mh} (h : lowE E = true) : Clo (St M f l c i r n left E) := by
  have h1 : Clo ((M.set f (.lst [.ref c, .int i, .int r, .int n])).set l (.lst [.int left])) := by
    refine Clo.set (Clo.set b.cl ?_) rfl
    show (decide (c < List.length M) && _) = true
    rw [decide_eq_true b.lc]; rfl
  unfold St
  generalize (M.set f (.lst [.ref c, .int i, .int r, .int n])).set l (.lst [.int left]) = N at h1 ⊢
  unfold lowE at h
  induction E generalizing N with
  | nil => rw [List.append_nil]; exact h1
  | cons o E ih =>
    rw [List.all_cons, Bool.and_eq_true] at h
    rw [show N ++ o :: E = (N ++ [o]) ++ E by simp]
    exact ih h.2 _ (h1.snoc (lowO_mono (Nat.zero_le _) h.1))
theorem st_bs (b : Bs M f l c ns) (i r n left : Int) {E : Mh} (h : lowE E = true) : Bs (St M f l c i r n left E) f l c ns :=
  ⟨st_clo b i r n left h, by rw [st_len]; have := b.fl; omega, by rw [st_len]; have := b.ll; omega, st_c b i r n left E, b.nfl, b.nfc, b.nlc⟩
theorem st_st (b : Bs M f l c ns) (i r n left i' r' n' left' : Int) (E : Mh) : St (St M f l c i r n left E) f l c i' r' n' left' [] = St M f l c i' r' n' left' E := by
  show (((St M f l c i r n left E).set f _).set l _) ++ [] = _
  rw [List.append_nil, st_setf b, st_setl b]
theorem st_gc (b : Bs M f l c ns) (i r n left : Int) (E : Mh) {d : D} (h : lowD (List.length M) d = true) : gcD (List.length M) d (St M f l c i r n left E) = .ok d (St M f l c i r n left []) := by
  have h1 := st_clo b i r n left (E := []) rfl
  have e : St M f l c i r n left E = St M f l c i r n left [] ++ E := by rw [st_app, List.nil_append]
  rw [e]
  exact gc_low h1 (by rw [st_len]; rfl) h
end
/-- the spec of a draw -/
def DrawOk (dr : Fn) : Prop := ∀ (M : Mh) (f c : Nat) (ns : List Int) (i r n m : Int), Clo M → M[f]? = some (.lst [.ref c, .int i, .int r, .int n]) → M[c]? = some (.lst (ns.map D.int)) → ¬ f = c → 0 ≤ n → n < 2 ^ 40 → 0 ≤ i → 1 ≤ m → m < 1000000 →
  ∃ q i' r', dr [.ref f, .int m] M = .ok (.int q) (M.set f (.lst [.ref c, .int i', .int r', .int (n + 1)])) ∧ 0 ≤ q ∧ q < m ∧ 0 ≤ i'
theorem draw_ok : DrawOk (mkFn 5 2 b_draw) := by
  intro M f c ns i r n m cl hf hc hfc hn hn2 hi hm hm2
  obtain ⟨q, i', r', s', E, h, h1, h2, h3⟩ := draw_body hf hc hfc hn hn2 hi hm hm2
  refine ⟨q, i', r', mkFn_ok rfl h (gc_low (Clo.set cl ?_) (by rw [List.length_set]) rfl), h1, h2, h3⟩
  show (decide (c < List.length M) && _) = true
  rw [decide_eq_true (lt_of_get hc)]; rfl
theorem draw_st {M : Mh} {f l c : Nat} {ns : List Int} (b : Bs M f l c ns) {dr : Fn} (hd : DrawOk dr) (i r n left m : Int) {E : Mh} (h : lowE E = true) (hn : 0 ≤ n) (hn2 : n < 2 ^ 40) (hi : 0 ≤ i) (hm : 1 ≤ m) (hm2 : m < 1000000) :
    ∃ q i' r', dr [.ref f, .int m] (St M f l c i r n left E) = .ok (.int q) (St M f l c i' r' (n + 1) left E) ∧ 0 ≤ q ∧ q < m ∧ 0 ≤ i' := by
  obtain ⟨q, i', r', h, h1⟩ := hd _ f c ns i r n m (st_clo b i r n left h) (st_f b ..) (st_c b ..) b.nfc hn hn2 hi hm hm2
  exact ⟨q, i', r', by rw [h, st_setf b], h1⟩
def Wds (w : Str) : Prop := w = "a" ∨ w = "b" ∨ w = "p" ∨ w = "h" ∨ w = "k"
/-- what a saying ends in -/
structure SayEnd (n left : Int) (told : Bool) (k : Nat) (sz dep ins : Int) (ar ok : Prop) (pl : Bool) (i' n' left' : Int) : Prop where
  hi : 0 ≤ i'
  hl : left' ≤ left - k
  hz : sz + 3 * ((left' - 1).toNat : Int) ≤ 3 * ((left - 1).toNat : Int) + k
  hn1 : n ≤ n'
  hn2 : n' ≤ n + 2 * sz
  hd : dep ≤ ((left - 1).toNat : Int) + 1
  hw : ok
  hp : told = false → pl = true
  hx : ins + ((left' - 1).toNat : Int) ≤ ((left - 1).toNat : Int)
  ha : ar
def SayOk (sy : Fn) (L : Nat) : Prop := ∀ (M : Mh) (f l c : Nat) (ns : List Int) (i r n left : Int) (told : Bool), Bs M f l c ns → M[f]? = some (.lst [.ref c, .int i, .int r, .int n]) → M[l]? = some (.lst [.int left]) → 0 ≤ i → 0 ≤ n → n + 6 * ((left - 1).toNat : Int) + 2 ≤ 2 ^ 40 → left ≤ L →
  ∃ s i' r' n' left', sy [.ref f, .ref l, .bl told] M = .ok (enc s) (St M f l c i' r' n' left' []) ∧ SayEnd n left told 1 s.sz s.dep s.ins s.ar3 (s.okw Wds) s.plain i' n' left'
theorem say_st {M : Mh} {f l c : Nat} {ns : List Int} (b : Bs M f l c ns) {sy : Fn} {L : Nat} (hs : SayOk sy L) (i r n left : Int) (told : Bool) {E : Mh} (h : lowE E = true) (hi : 0 ≤ i) (hn : 0 ≤ n) (hn2 : n + 6 * ((left - 1).toNat : Int) + 2 ≤ 2 ^ 40) (hl : left ≤ L) :
    ∃ s i' r' n' left', sy [.ref f, .ref l, .bl told] (St M f l c i r n left E) = .ok (enc s) (St M f l c i' r' n' left' E) ∧ SayEnd n left told 1 s.sz s.dep s.ins s.ar3 (s.okw Wds) s.plain i' n' left' := by
  obtain ⟨s, i', r', n', left', e, q⟩ := hs _ f l c ns i r n left told (st_bs b i r n left h) (st_f b ..) (st_l b ..) hi hn hn2 hl
  exact ⟨s, i', r', n', left', by rw [e, st_st b], q⟩
theorem fm_0 : Int.fmod 0 2 = 0 := rfl
theorem fm_1 : Int.fmod 1 2 = 1 := rfl
theorem fm_2 : Int.fmod 2 2 = 0 := rfl
theorem fm_3 : Int.fmod 3 2 = 1 := rfl
theorem fm_4 : Int.fmod 4 2 = 0 := rfl
theorem fm_5 : Int.fmod 5 2 = 1 := rfl
theorem fm_6 : Int.fmod 6 2 = 0 := rfl
theorem fm_7 : Int.fmod 7 2 = 1 := rfl
theorem fm_8 : Int.fmod 8 2 = 0 := rfl
theorem fm_9 : Int.fmod 9 2 = 1 := rfl
theorem fm_10 : Int.fmod 10 2 = 0 := rfl
theorem fm_11 : Int.fmod 11 2 = 1 := rfl
theorem fm_12 : Int.fmod 12 2 = 0 := rfl
theorem fm_13 : Int.fmod 13 2 = 1 := rfl
theorem rng1_s {M : Mh} {j : Int} (h0 : 0 ≤ j) (h : j ≤ 1000) : rng1 [.int j] M = .ok ⟨none, (List.range j.toNat).map fun i => .int (0 + (i : Nat))⟩ M := rng1_ok ⟨by omega, by omega⟩
theorem stays_none {M : Mh} {xs : List D} : Stays ⟨none, xs⟩ M ↔ True := ⟨fun _ => trivial, fun _ n e => nomatch e⟩
local macro_rules | `(tactic| walk_at "dn") => `(tactic| simp only [ret_run, bad_run, bind_run, noX_run, asB_run, eOp_run, eUn_run, eCb_run, aNil_run, aCons_run, eVar_run, eC_run, tCmpD_run, tTruD_run, tAndD_run, tOrD_run, tNotD_run, tYesD_run, eIf_run, eAnd_run, eOr_run, notD_run, eSl_run, oNone_run, oSome_run, sRet_run, sRetN_run, sExp_run, sNx_run, sBk_run, sCt_run, sIf_run, sSeq_run, sAsg_run, gNm_run, gsNil_run, gsCons_run, gSb_run, gTp_tup, gTp_str, gSt_tup, sPar_run, sFor_run, eComp_run, newT_s, newL_s, one1_run, eqD_run, neD_run, eqC_str, eqC_int, eqC_bl, inE_run, ninE_run, inCE_rod, inCE_tup, ixE_rod, ixE_tup, ixE_ls, ixE_ref, addD_int, addD_strok, addD_tup, addD_ref, subD_int, mulD_ok, fdivD_ok, modD_ok, powD_ok, ltD_int, leD_int, gtD_int, geD_int, truC_bl, lenD_tup, lenD_ref, lenD_ls, tupleD_ref, listD_tup, wkOf_tup, wkOf_ref, eJoin_run, eLm_run, setD_ref, atD_0, atD_1, atD_2, atD_3, atD_4, setL_0, setL_1, setL_2, setL_3, gs_eq, gs_ne, ga_lt, ga_new, len_app, List.length_set, List.length_map, set_app, List.set_set, decide_eq_true_eq, inF_nil, inF_int, inF_str, flatD, List.all_cons, List.all_nil, Bool.and_true, Bool.and_self, Bool.or_false, Bool.or_true, Bool.true_or, Bool.false_or, Int.reduceEq, Int.reduceLT, Int.reduceMod, Int.reduceNeg, st_len, st_app, st_at, wipeD, rng1_s, sizeLine_eq, Nat.reduceLT, Int.reduceToNat, List.length_range, compL_cons, compL_nil, stays_none, List.set_nil, fm_0, fm_1, fm_2, fm_3, fm_4, fm_5, fm_6, fm_7, fm_8, fm_9, fm_10, fm_11, fm_12, fm_13,
  Nat.reduceAdd, Nat.reduceLeDiff, Nat.reduceEqDiff, Nat.reduceSub, String.reduceEq, reduceIte, Int.reduceLE, Nat.le_refl, ofString_inj, List.set_cons_succ, List.set_cons_zero, List.getElem?_cons_succ, List.getElem?_cons_zero, List.length_cons, List.length_nil, decide_true, decide_false, if_true, if_false, Bool.false_eq_true, List.take_succ_cons, List.take_zero, List.drop_succ_cons, List.drop_zero, List.cons_append, List.nil_append, ne_eq, not_false_eq_true, Bool.not_true, Bool.not_false, *])


theorem say_comp {M : Mh} {f l c : Nat} {ns : List Int} (b : Bs M f l c ns) {sy : Fn} {L : Nat} (hs : SayOk sy L) (told : Bool) {a3 a4 a5 a6 : Option D} (xs : List D) : ∀ (ds acc : List D) (i r n left : Int) (E : Mh), lowE E = true → 0 ≤ i → 0 ≤ n → n + 6 * ((left - 1).toNat : Int) + 2 * (ds.length : Int) ≤ 2 ^ 40 → left ≤ L →
    ∃ l' i' r' n' left', compL ⟨none, xs⟩ (gNm 7) (tCmpD gtD (eOp ixE (eVar 1) (eC (.int 0))) (eC (.int 0))) (eCb sy (aCons (eVar 0) (aCons (eVar 1) (aCons (eVar 2) aNil)))) [some (.ref f), some (.ref l), some (.bl told), a3, a4, a5, a6, none] ds acc (St M f l c i r n left E) = .ok (acc ++ encs l') (St M f l c i' r' n' left' E) ∧ 0 ≤ i' ∧ left' ≤ left ∧ (szs l' : Int) + 3 * ((left' - 1).toNat : Int) ≤ 3 * ((left - 1).toNat : Int) + ds.length ∧ n ≤ n' ∧ n' ≤ n + 2 * szs l' ∧ (deps l' : Int) ≤ ((left - 1).toNat : Int) + 1 ∧ okws Wds l' ∧ (told = false → plains l' = true) ∧ l'.length ≤ ds.length ∧ (inss l' : Int) + ((left' - 1).toNat : Int) ≤ ((left - 1).toNat : Int) ∧ ar3s l'
  | [], acc, i, r, n, left, E, hE, hi, hn, hn2, hL => by
    refine ⟨[], i, r, n, left, ?_, hi, Int.le_refl _, ?_, Int.le_refl _, ?_, ?_, trivial, fun _ => rfl, Nat.le_refl _, by simp only [inss]; omega, trivial⟩
    · walk_at "dn"
      simp only [encs, List.append_nil]
    · simp only [szs, List.length_nil]; omega
    · simp only [szs]; omega
    · simp only [deps]; omega
  | d :: ds, acc, i, r, n, left, E, hE, hi, hn, hn2, hL => by
    have gl := @st_l M f l c ns b
    simp only [List.length_cons] at hn2 ⊢
    by_cases hp : 0 < left
    · obtain ⟨s, i1, r1, n1, left1, e1, q⟩ := say_st b hs i r n left told hE hi hn (by omega) hL
      have := q.hi; have := q.hl; have := q.hz; have := q.hn1; have := q.hn2; have := q.hd; have := q.hx
      obtain ⟨l', i2, r2, n2, left2, e2, c1, c2, c3, c4, c5, c6, c7, c8, c9, c10, c11⟩ := say_comp b hs told (a3 := a3) (a4 := a4) (a5 := a5) (a6 := a6) xs ds (acc ++ [enc s]) i1 r1 n1 left1 E hE q.hi (by omega) (by omega) (by omega)
      refine ⟨s :: l', i2, r2, n2, left2, ?_, c1, by omega, ?_, by omega, ?_, ?_, ⟨q.hw, c7⟩, fun z => ?_, ?_, by simp only [inss]; omega, ⟨q.ha, c11⟩⟩
      · rw [compL_cons]
        walk_at "dn"
        simp only [encs, List.append_assoc, List.cons_append, List.nil_append]
      · simp only [szs]; omega
      · simp only [szs]; omega
      · simp only [deps]; omega
      · simp only [plains, q.hp z, c8 z, Bool.and_self]
      · simp only [List.length_cons]; omega
    · obtain ⟨l', i2, r2, n2, left2, e2, c1, c2, c3, c4, c5, c6, c7, c8, c9, c10, c11⟩ := say_comp b hs told (a3 := a3) (a4 := a4) (a5 := a5) (a6 := a6) xs ds acc i r n left E hE hi hn (by omega) hL
      refine ⟨l', i2, r2, n2, left2, ?_, c1, by omega, by omega, by omega, c5, c6, c7, c8, by omega, c10, c11⟩
      rw [compL_cons]
      walk_at "dn"
theorem say_body {M : Mh} {f l c : Nat} {ns : List Int} (b : Bs M f l c ns) {dr sy : Fn} {L : Nat} (hd : DrawOk dr) (i r n left : Int) (told : Bool) (hs : 2 ≤ left → SayOk sy L) (hi : 0 ≤ i) (hn : 0 ≤ n) (hn2 : n + 6 * ((left - 1).toNat : Int) + 2 ≤ 2 ^ 40) (hL : left ≤ L + 1) :
    ∃ s s' i' r' n' left' E, b_say dr sy [some (.ref f), some (.ref l), some (.bl told), none, none, none, none, none] (St M f l c i r n left []) = .ok (.rt (enc s), s') (St M f l c i' r' n' left' E) ∧ SayEnd n left told 1 s.sz s.dep s.ins s.ar3 (s.okw Wds) s.plain i' n' left' := by
  have gl := @st_l M f l c ns b
  have gsl := @st_setl M f l c ns b
  obtain ⟨q, i1, r1, e1, q0, q1, hi1⟩ := draw_st b hd i r n (left - 1) 14 (E := []) rfl hn (by omega) hi (by omega) (by omega)
  by_cases hlet : q < 3 ∨ left - 1 < 1
  · obtain ⟨q2, i2, r2, e2, q20, q21, hi2⟩ := draw_st b hd i1 r1 (n + 1) (left - 1) 3 (E := [.lst [.str "a", .str "b", .str "p"]]) rfl (by omega) (by omega) hi1 (by omega) (by omega)
    have hq2 : q2 = 0 ∨ q2 = 1 ∨ q2 = 2 := by omega
    have fin : ∀ w, Wds w → SayEnd n left told 1 (Sy.letter w).sz (Sy.letter w).dep (Sy.letter w).ins (Sy.letter w).ar3 ((Sy.letter w).okw Wds) (Sy.letter w).plain i2 (n + 1 + 1) (left - 1) := fun w hw =>
      ⟨hi2, by omega, by simp only [Sy.sz]; omega, by omega, by simp only [Sy.sz]; omega, by simp only [Sy.dep]; omega, hw, fun _ => rfl, by simp only [Sy.ins]; omega, trivial⟩
    unfold b_say
    by_cases h3 : q < 3
    · rcases hq2 with rfl | rfl | rfl
      · walk_at "dn"
        exact ⟨.letter "a", _, _, _, _, _, _, rfl, fin _ (.inl rfl)⟩
      · walk_at "dn"
        exact ⟨.letter "b", _, _, _, _, _, _, rfl, fin _ (.inr (.inl rfl))⟩
      · walk_at "dn"
        exact ⟨.letter "p", _, _, _, _, _, _, rfl, fin _ (.inr (.inr (.inl rfl)))⟩
    · have h4 : left - 1 < 1 := by omega
      rcases hq2 with rfl | rfl | rfl
      · walk_at "dn"
        exact ⟨.letter "a", _, _, _, _, _, _, rfl, fin _ (.inl rfl)⟩
      · walk_at "dn"
        exact ⟨.letter "b", _, _, _, _, _, _, rfl, fin _ (.inr (.inl rfl))⟩
      · walk_at "dn"
        exact ⟨.letter "p", _, _, _, _, _, _, rfl, fin _ (.inr (.inr (.inl rfl)))⟩
  · have h4 : ¬ left - 1 < 1 := by omega
    have hs := hs (by omega)
    have hq : (q = 3 ∨ q = 4) ∨ (q = 5 ∨ q = 6 ∨ q = 7) ∨ (q = 8 ∨ q = 9) ∨ (q = 10 ∨ q = 11 ∨ q = 12) ∨ q = 13 := by omega
    rcases hq with hq | hq | hq | hq | hq
    · -- not
      obtain ⟨s, i2, r2, n2, left2, e2, z⟩ := say_st b hs i1 r1 (n + 1) (left - 1) told (E := []) rfl hi1 (by omega) (by omega) (by omega)
      have := z.hi; have := z.hl; have := z.hz; have := z.hn1; have := z.hn2; have := z.hd
      have fin : SayEnd n left told 1 (Sy.neg s).sz (Sy.neg s).dep (Sy.neg s).ins (Sy.neg s).ar3 ((Sy.neg s).okw Wds) (Sy.neg s).plain i2 n2 left2 :=
        ⟨z.hi, by omega, by simp only [Sy.sz]; omega, by omega, by simp only [Sy.sz]; omega, by simp only [Sy.dep]; omega, z.hw, z.hp, by have := z.hx; simp only [Sy.ins]; omega, z.ha⟩
      unfold b_say
      rcases hq with rfl | rfl
      · walk_at "dn"
        exact ⟨.neg s, _, _, _, _, _, _, rfl, fin⟩
      · walk_at "dn"
        exact ⟨.neg s, _, _, _, _, _, _, rfl, fin⟩
    · -- some
      obtain ⟨q2, i2, r2, e2, q20, q21, hi2⟩ := draw_st b hd i1 r1 (n + 1) (left - 1) 5 (E := [.lst [.int 2, .int 1, .int 3, .int 2, .int 0]]) rfl (by omega) (by omega) hi1 (by omega) (by omega)
      have hq2 : ∃ many : Int, atD [D.int 2, .int 1, .int 3, .int 2, .int 0] q2 = some (.int many) ∧ 0 ≤ many ∧ many ≤ 3 := by
        have : q2 = 0 ∨ q2 = 1 ∨ q2 = 2 ∨ q2 = 3 ∨ q2 = 4 := by omega
        rcases this with rfl | rfl | rfl | rfl | rfl
        · exact ⟨2, rfl, by omega, by omega⟩
        · exact ⟨1, rfl, by omega, by omega⟩
        · exact ⟨3, rfl, by omega, by omega⟩
        · exact ⟨2, rfl, by omega, by omega⟩
        · exact ⟨0, rfl, by omega, by omega⟩
      obtain ⟨many, em, hm0, hm3⟩ := hq2
      have hm4 : many ≤ 1000 := by omega
      have hm5 : many.toNat < 16777216 := by omega
      have hm6 : ∀ x : Sl, x = x := fun _ => rfl
      obtain ⟨lot, i3, r3, n3, left3, e3, c1, c2, c3, c4, c5, c6, c7, c8, c9, c10, c11⟩ := say_comp b hs told (a3 := some (.int q)) (a4 := some (.int many)) (a5 := none) (a6 := none) ((List.range many.toNat).map fun i => .int (0 + (i : Nat))) ((List.range many.toNat).map fun i => .int (0 + (i : Nat))) [] i2 r2 (n + 1 + 1) (left - 1) [.lst [.int 2, .int 1, .int 3, .int 2, .int 0]] rfl hi2 (by omega) (by rw [List.length_map, List.length_range]; omega) (by omega)
      rw [List.length_map, List.length_range] at c3 c9
      have c9' : (encs lot).length ≤ 100000 := by rw [encs_len]; omega
      have finA : SayEnd n left told 1 (Sy.conj lot).sz (Sy.conj lot).dep (Sy.conj lot).ins (Sy.conj lot).ar3 ((Sy.conj lot).okw Wds) (Sy.conj lot).plain i3 n3 left3 :=
        ⟨c1, by omega, by simp only [Sy.sz]; omega, by omega, by simp only [Sy.sz]; omega, by simp only [Sy.dep]; omega, c7, c8, by simp only [Sy.ins]; omega, ⟨c11, by omega⟩⟩
      have finO : SayEnd n left told 1 (Sy.disj lot).sz (Sy.disj lot).dep (Sy.disj lot).ins (Sy.disj lot).ar3 ((Sy.disj lot).okw Wds) (Sy.disj lot).plain i3 n3 left3 :=
        ⟨c1, by omega, by simp only [Sy.sz]; omega, by omega, by simp only [Sy.sz]; omega, by simp only [Sy.dep]; omega, c7, c8, by simp only [Sy.ins]; omega, ⟨c11, by omega⟩⟩
      unfold b_say
      rcases hq with rfl | rfl | rfl
      · walk_at "dn"
        exact ⟨.disj lot, _, _, _, _, _, _, rfl, finO⟩
      · walk_at "dn"
        exact ⟨.conj lot, _, _, _, _, _, _, rfl, finA⟩
      · walk_at "dn"
        exact ⟨.disj lot, _, _, _, _, _, _, rfl, finO⟩
    · -- so
      obtain ⟨s, i2, r2, n2, left2, e2, z⟩ := say_st b hs i1 r1 (n + 1) (left - 1) told (E := []) rfl hi1 (by omega) (by omega) (by omega)
      have := z.hi; have := z.hl; have := z.hz; have := z.hn1; have := z.hn2; have := z.hd
      obtain ⟨t, i3, r3, n3, left3, e3, y⟩ := say_st b hs i2 r2 n2 left2 told (E := []) rfl z.hi (by omega) (by omega) (by omega)
      have := y.hi; have := y.hl; have := y.hz; have := y.hn1; have := y.hn2; have := y.hd
      have fin : SayEnd n left told 1 (Sy.so s t).sz (Sy.so s t).dep (Sy.so s t).ins (Sy.so s t).ar3 ((Sy.so s t).okw Wds) (Sy.so s t).plain i3 n3 left3 :=
        ⟨y.hi, by omega, by simp only [Sy.sz]; omega, by omega, by simp only [Sy.sz]; omega, by simp only [Sy.dep]; omega, ⟨z.hw, y.hw⟩, (fun e => by simp only [Sy.plain, z.hp e, y.hp e, Bool.and_self]), by have := z.hx; have := y.hx; simp only [Sy.ins]; omega, ⟨z.ha, y.ha⟩⟩
      unfold b_say
      rcases hq with rfl | rfl
      · walk_at "dn"
        exact ⟨.so s t, _, _, _, _, _, _, rfl, fin⟩
      · walk_at "dn"
        exact ⟨.so s t, _, _, _, _, _, _, rfl, fin⟩
    · -- must, may
      obtain ⟨q2, i2, r2, e2, q20, q21, hi2⟩ := draw_st b hd i1 r1 (n + 1) (left - 1) 2 (E := [.lst [.str "h", .str "k"]]) rfl (by omega) (by omega) hi1 (by omega) (by omega)
      have hq2 : ∃ w : Str, atD [D.str "h", .str "k"] q2 = some (.str w) ∧ Wds w := by
        have : q2 = 0 ∨ q2 = 1 := by omega
        rcases this with rfl | rfl
        · exact ⟨"h", rfl, .inr (.inr (.inr (.inl rfl)))⟩
        · exact ⟨"k", rfl, .inr (.inr (.inr (.inr rfl)))⟩
      obtain ⟨w, ew, hw⟩ := hq2
      obtain ⟨s, i3, r3, n3, left3, e3, z⟩ := say_st b hs i2 r2 (n + 1 + 1) (left - 1) told (E := [.lst [.str "h", .str "k"], .lst [.str "must", .str "may"]]) rfl hi2 (by omega) (by omega) (by omega)
      have := z.hi; have := z.hl; have := z.hz; have := z.hn1; have := z.hn2; have := z.hd
      have finM : SayEnd n left told 1 (Sy.must w s).sz (Sy.must w s).dep (Sy.must w s).ins (Sy.must w s).ar3 ((Sy.must w s).okw Wds) (Sy.must w s).plain i3 n3 left3 :=
        ⟨z.hi, by omega, by simp only [Sy.sz]; omega, by omega, by simp only [Sy.sz]; omega, by simp only [Sy.dep]; omega, ⟨hw, z.hw⟩, z.hp, by have := z.hx; simp only [Sy.ins]; omega, z.ha⟩
      have finN : SayEnd n left told 1 (Sy.may w s).sz (Sy.may w s).dep (Sy.may w s).ins (Sy.may w s).ar3 ((Sy.may w s).okw Wds) (Sy.may w s).plain i3 n3 left3 :=
        ⟨z.hi, by omega, by simp only [Sy.sz]; omega, by omega, by simp only [Sy.sz]; omega, by simp only [Sy.dep]; omega, ⟨hw, z.hw⟩, z.hp, by have := z.hx; simp only [Sy.ins]; omega, z.ha⟩
      unfold b_say
      rcases hq with rfl | rfl | rfl
      · walk_at "dn"
        exact ⟨.must w s, _, _, _, _, _, _, rfl, finM⟩
      · walk_at "dn"
        exact ⟨.may w s, _, _, _, _, _, _, rfl, finN⟩
      · walk_at "dn"
        exact ⟨.must w s, _, _, _, _, _, _, rfl, finM⟩
    · subst hq
      obtain ⟨s, i2, r2, n2, left2, e2, z⟩ := say_st b hs i1 r1 (n + 1) (left - 1) told (E := []) rfl hi1 (by omega) (by omega) (by omega)
      have := z.hi; have := z.hl; have := z.hz; have := z.hn1; have := z.hn2; have := z.hd
      obtain ⟨t, i3, r3, n3, left3, e3, y⟩ := say_st b hs i2 r2 n2 left2 told (E := []) rfl z.hi (by omega) (by omega) (by omega)
      have := y.hi; have := y.hl; have := y.hz; have := y.hn1; have := y.hn2; have := y.hd
      unfold b_say
      cases told with
      | false =>
        have fin : SayEnd n left false 1 (Sy.so s t).sz (Sy.so s t).dep (Sy.so s t).ins (Sy.so s t).ar3 ((Sy.so s t).okw Wds) (Sy.so s t).plain i3 n3 left3 :=
          ⟨y.hi, by omega, by simp only [Sy.sz]; omega, by omega, by simp only [Sy.sz]; omega, by simp only [Sy.dep]; omega, ⟨z.hw, y.hw⟩, (fun e => by simp only [Sy.plain, z.hp e, y.hp e, Bool.and_self]), by have := z.hx; have := y.hx; simp only [Sy.ins]; omega, ⟨z.ha, y.ha⟩⟩
        walk_at "dn"
        exact ⟨.so s t, _, _, _, _, _, _, rfl, fin⟩
      | true =>
        have fin : SayEnd n left true 1 (Sy.told s t).sz (Sy.told s t).dep (Sy.told s t).ins (Sy.told s t).ar3 ((Sy.told s t).okw Wds) (Sy.told s t).plain i3 n3 left3 :=
          ⟨y.hi, by omega, by simp only [Sy.sz]; omega, by omega, by simp only [Sy.sz]; omega, by simp only [Sy.dep]; omega, ⟨z.hw, y.hw⟩, (fun e => nomatch e), by have := z.hx; have := y.hx; simp only [Sy.ins]; omega, ⟨z.ha, y.ha⟩⟩
        walk_at "dn"
        exact ⟨.told s t, _, _, _, _, _, _, rfl, fin⟩
theorem say_ok {dr sy : Fn} {L : Nat} (hd : DrawOk dr) (hs : L = 0 ∨ SayOk sy L) : SayOk (mkFn 8 3 (b_say dr sy)) (L + 1) := by
  intro M f l c ns i r n left told b hf hl hi hn hn2 hL
  obtain ⟨s, s', i', r', n', left', E, e, q⟩ := say_body b hd i r n left told (fun z => hs.resolve_left (by omega)) hi hn hn2 (by omega)
  rw [st_self hf hl] at e
  exact ⟨s, i', r', n', left', mkFn_ok rfl e (st_gc b i' r' n' left' E (enc_low _ s)), q⟩
end Dn

/-! Cmp: comprehensions and loops that change nothing; texts -/
namespace Dn
open PySem PySem.Spec PyProof.Rows L2
section
variable {M : Mh} {s : Sl}
theorem stays_some {n : Nat} {xs : List D} (h : M[n]? = some (.lst xs)) : Stays ⟨some n, xs⟩ M := fun k e => by cases e; exact h
/-- a comprehension that changes nothing -/
theorem comp_map {w : Wk} {v : Nat} {F : D → D} {te : ED} {s0 : Sl} (hs : Stays w M) : ∀ (ds acc : List D), (∀ d, d ∈ ds → te (s0.set v (some d)) M = .ok (F d) M) → compL w (gNm v) tYesD te s0 ds acc M = .ok (acc ++ ds.map F) M
  | [], acc, _ => by rw [compL_nil, if_pos hs, List.map_nil, List.append_nil]
  | d :: ds, acc, h => by
    rw [compL_cons, if_pos hs]
    simp only [bind_run, noX_run, gNm_run, tYesD_run, h d (List.mem_cons_self ..), if_true]
    rw [comp_map hs ds (acc ++ [F d]) fun d' h' => h d' (List.mem_cons_of_mem _ h'), List.map_cons, List.append_assoc, List.cons_append, List.nil_append]
/-- .. and with a test -/
theorem comp_filter {w : Wk} {v : Nat} {F : D → D} {P : D → Bool} {tt : TD} {te : ED} {s0 : Sl} (hs : Stays w M) : ∀ (ds acc : List D), (∀ d, d ∈ ds → tt (s0.set v (some d)) M = .ok (P d) M) → (∀ d, d ∈ ds → P d = true → te (s0.set v (some d)) M = .ok (F d) M) → compL w (gNm v) tt te s0 ds acc M = .ok (acc ++ (ds.filter P).map F) M
  | [], acc, _, _ => by rw [compL_nil, if_pos hs, List.filter_nil, List.map_nil, List.append_nil]
  | d :: ds, acc, ht, h => by
    rw [compL_cons, if_pos hs]
    simp only [bind_run, noX_run, gNm_run, ht d (List.mem_cons_self ..)]
    by_cases hp : P d = true
    · simp only [hp, if_true, bind_run, noX_run, h d (List.mem_cons_self ..) hp]
      rw [comp_filter hs ds (acc ++ [F d]) (fun d' h' => ht d' (List.mem_cons_of_mem _ h')) fun d' h' => h d' (List.mem_cons_of_mem _ h'), List.filter_cons, if_pos hp, List.map_cons, List.append_assoc, List.cons_append, List.nil_append]
    · rw [if_neg hp, comp_filter hs ds acc (fun d' h' => ht d' (List.mem_cons_of_mem _ h')) fun d' h' => h d' (List.mem_cons_of_mem _ h'), List.filter_cons, if_neg hp]
/-- a loop whose passes change slots alone, and go on -/
theorem loop_nx {w : Wk} {g : GD} {body : SD} (hs : Stays w M) (I : Sl → Prop) : ∀ (ds : List D) (s : Sl), I s → (∀ d s, d ∈ ds → I s → ∃ s1 s2, g d s M = .ok s1 M ∧ body s1 M = .ok (.nx, s2) M ∧ I s2) → ∃ s', loopD w g body ds s M = .ok (.nx, s') M ∧ I s'
  | [], s, hi, _ => ⟨s, by unfold loopD; rw [if_pos hs], hi⟩
  | d :: ds, s, hi, h => by
    obtain ⟨s1, s2, e1, e2, i2⟩ := h d s (List.mem_cons_self ..) hi
    obtain ⟨s', e', i'⟩ := loop_nx hs I ds s2 i2 fun d' s h' => h d' s (List.mem_cons_of_mem _ h')
    refine ⟨s', ?_, i'⟩
    unfold loopD
    rw [if_pos hs]
    simp only [bind_run, e1, e2]
    exact e'
theorem strsOf_map : ∀ ts : List Str, strsOf (ts.map D.str) = some ts
  | [] => rfl
  | t :: r => by simp only [List.map_cons, strsOf, strsOf_map r, Option.map_some]
theorem joinD_ref (a : Str) (n : Nat) : joinD (.str a) (.ref n) M = match M[n]? with
  | some (.lst xs) => (match strsOf xs with
    | some ys => if (ys.map (·.length)).sum + ys.length * a.length ≤ 16777216 then .ok (.str (Txt.join a ys)) M else .bad
    | none => .bad)
  | _ => .bad := by
  unfold joinD getS getL
  simp only
  cases M[n]? with
  | none => rfl
  | some o =>
    cases o with
    | lst xs =>
      simp only [Option.bind_some]
      all_goals (cases strsOf xs <;> rfl)
    | _ => rfl
theorem pNil_run : pNil s M = .ok [] M := rfl
theorem pCons_run (tk tv : ED) (r : PD) : pCons tk tv r s M = match tk s M with
  | .bad => .bad
  | .ok x M1 => (match tv s M1 with
    | .bad => .bad
    | .ok y M2 => (match r s M2 with
      | .bad => .bad
      | .ok ps M3 => .ok ((x, y) :: ps) M3
      | .exc c fs M3 => .exc c fs M3)
    | .exc c fs M2 => .exc c fs M2)
  | .exc c fs M1 => .exc c fs M1 := by
  unfold pCons
  rw [bind_run]
  cases tk s M with
  | ok x M1 =>
    simp only [bind_run]
    cases tv s M1 with
    | ok l M2 =>
      simp only
      cases r s M2 <;> rfl
    | _ => rfl
  | _ => rfl
theorem eDisp_run (t : PD) : eDisp t s M = match t s M with
  | .bad => .bad
  | .ok ps M1 => (match keysD ps with
    | some l => if l.length ≤ 15 then .ok (.ref M1.length) (M1 ++ [.dct (mergeD [] l)]) else .bad
    | none => .bad)
  | .exc c fs M1 => .exc c fs M1 := by
  unfold eDisp C.bind
  cases t s M with
  | ok ps M1 => rfl
  | _ => rfl
theorem getC_run (n : Nat) (y z : D) : getC n y z M = match M[n]? with
  | some (.dct kvs) => (match keyD y with
    | some k => .ok ((dLook kvs k).getD z) M
    | none => .bad)
  | _ => .bad := by
  unfold getC
  cases M[n]? with
  | none => rfl
  | some o =>
    cases o with
    | dct kvs => cases keyD y <;> rfl
    | _ => rfl
theorem eGet2_run (td ty tz : ED) : eGet2 td ty tz s M = match td s M with
  | .bad => .bad
  | .ok x M1 => (match x with
    | .ref n => (match M1[n]? with
      | some (.dct _) => (match ty s M1 with
        | .bad => .bad
        | .ok y M2 => (match tz s M2 with
          | .bad => .bad
          | .ok z M3 => getC n y z M3
          | .exc c fs M3 => .exc c fs M3)
        | .exc c fs M2 => .exc c fs M2)
      | _ => .bad)
    | _ => .bad)
  | .exc c fs M1 => .exc c fs M1 := by
  unfold eGet2
  rw [bind_run]
  cases td s M with
  | ok d M1 =>
    cases d with
    | ref n =>
      simp only [bind_run]
      cases M1[n]? with
      | none => rfl
      | some o =>
        cases o with
        | dct kvs =>
          simp only
          cases ty s M1 with
          | ok y M2 =>
            simp only
            cases tz s M2 <;> rfl
          | _ => rfl
        | _ => rfl
    | _ => rfl
  | _ => rfl
theorem dictD_tup (ds : List D) : dictD (.tup ds) M = match pairsD ds with
  | some l => .ok (.ref M.length) (M ++ [.dct (mergeD [] l)])
  | none => .bad := rfl
theorem reprD_run (d : D) : reprD d M = match dataOf M d with
  | some p => if p.showable = true ∧ p.hasDict = false ∧ p.depth ≤ 64 ∧ p.shown.length ≤ sizeLine then .ok (.str p.shown) M else .bad
  | none => .bad := rfl
theorem jn_eq (y : Str) (parts : List Str) : Txt.join y parts = Str.join y parts := StrLaws.glued_eq_join y parts
theorem join_len (a : Str) (ts : List Str) : (Txt.join a ts).length ≤ (ts.map (·.length)).sum + ts.length * a.length := by
  rw [jn_eq]
  exact StrLaws.join_length_le a ts
theorem join_one (a t : Str) : Txt.join a [t] = t := by
  rw [jn_eq]; rfl
theorem mkFn_run (slots n : Nat) (b : SD) (ds : List D) : mkFn slots n b ds M = if ds.length = n then (match b (ds.map some ++ List.replicate (slots - n) none) M with
  | .bad => .bad
  | .ok r M1 => (match r with
    | (.nx, _) => gcD (List.length M) .non M1
    | (.rt d, _) => gcD (List.length M) d M1
    | _ => .bad)
  | .exc _ _ _ => .bad) else .bad := by
  unfold mkFn
  split
  · rw [bind_run, noX_run]
    cases b (ds.map some ++ List.replicate (slots - n) none) M with
    | ok r M1 => obtain ⟨f, s⟩ := r; cases f <;> rfl
    | _ => rfl
  · rfl
theorem gn_new {x : MO} {E : Mh} : (M ++ x :: E)[List.length M]? = some x := by simp
theorem gn_at {E : Mh} {j : Nat} : (M ++ E)[List.length M + j]? = E[j]? := by
  rw [List.getElem?_append_right (by omega)]; congr 1; omega
theorem gc_str {E : Mh} {t : Str} (h : Clo M) : gcD (List.length M) (.str t) (M ++ E) = .ok (.str t) M := gc_low h rfl rfl
theorem gc_self {d : D} (h : Clo M) (b : lowD (List.length M) d = true) : gcD (List.length M) d M = .ok d M := by
  have := @gc_low (List.length M) d M [] h rfl b
  rwa [List.append_nil] at this
theorem gc_str0 {t : Str} (h : Clo M) : gcD (List.length M) (.str t) M = .ok (.str t) M := gc_self h rfl
theorem gc_bl {E : Mh} {t : Bool} (h : Clo M) : gcD (List.length M) (.bl t) (M ++ E) = .ok (.bl t) M := gc_low h rfl rfl
theorem gc_bl0 {t : Bool} (h : Clo M) : gcD (List.length M) (.bl t) M = .ok (.bl t) M := gc_self h rfl
theorem gc_int {E : Mh} {t : Int} (h : Clo M) : gcD (List.length M) (.int t) (M ++ E) = .ok (.int t) M := gc_low h rfl rfl
theorem gc_int0 {t : Int} (h : Clo M) : gcD (List.length M) (.int t) M = .ok (.int t) M := gc_self h rfl
theorem gc_enc {E : Mh} {t : Sy} (h : Clo M) : gcD (List.length M) (enc t) (M ++ E) = .ok (enc t) M := gc_low h rfl (enc_low _ t)
theorem gc_enc0 {t : Sy} (h : Clo M) : gcD (List.length M) (enc t) M = .ok (enc t) M := gc_self h (enc_low _ t)
theorem Clo_app {o : MO} (h : Clo M) (b : lowO 0 o = true) : Clo (M ++ [o]) := h.snoc (lowO_mono (Nat.zero_le _) b)
theorem strOk_app (x y : Str) : PyData.strOk (x ++ y) = (PyData.strOk x && PyData.strOk y) := by
  unfold PyData.strOk
  show (x.cps ++ y.cps).all _ = _
  rw [Array.all_append]
theorem strOk_join {a : Str} (ha : PyData.strOk a = true) : ∀ ts : List Str, ts.all PyData.strOk = true → PyData.strOk (Txt.join a ts) = true := by
  intro ts h
  rw [jn_eq]
  induction ts with
  | nil => show PyData.strOk Str.empty = true; decide +kernel
  | cons t r ih =>
    rw [List.all_cons, Bool.and_eq_true] at h
    cases r with
    | nil => exact h.1
    | cons u r =>
      show PyData.strOk (t ++ a ++ Str.join a (u :: r)) = true
      rw [strOk_app, strOk_app, h.1, ha, ih h.2]; rfl
theorem dep_strs : ∀ ns : List Str, PyData.depthAll (ns.map PyData.str) ≤ 1
  | [] => by simp only [List.map_nil, PyData.depthAll]; omega
  | n :: r => by have := dep_strs r; simp only [List.map_cons, PyData.depthAll, PyData.depth]; omega
theorem lay_strs : ∀ ns : List Str, PyData.canLayAll0 (ns.map PyData.str) = ns.all PyData.strOk
  | [] => by simp only [List.map_nil, PyData.canLayAll0, List.all_nil]
  | n :: r => by simp only [List.map_cons, PyData.canLayAll0, PyData.canLay0, lay_strs r, List.all_cons]
theorem toPs_strs (h : Nat → Option PyData) : ∀ ns : List Str, toPs h (ns.map D.str) = some (ns.map PyData.str)
  | [] => rfl
  | n :: r => by simp only [List.map_cons, toPs, toP, toPs_strs h r]
theorem eqv_strs : ∀ xs ys : List Str, PyData.eqvAll (xs.map PyData.str) (ys.map PyData.str) = decide (xs = ys)
  | [], [] => by simp only [List.map_nil, PyData.eqvAll, decide_true]
  | [], y :: ys => by simp [PyData.eqvAll]
  | x :: xs, [] => by simp [PyData.eqvAll]
  | x :: xs, y :: ys => by
    simp only [List.map_cons, PyData.eqvAll, PyData.eqv, eqv_strs xs ys]
    by_cases h : x = y
    · subst h; simp
    · have : (x == y) = false := by simpa using h
      rw [this]; simp [h]
theorem eqC_strs {n k : Nat} {xs ys : List Str} (h : M[n]? = some (.lst (xs.map D.str))) (h' : M[k]? = some (.lst (ys.map D.str))) (hx : xs.all PyData.strOk = true) (hy : ys.all PyData.strOk = true) : eqC (.ref n) (.ref k) M = .ok (decide (xs = ys)) M := by
  have e1 : dataOf M (.ref n) = some (.list (xs.map PyData.str)) := by
    unfold dataOf toP hP; simp only [h, toPs_strs, Option.map_some]
  have e2 : dataOf M (.ref k) = some (.list (ys.map PyData.str)) := by
    unfold dataOf toP hP; simp only [h', toPs_strs, Option.map_some]
  rw [eqC_ref]
  simp only [e1, e2]
  rw [if_pos]
  · simp only [PyData.eqv, eqv_strs]
  · constructor
    · unfold SeqAt.shaped
      rw [Bool.and_eq_true]
      refine ⟨by simp only [PyData.canLay0, lay_strs, hx], decide_eq_true ?_⟩
      have := dep_strs xs
      simp only [PyData.depth]; omega
    · unfold SeqAt.shaped
      rw [Bool.and_eq_true]
      refine ⟨by simp only [PyData.canLay0, lay_strs, hy], decide_eq_true ?_⟩
      have := dep_strs ys
      simp only [PyData.depth]; omega
theorem appendD_nil (x : Str) : x ++ (Str.ofString "") = x := PySem.Str.append_empty x
end
end Dn

/-! Lots: the feed's start; many sayings; repr -/
namespace Dn
open PySem PySem.Spec PyProof.Rows L2
theorem cut_ints (ns : List Int) (lo hi : Option Int) : ∃ ms : List Int, cutD (ns.map D.int) lo hi = ms.map D.int ∧ ms.length ≤ ns.length := by
  unfold cutD
  generalize HT.sIx (List.map D.int ns).length 0 lo = a
  generalize HT.sIx (List.map D.int ns).length (List.map D.int ns).length hi - a = b
  refine ⟨(ns.drop a).take b, ?_, ?_⟩
  · rw [List.map_take, List.map_drop]
  · rw [List.length_take, List.length_drop]; omega
theorem low_ints (n : Nat) : ∀ ns : List Int, lowDs n (ns.map D.int) = true
  | [] => rfl
  | i :: r => by simp only [List.map_cons, lowDs, lowD, low_ints n r, Bool.and_self]
theorem low_strs (n : Nat) : ∀ ns : List Str, lowDs n (ns.map D.str) = true
  | [] => rfl
  | i :: r => by simp only [List.map_cons, lowDs, lowD, low_strs n r, Bool.and_self]
theorem feed_ok (ns : List Int) (h : ns.length ≤ 1000) : ∃ ms : List Int, mkFn 1 1 b_feed [.ls (ns.map D.int)] [] = .ok (.ref 1) [.lst (ms.map D.int), .lst [.ref 0, .int 0, .int 0, .int 0]] := by
  obtain ⟨ms, e, hl⟩ := cut_ints ns none (some 63)
  refine ⟨ms, ?_⟩
  have h1 : newL (cutD (ns.map D.int) none (some 63)) [] = .ok (.ref 0) [.lst (ms.map D.int)] := by
    rw [e, newL_ok (by rw [Dn.sizeLine_eq, List.length_map]; omega)]; rfl
  refine mkFn_ok (s' := [some (.ls (ns.map D.int))]) (M' := [.lst (ms.map D.int), .lst [.ref 0, .int 0, .int 0, .int 0]]) (d := .ref 1) rfl ?_ rfl
  unfold b_feed
  simp only [sRet_run, eCb_run, aCons_run, aNil_run, eSl_run, eVar_run, eC_run, oNone_run, oSome_run, slD_ls, h1, List.map_cons, List.map_nil, List.getElem?_cons_zero, List.cons_append]
  rw [newL_s (by simp)]
  rfl
/-- the feed stands -/
structure Fd (M : Mh) (f c : Nat) (ns : List Int) (i r n : Int) : Prop where
  cl : Clo M
  hf : M[f]? = some (.lst [.ref c, .int i, .int r, .int n])
  hc : M[c]? = some (.lst (ns.map D.int))
  nfc : ¬ f = c
  hi : 0 ≤ i
  hn : 0 ≤ n
structure Gd (N : Nat) (told : Bool) (s : Sy) : Prop where
  w : s.okw Wds
  z : s.sz ≤ 3 * N
  d : s.dep ≤ N
  p : told = false → s.plain = true
  x : s.ins + 1 ≤ N
  a : s.ar3
theorem say_new {M : Mh} {f c : Nat} {ns : List Int} {i r n : Int} (h : Fd M f c ns i r n) {sy : Fn} {N : Nat} (hs : SayOk sy N) (h1 : 1 ≤ N) (hn : n + 6 * N ≤ 2 ^ 40) (told : Bool) :
    ∃ s i' r' n' left', sy [.ref f, .ref (List.length M), .bl told] (M ++ [.lst [.int N]]) = .ok (enc s) (M.set f (.lst [.ref c, .int i', .int r', .int n']) ++ [.lst [.int left']]) ∧ Gd N told s ∧ 0 ≤ i' ∧ n ≤ n' ∧ n' ≤ n + 6 * N := by
  have lf := lt_of_get h.hf
  have lc := lt_of_get h.hc
  have b : Bs (M ++ [.lst [.int N]]) f (List.length M) c ns := ⟨Clo_app h.cl rfl, by rw [List.length_append]; omega, by rw [List.length_append]; simp, by rw [ga_lt lc]; exact h.hc, by omega, h.nfc, by omega⟩
  obtain ⟨s, i', r', n', left', e, q⟩ := hs _ f (List.length M) c ns i r n N told b (by rw [ga_lt lf]; exact h.hf) gn_new h.hi h.hn (by omega) (Int.le_refl _)
  have := q.hi; have := q.hl; have := q.hz; have := q.hn1; have := q.hn2; have := q.hd; have := q.hx
  refine ⟨s, i', r', n', left', ?_, ⟨q.hw, by omega, by omega, q.hp, by omega, q.ha⟩, q.hi, q.hn1, by omega⟩
  rw [e]
  unfold St
  rw [List.append_nil, List.set_append_left _ _ lf, List.set_append_right _ _ (by rw [List.length_set]; omega), List.length_set, Nat.sub_self]
  rfl
theorem Fd.set {M : Mh} {f c : Nat} {ns : List Int} {i r n : Int} (h : Fd M f c ns i r n) {i' r' n' : Int} (hi : 0 ≤ i') (hn : 0 ≤ n') {E : Mh} (hE : lowE E = true) : Fd (M.set f (.lst [.ref c, .int i', .int r', .int n']) ++ E) f c ns i' r' n' := by
  have lf := lt_of_get h.hf
  have lc := lt_of_get h.hc
  refine ⟨?_, ?_, ?_, h.nfc, hi, hn⟩
  · have h1 : Clo (M.set f (.lst [.ref c, .int i', .int r', .int n'])) := by
      refine Clo.set h.cl ?_
      show (decide (c < List.length M) && _) = true
      rw [decide_eq_true lc]; rfl
    generalize M.set f (.lst [.ref c, .int i', .int r', .int n']) = N at h1 ⊢
    unfold lowE at hE
    clear h lf lc
    induction E generalizing N with
    | nil => rw [List.append_nil]; exact h1
    | cons o E ih =>
      rw [List.all_cons, Bool.and_eq_true] at hE
      rw [show N ++ o :: E = (N ++ [o]) ++ E by simp]
      exact ih hE.2 _ (h1.snoc (lowO_mono (Nat.zero_le _) hE.1))
  · rw [ga_lt (by rw [List.length_set]; exact lf), gs_eq lf]
  · rw [ga_lt (by rw [List.length_set]; exact lc), gs_ne h.nfc]; exact h.hc
theorem lowE_app {E E' : Mh} (h : lowE E = true) (h' : lowE E' = true) : lowE (E ++ E') = true := by
  unfold lowE at *; rw [List.all_append, h, h']; rfl
/-- many sayings, each with its own purse -/
theorem say_lots {f c v N : Nat} {Ni : Int} {ns : List Int} {sy : Fn} {te : ED} {s0 : Sl} {τ : D → Bool} (hs : SayOk sy N) (hN : Ni = N) (h1 : 1 ≤ N) (xs : List D) : ∀ (ds acc : List D) (M : Mh) (i r n : Int), (∀ d M, d ∈ ds → te (s0.set v (some d)) M = sy [.ref f, .ref (List.length M), .bl (τ d)] (M ++ [.lst [.int Ni]])) → Fd M f c ns i r n → n + 6 * N * (ds.length : Int) ≤ 2 ^ 40 →
    ∃ (l : List Sy) (i' r' n' : Int) (E : Mh), compL ⟨none, xs⟩ (gNm v) tYesD te s0 ds acc M = .ok (acc ++ encs l) (M.set f (.lst [.ref c, .int i', .int r', .int n']) ++ E) ∧ lowE E = true ∧ l.length = ds.length ∧ (∀ s, s ∈ l → Gd N true s) ∧ (∀ s, s ∈ l → (∀ d, d ∈ ds → τ d = false) → s.plain = true) ∧ 0 ≤ i' ∧ n ≤ n' ∧ n' ≤ n + 6 * N * (ds.length : Int)
  | [], acc, M, i, r, n, _, h, hn => by
    refine ⟨[], i, r, n, [], ?_, rfl, rfl, (fun s z => by cases z), (fun s z => by cases z), h.hi, Int.le_refl _, by rw [List.length_nil]; simp⟩
    rw [compL_nil, if_pos (stays_none.mpr trivial), encs, List.append_nil, List.append_nil, set_self h.hf]
  | d :: ds, acc, M, i, r, n, hte, h, hn => by
    rw [List.length_cons] at hn
    have e0 : 6 * (N : Int) * ((ds.length + 1 : Nat) : Int) = 6 * N * (ds.length : Int) + 6 * N := by
      rw [Int.natCast_add]; simp only [Int.mul_add]; simp
    rw [e0] at hn
    have hpos : 0 ≤ 6 * (N : Int) * (ds.length : Int) := Int.mul_nonneg (by omega) (by omega)
    obtain ⟨s, i1, r1, n1, l1, e1, g1, hi1, hn1, hn1'⟩ := say_new h hs h1 (by omega) (τ d)
    have h2 := h.set (r' := r1) (n' := n1) (E := [.lst [.int l1]]) hi1 (by have := h.hn; omega) rfl
    obtain ⟨l, i2, r2, n2, E, e2, hE, hl, hg, hp, hi2, hn2, hn2'⟩ := say_lots hs hN h1 xs ds (acc ++ [enc s]) _ i1 r1 n1 (fun d M hd => hte d M (List.mem_cons_of_mem _ hd)) h2 (by omega)
    have lf := lt_of_get h.hf
    refine ⟨s :: l, i2, r2, n2, [.lst [.int l1]] ++ E, ?_, lowE_app rfl hE, by rw [List.length_cons, List.length_cons, hl], ?_, ?_, hi2, by omega, by rw [List.length_cons, e0]; omega⟩
    · rw [compL_cons, if_pos (stays_none.mpr trivial)]
      simp only [bind_run, noX_run, gNm_run, tYesD_run, hte d M (List.mem_cons_self ..), hN, e1, if_true]
      rw [e2, set_app (by rw [List.length_set]; exact lf), List.set_set, encs]
      simp only [List.append_assoc, List.cons_append, List.nil_append]
    · intro t ht
      rcases List.mem_cons.mp ht with rfl | ht
      · exact ⟨g1.w, g1.z, g1.d, (fun e => nomatch e), g1.x, g1.a⟩
      · exact hg t ht
    · intro t ht hz
      rcases List.mem_cons.mp ht with rfl | ht
      · exact g1.p (hz d (List.mem_cons_self ..))
      · exact hp t ht fun d hd => hz d (List.mem_cons_of_mem _ hd)
theorem lots_of {f c v N : Nat} {Ni : Int} {ns : List Int} {sy : Fn} {te : ED} {s0 : Sl} {xs ds : List D} {M : Mh} {X : R (List D)} {i r n : Int} (hX : compL ⟨none, xs⟩ (gNm v) tYesD te s0 ds [] M = X) (τ : D → Bool) (hs : SayOk sy N) (hN : Ni = N) (h1 : 1 ≤ N) (hte : ∀ d M, d ∈ ds → te (s0.set v (some d)) M = sy [.ref f, .ref (List.length M), .bl (τ d)] (M ++ [.lst [.int Ni]])) (h : Fd M f c ns i r n) (hn : n + 6 * N * (ds.length : Int) ≤ 2 ^ 40) :
    ∃ (l : List Sy) (i' r' n' : Int) (E : Mh), X = .ok (encs l) (M.set f (.lst [.ref c, .int i', .int r', .int n']) ++ E) ∧ lowE E = true ∧ l.length = ds.length ∧ (∀ s, s ∈ l → Gd N true s) ∧ (∀ s, s ∈ l → (∀ d, d ∈ ds → τ d = false) → s.plain = true) ∧ 0 ≤ i' ∧ n ≤ n' ∧ n' ≤ n + 6 * N * (ds.length : Int) := by
  rw [← hX]; exact say_lots hs hN h1 xs ds [] M i r n hte h hn
theorem loop_end {w : Wk} {g : GD} {body : SD} {M : Mh} {ds : List D} {s : Sl} {X : R (FL × Sl)} (hX : loopD w g body ds s M = X) (I : Sl → Prop) (hs : Stays w M) (hi : I s) (h : ∀ d s, d ∈ ds → I s → ∃ s1 s2, g d s M = .ok s1 M ∧ body s1 M = .ok (.nx, s2) M ∧ I s2) : ∃ s', X = .ok (.nx, s') M ∧ I s' := by
  obtain ⟨s', e, i⟩ := loop_nx hs I ds s hi h
  exact ⟨s', by rw [← hX]; exact e, i⟩
theorem encs_app : ∀ a b : List Sy, encs (a ++ b) = encs a ++ encs b
  | [], _ => rfl
  | s :: a, b => by rw [List.cons_append, encs, encs, encs_app a b, List.cons_append]
theorem mem_encs {d : D} {l : List Sy} (h : d ∈ encs l) : ∃ s, s ∈ l ∧ d = enc s := by
  rw [encs_map] at h
  obtain ⟨s, hs, e⟩ := List.mem_map.mp h
  exact ⟨s, hs, e.symm⟩
/-! repr -/
mutual
theorem okw_mono {P Q : Str → Prop} (h : ∀ w, P w → Q w) : ∀ s : Sy, s.okw P → s.okw Q
  | .letter w, k => h w k
  | .neg s, k => okw_mono h s k
  | .conj l, k => okws_mono h l k
  | .disj l, k => okws_mono h l k
  | .so s t, k => ⟨okw_mono h s k.1, okw_mono h t k.2⟩
  | .must w s, k => ⟨h w k.1, okw_mono h s k.2⟩
  | .may w s, k => ⟨h w k.1, okw_mono h s k.2⟩
  | .told s t, k => ⟨okw_mono h s k.1, okw_mono h t k.2⟩
theorem okws_mono {P Q : Str → Prop} (h : ∀ w, P w → Q w) : ∀ l : List Sy, okws P l → okws Q l
  | [], k => k
  | s :: l, k => ⟨okw_mono h s k.1, okws_mono h l k.2⟩
end
theorem shrt_wds (w : Str) (h : Wds w) : Shrt w := by
  rcases h with rfl | rfl | rfl | rfl | rfl <;> exact ⟨by decide +kernel, by decide +kernel, by decide +kernel⟩
theorem repr_enc {M : Mh} {s : Sy} (hw : s.okw Shrt) (hz : s.sz ≤ 1000) (hd : s.dep ≤ 32) : reprD (enc s) M = .ok (.str (dat s).shown) M := by
  rw [reprD_run, data_enc]
  have h1 := shown_len s hw
  have h2 := dat_depth s
  exact if_pos ⟨dat_showable s, dat_noDict s, by omega, by rw [Dn.sizeLine_eq]; omega⟩
theorem repr_str {M : Mh} {t : Str} (ho : PyData.strOk t = true) (hl : t.length ≤ 100000) : reprD (.str t) M = .ok (.str (reprText t)) M := by
  rw [reprD_run]
  have e : dataOf M (.str t) = some (.str t) := rfl
  simp only [e]
  refine (if_pos ⟨by simp only [PyData.showable], by simp only [PyData.hasDict], by simp only [PyData.depth]; omega, ?_⟩).trans (by simp only [PyData.shown])
  simp only [PyData.shown]
  have := StrLaws.reprText_len t (fun c hc => by
    unfold PyData.strOk at ho
    rw [Array.all_eq_true'] at ho
    have := ho c (by simpa using hc)
    have := of_decide_eq_true this
    omega)
  rw [Dn.sizeLine_eq]
  omega
theorem clo_t {M : Mh} (h : M.all (lowO (List.length M)) = true) : Clo M := h
theorem appD_run {M : Mh} (n : Nat) (y : D) : appD n [y] M = match M[n]? with
    | some (.lst xs) => if xs.length < sizeLine then .ok .non (M.set n (.lst (xs ++ [y]))) else .bad
    | _ => .bad := rfl
theorem gc_zero {M : Mh} (b : Bool) : gcD 0 (.bl b) M = .ok (.bl b) [] := by
  unfold gcD
  rw [if_pos ⟨by rw [List.take_zero]; rfl, Nat.zero_le _⟩]
  rfl
theorem lowE_all {E : Mh} (n : Nat) (h : lowE E = true) : E.all (lowO n) = true := by
  unfold lowE at h
  rw [List.all_eq_true] at h ⊢
  exact fun x hx => lowO_mono (Nat.zero_le _) (h x hx)
theorem lt_succ (n : Nat) : (0 < n + 1) = True := by simp
theorem stays_iff {M : Mh} {n : Nat} {xs : List D} : Stays ⟨some n, xs⟩ M ↔ M[n]? = some (.lst xs) := ⟨fun h => h n rfl, fun h => stays_some h⟩
theorem gc_tup {M E : Mh} {ds : List D} (h : Clo M) (b : lowDs (List.length M) ds = true) : gcD (List.length M) (.tup ds) (M ++ E) = .ok (.tup ds) M := gc_low h rfl b
theorem gc_tup0 {M : Mh} {ds : List D} (h : Clo M) (b : lowDs (List.length M) ds = true) : gcD (List.length M) (.tup ds) M = .ok (.tup ds) M := gc_self h b
/-- a comprehension over sayings that changes nothing -/
theorem comp_sy {M : Mh} {w : Wk} {v : Nat} {f : Sy → Sy} {te : ED} {s0 : Sl} (hs : Stays w M) : ∀ (l : List Sy) (acc : List D), (∀ s, s ∈ l → te (s0.set v (some (enc s))) M = .ok (enc (f s)) M) → compL w (gNm v) tYesD te s0 (encs l) acc M = .ok (acc ++ encs (l.map f)) M
  | [], acc, _ => by rw [encs, compL_nil, if_pos hs, List.map_nil, encs, List.append_nil]
  | s :: l, acc, h => by
    rw [encs, compL_cons, if_pos hs]
    simp only [bind_run, noX_run, gNm_run, tYesD_run, h s (List.mem_cons_self ..), if_true]
    rw [comp_sy hs l (acc ++ [enc (f s)]) fun d' h' => h d' (List.mem_cons_of_mem _ h'), List.map_cons, encs, List.append_assoc, List.cons_append, List.nil_append]
theorem slD_tup {M : Mh} (xs : List D) (lo hi : Option Int) : slD (.tup xs) lo hi M = .ok (.tup (cutD xs lo hi)) M := rfl
theorem slD_ref {M : Mh} (n : Nat) (lo hi : Option Int) : slD (.ref n) lo hi M = match M[n]? with
  | some (.lst xs) => newL (cutD xs lo hi) M
  | _ => .bad := by
  unfold slD getL
  simp only
  cases M[n]? with
  | none => rfl
  | some o => cases o <;> rfl
theorem cut_3_2 (a b c : D) : cutD [a, b, c] (some 2) none = [c] := rfl
theorem cut_3_1 (a b c : D) : cutD [a, b, c] (some 1) none = [b, c] := rfl
theorem cut_2_1 (a b : D) : cutD [a, b] (some 1) none = [b] := rfl
theorem cut_hi (xs : List D) (k : Nat) : cutD xs none (some (k : Int)) = xs.take k := by
  unfold cutD
  rw [HT.sIx_none, HT.sIx_nat, List.drop_zero, Nat.sub_zero]
  by_cases h : k ≤ xs.length
  · rw [Nat.min_eq_left h]
  · rw [Nat.min_eq_right (by omega), List.take_of_length_le (Nat.le_refl _), List.take_of_length_le (by omega)]
theorem intD_bl {M : Mh} (b : Bool) : intD (.bl b) M = .ok (.int (if b = true then 1 else 0)) M := by cases b <;> rfl
theorem intD_int {M : Mh} (b : Int) : intD (.int b) M = .ok (.int b) M := rfl
theorem gc_lst {M E : Mh} {ds : List D} {k : Nat} (h : Clo M) (e : (M ++ E)[k]? = some (.lst ds)) (hk : List.length M ≤ k) (b : lowDs (List.length M) ds = true) : gcD (List.length M) (.ref k) (M ++ E) = .ok (.ref (List.length M)) (M ++ [.lst ds]) := gc_new h rfl e hk b
theorem comp_of {M : Mh} {w : Wk} {v : Nat} {te : ED} {s0 : Sl} {l : List Sy} {X : R (List D)} (hX : compL w (gNm v) tYesD te s0 (encs l) [] M = X) (f : Sy → Sy) (hs : Stays w M) (h : ∀ s, s ∈ l → te (s0.set v (some (enc s))) M = .ok (enc (f s)) M) : X = .ok (encs (l.map f)) M := by
  rw [← hX]; exact comp_sy hs l [] h
theorem gc_l0 {M E : Mh} {ds : List D} (h : Clo M) (b : lowDs (List.length M) ds = true) : gcD (List.length M) (.ref (List.length M)) (M ++ .lst ds :: E) = .ok (.ref (List.length M)) (M ++ [.lst ds]) := gc_lst h gn_new (Nat.le_refl _) b
theorem clo_encs {M : Mh} (l : List Sy) (h : Clo M) : Clo (M ++ [.lst (encs l)]) := Clo_app h (encs_low 0 l)
theorem gc_nil {M E : Mh} (h : Clo M) : gcD (List.length M) (.tup []) (M ++ E) = .ok (.tup []) M := gc_low h rfl rfl
theorem listD_tupn {M : Mh} (xs : List D) : listD (.tup xs) M = newL xs M := rfl
theorem gc_l0n {M E : Mh} (h : Clo M) : gcD (List.length M) (.ref (List.length M)) (M ++ .lst [] :: E) = .ok (.ref (List.length M)) (M ++ [.lst []]) := gc_l0 h rfl
/-- a loop with what stays true -/
theorem loop_inv {w : Wk} {g : GD} {body : SD} (I : Sl → Mh → Prop) (hs : ∀ s M, I s M → Stays w M) : ∀ (ds : List D) (s : Sl) (M : Mh), I s M → (∀ d s M, d ∈ ds → I s M → ∃ s1 M1 s2 M2, g d s M = .ok s1 M1 ∧ body s1 M1 = .ok (.nx, s2) M2 ∧ I s2 M2) → ∃ s' M', loopD w g body ds s M = .ok (.nx, s') M' ∧ I s' M'
  | [], s, M, hi, _ => ⟨s, M, by unfold loopD; rw [if_pos (hs s M hi)], hi⟩
  | d :: ds, s, M, hi, h => by
    obtain ⟨s1, M1, s2, M2, e1, e2, i2⟩ := h d s M (List.mem_cons_self ..) hi
    obtain ⟨s', M', e', i'⟩ := loop_inv I hs ds s2 M2 i2 fun d' s M h' => h d' s M (List.mem_cons_of_mem _ h')
    refine ⟨s', M', ?_, i'⟩
    unfold loopD
    rw [if_pos (hs s M hi)]
    simp only [bind_run, e1, e2]
    exact e'
theorem loop_inv_end {w : Wk} {g : GD} {body : SD} {M : Mh} {ds : List D} {s : Sl} {X : R (FL × Sl)} (hX : loopD w g body ds s M = X) (I : Sl → Mh → Prop) (hs : ∀ s M, I s M → Stays w M) (hi : I s M) (h : ∀ d s M, d ∈ ds → I s M → ∃ s1 M1 s2 M2, g d s M = .ok s1 M1 ∧ body s1 M1 = .ok (.nx, s2) M2 ∧ I s2 M2) : ∃ s' M', X = .ok (.nx, s') M' ∧ I s' M' := by
  obtain ⟨s', M', e, i⟩ := loop_inv I hs ds s M hi h
  exact ⟨s', M', by rw [← hX]; exact e, i⟩
theorem encs_fold (a b : List Sy) : encs a ++ encs b = encs (a ++ b) := (encs_app a b).symm
theorem encs_take : ∀ (k : Nat) (l : List Sy), (encs l).take k = encs (l.take k)
  | 0, l => by rw [List.take_zero, List.take_zero, encs]
  | k + 1, [] => by rw [encs, List.take_nil, List.take_nil, encs]
  | k + 1, s :: l => by rw [encs, List.take_succ_cons, List.take_succ_cons, encs, encs_take k l]
theorem cut_encs {k : Nat} {ki : Int} (h : ki = k) (l : List Sy) : cutD (encs l) none (some ki) = encs (l.take k) := by
  rw [h, cut_hi, encs_take]
theorem cut_e3 (l : List Sy) : cutD (encs l) none (some 3) = encs (l.take 3) := cut_encs rfl l
theorem cut_e4 (l : List Sy) : cutD (encs l) none (some 4) = encs (l.take 4) := cut_encs rfl l
theorem cut_e6 (l : List Sy) : cutD (encs l) none (some 6) = encs (l.take 6) := cut_encs rfl l
theorem dataOf_ref {M : Mh} (n : Nat) : dataOf M (.ref n) = match M[n]? with
  | some (.lst ds) => (toPs (hP M 3) ds).map PyData.list
  | _ => none := rfl
theorem Clo_appE {M E : Mh} (h : Clo M) (hE : lowE E = true) : Clo (M ++ E) := by
  induction E generalizing M with
  | nil => rw [List.append_nil]; exact h
  | cons o E ih =>
    unfold lowE at hE ih
    rw [List.all_cons, Bool.and_eq_true] at hE
    rw [show M ++ o :: E = (M ++ [o]) ++ E by simp]
    exact ih (Clo_app h hE.1) hE.2
theorem gn_at1 {M E : Mh} {a b : MO} : (M ++ a :: b :: E)[List.length M + 1]? = some b := gn_at
theorem gn_at2 {M E : Mh} {a b c : MO} : (M ++ a :: b :: c :: E)[List.length M + 2]? = some c := gn_at
/-- a loop with what stays true, counted -/
theorem loop_ix {w : Wk} {g : GD} {body : SD} (I : Nat → Sl → Mh → Prop) (hs : ∀ i s M, I i s M → Stays w M) : ∀ (ds : List D) (i : Nat) (s : Sl) (M : Mh), I i s M → (∀ j d s M, ds[j]? = some d → I (i + j) s M → ∃ s1 M1 s2 M2, g d s M = .ok s1 M1 ∧ body s1 M1 = .ok (.nx, s2) M2 ∧ I (i + j + 1) s2 M2) → ∃ s' M', loopD w g body ds s M = .ok (.nx, s') M' ∧ I (i + ds.length) s' M'
  | [], i, s, M, hi, _ => ⟨s, M, by unfold loopD; rw [if_pos (hs i s M hi)], hi⟩
  | d :: ds, i, s, M, hi, h => by
    obtain ⟨s1, M1, s2, M2, e1, e2, i2⟩ := h 0 d s M rfl hi
    obtain ⟨s', M', e', i'⟩ := loop_ix I hs ds (i + 1) s2 M2 i2 fun j d' s M h' k => by
      have := h (j + 1) d' s M (by simpa using h') (by rw [show i + (j + 1) = i + 1 + j by omega]; exact k)
      rw [show i + (j + 1) + 1 = i + 1 + j + 1 by omega] at this
      exact this
    refine ⟨s', M', ?_, by rw [List.length_cons, show i + (ds.length + 1) = i + 1 + ds.length by omega]; exact i'⟩
    unfold loopD
    rw [if_pos (hs i s M hi)]
    simp only [bind_run, e1, e2]
    exact e'
theorem loop_ix_end {w : Wk} {g : GD} {body : SD} {M : Mh} {ds : List D} {s : Sl} {X : R (FL × Sl)} (hX : loopD w g body ds s M = X) (I : Nat → Sl → Mh → Prop) (hs : ∀ i s M, I i s M → Stays w M) (hi : I 0 s M) (h : ∀ j d s M, ds[j]? = some d → I j s M → ∃ s1 M1 s2 M2, g d s M = .ok s1 M1 ∧ body s1 M1 = .ok (.nx, s2) M2 ∧ I (j + 1) s2 M2) : ∃ s' M', X = .ok (.nx, s') M' ∧ I ds.length s' M' := by
  obtain ⟨s', M', e, i⟩ := loop_ix I hs ds 0 s M hi fun j d s M h' k => by
    rw [Nat.zero_add] at k ⊢; exact h j d s M h' k
  rw [Nat.zero_add] at i
  exact ⟨s', M', by rw [← hX]; exact e, i⟩
theorem Fd.app {M : Mh} {f c : Nat} {ns : List Int} {i r n : Int} (h : Fd M f c ns i r n) {E : Mh} (hE : lowE E = true) : Fd (M ++ E) f c ns i r n :=
  ⟨Clo_appE h.cl hE, by rw [ga_lt (lt_of_get h.hf)]; exact h.hf, by rw [ga_lt (lt_of_get h.hc)]; exact h.hc, h.nfc, h.hi, h.hn⟩
end Dn

/-! Inn: what stands in a saying; a saying made anew -/
namespace Dn
open PySem PySem.Spec PyProof.Rows L2
noncomputable def b_inn : SD := (sSeq (sAsg (eVar 0) (gSt 2 (gsCons (gNm 1) (gsCons (gNm 2) (gsCons (gNm 3) gsNil))))) (sSeq (sIf (tCmpD eqD (eVar 1) (eC (.str "letter"))) (sRet (eCb newT aNil)) sNx) (sSeq (sIf (tCmpD inE (eVar 1) (eCb newT (aCons (eC (.str "and")) (aCons (eC (.str "or")) aNil)))) (sRet (eVar 2)) sNx) (sRet (eIf (tCmpD inE (eVar 1) (eC (.tup [.str "must", .str "may"]))) (eCb (one1 tupleD) (aCons (eVar 3) aNil)) (eCb (one1 tupleD) (aCons (eOp addD (eCb newL (aCons (eVar 2) aNil)) (eVar 3)) aNil)))))))
noncomputable def b_anew : SD := (sSeq (sAsg (eVar 0) (gSt 2 (gsCons (gNm 2) (gsCons (gNm 3) (gsCons (gNm 4) gsNil))))) (sSeq (sIf (tCmpD eqD (eVar 2) (eC (.str "letter"))) (sRet (eVar 0)) sNx) (sSeq (sIf (tCmpD inE (eVar 2) (eCb newT (aCons (eC (.str "and")) (aCons (eC (.str "or")) aNil)))) (sRet (eCb newT (aCons (eVar 2) (aCons (eCb (one1 tupleD) (aCons (eVar 1) aNil)) aNil)))) sNx) (sRet (eOp addD (eIf (tCmpD inE (eVar 2) (eC (.tup [.str "must", .str "may"]))) (eCb newT (aCons (eVar 2) (aCons (eVar 3) aNil))) (eCb newT (aCons (eVar 2) aNil))) (eCb (one1 tupleD) (aCons (eVar 1) aNil)))))))
theorem mem_plain : ∀ {l : List Sy} {s : Sy}, plains l = true → s ∈ l → s.plain = true
  | [], s, _, h => by cases h
  | t :: l, s, p, h => by
    have p : (t.plain && plains l) = true := p
    rw [Bool.and_eq_true] at p
    rcases List.mem_cons.mp h with rfl | h
    · exact p.1
    · exact mem_plain p.2 h
theorem mem_dep : ∀ {l : List Sy} {s : Sy}, s ∈ l → s.dep ≤ deps l
  | [], s, h => by cases h
  | t :: l, s, h => by
    rw [deps]
    rcases List.mem_cons.mp h with rfl | h
    · omega
    · have := mem_dep h; omega
theorem mem_sz : ∀ {l : List Sy} {s : Sy}, s ∈ l → s.sz ≤ szs l
  | [], s, h => by cases h
  | t :: l, s, h => by
    rw [szs]
    rcases List.mem_cons.mp h with rfl | h
    · omega
    · have := mem_sz h; omega
theorem len_sz : ∀ l : List Sy, l.length ≤ szs l
  | [] => Nat.le_refl _
  | t :: l => by have := sz_pos t; have := len_sz l; rw [szs, List.length_cons]; omega
theorem mem_okw {P : Str → Prop} : ∀ {l : List Sy} {s : Sy}, okws P l → s ∈ l → s.okw P
  | [], s, _, h => by cases h
  | t :: l, s, p, h => by
    rcases List.mem_cons.mp h with rfl | h
    · exact p.1
    · exact mem_okw p.2 h
def inn : Sy → List Sy
  | .letter _ => []
  | .neg s => [s]
  | .conj l => l
  | .disj l => l
  | .so s t => [s, t]
  | .must _ s => [s]
  | .may _ s => [s]
  | .told s t => [s, t]
/-- made anew of what stands in it -/
def mp (f : Sy → Sy) : Sy → Sy
  | .letter w => .letter w
  | .neg s => .neg (f s)
  | .conj l => .conj (l.map f)
  | .disj l => .disj (l.map f)
  | .so s t => .so (f s) (f t)
  | .must w s => .must w (f s)
  | .may w s => .may w (f s)
  | .told s t => .told (f s) (f t)
theorem inn_mem {s t : Sy} (h : t ∈ inn s) : t.dep + 1 ≤ s.dep ∧ t.sz + 1 ≤ s.sz := by
  cases s with
  | letter w => cases h
  | conj l =>
    have h : t ∈ l := h
    have := mem_dep h; have := mem_sz h
    simp only [Sy.dep, Sy.sz]; omega
  | disj l =>
    have h : t ∈ l := h
    have := mem_dep h; have := mem_sz h
    simp only [Sy.dep, Sy.sz]; omega
  | so a b =>
    have h : t = a ∨ t = b := by simpa [inn] using h
    simp only [Sy.dep, Sy.sz]
    rcases h with rfl | rfl <;> omega
  | told a b =>
    have h : t = a ∨ t = b := by simpa [inn] using h
    simp only [Sy.dep, Sy.sz]
    rcases h with rfl | rfl <;> omega
  | neg s =>
    have h : t = s := by simpa [inn] using h
    subst h; simp only [Sy.dep, Sy.sz]; omega
  | must w s =>
    have h : t = s := by simpa [inn] using h
    subst h; simp only [Sy.dep, Sy.sz]; omega
  | may w s =>
    have h : t = s := by simpa [inn] using h
    subst h; simp only [Sy.dep, Sy.sz]; omega
theorem inn_len (s : Sy) : (inn s).length ≤ s.sz + 1 := by
  cases s with
  | conj l => have := len_sz l; simp only [inn, Sy.sz]; omega
  | disj l => have := len_sz l; simp only [inn, Sy.sz]; omega
  | _ => simp only [inn, List.length_cons, List.length_nil, Sy.sz]; omega
def InOk (F : Fn) : Prop := ∀ (s : Sy) (M : Mh), Clo M → s.sz ≤ 50000 → F [enc s] M = .ok (.tup (encs (inn s))) M
def AnOk (F : Fn) : Prop := ∀ (f : Sy → Sy) (s : Sy) (k : Nat) (M : Mh), Clo M → M[k]? = some (.lst (encs ((inn s).map f))) → s.sz ≤ 50000 → F [enc s, .ref k] M = .ok (enc (mp f s)) M
local macro_rules | `(tactic| walk_at "dn") => `(tactic| simp (disch := first | assumption | exact gn_new | exact gn_at1 | exact gn_at2 | exact gn_at | (simp only [lowDs, lowD, enc_low, encs_low, Bool.and_self]; done) | (refine clo_t ?_; have hEn := fun n (E : Mh) (h : lowE E = true) => lowE_all n h; simp only [List.all_cons, List.all_nil, List.length_cons, List.length_nil, lowO, lowDs, lowD, low_ints, low_strs, encs_low, Nat.reduceAdd, Nat.reduceLT, lt_succ, List.all_append, List.length_append, decide_true, *, Bool.and_self, Bool.and_true]; done) | (simp only [Nat.reduceLeDiff, encs_len, List.length_cons, List.length_nil, Nat.reduceAdd, flatD, List.all_cons, List.all_nil, Bool.and_self, Bool.and_true, List.length_append, List.length_set, Nat.lt_add_one, *]; done) | (simp only [Dn.sizeLine_eq, PySem.Str.length_append, Nat.add_zero]; omega) | (simp only [encs_len, List.length_take, List.length_map, List.length_cons, List.length_append, List.length_nil]; omega) | omega) only [ret_run, bad_run, bind_run, noX_run, asB_run, eOp_run, eUn_run, eCb_run, aNil_run, aCons_run, eVar_run, eC_run, tCmpD_run, tTruD_run, tAndD_run, tOrD_run, tNotD_run, tYesD_run, eIf_run, eAnd_run, eOr_run, notD_run, eSl_run, oNone_run, oSome_run, sRet_run, sRetN_run, sExp_run, sNx_run, sBk_run, sCt_run, sIf_run, sSeq_run, sAsg_run, gNm_run, gsNil_run, gsCons_run, gSb_run, gTp_tup, gSt_tup, sPar_run, sFor_run, eComp_run, newT_s, newL_s, one1_run, eqD_run, neD_run, eqC_str, eqC_int, eqC_bl, inE_run, ninE_run, inCE_rod, inCE_tup, ixE_rod, ixE_tup, ixE_ls, ixE_ref, addD_int, addD_strok, addD_tup, addD_ref, subD_int, mulD_ok, fdivD_ok, modD_ok, powD_ok, ltD_int, leD_int, gtD_int, geD_int, truC_bl, lenD_tup, lenD_ref, lenD_ls, tupleD_ref, listD_tupn, listD_ref, gc_l0n, wkOf_tup, wkOf_ref, eJoin_run, eLm_run, setD_ref, atD_0, atD_1, atD_2, atD_3, atD_4, setL_0, setL_1, setL_2, setL_3, gs_eq, gs_ne, ga_lt,  List.length_set, List.length_map, set_app, List.set_set, decide_eq_true_eq, inF_nil, inF_int, inF_str, flatD, List.all_cons, List.all_nil, Bool.and_true, Bool.and_self, Bool.or_false, Bool.or_true, Bool.true_or, Bool.false_or, Int.reduceEq, Int.reduceLT, Int.reduceMod, Int.reduceNeg, st_len, st_app, st_at, wipeD, rng1_s, Dn.sizeLine_eq, Nat.reduceLT, Int.reduceToNat, List.length_range, List.length_take, Nat.min_def, compL_cons, compL_nil, stays_none, List.set_nil, fm_0, fm_1, fm_2, fm_3, fm_4, fm_5, fm_6, fm_7, fm_8, fm_9, fm_10, fm_11, fm_12, fm_13, slD_tup, slD_ref, cut_3_2, cut_3_1, cut_2_1, intD_bl, intD_int, joinD_ref, appD_run, stays_iff,  mkFn_run, List.map_cons, List.map_nil, List.reduceReplicate, gn_new, gn_at, List.append_assoc, gc_str, gc_str0, gc_bl, gc_bl0, gc_int, gc_int0, gc_enc, gc_enc0, gc_tup, gc_tup0, gc_zero, gc_nil, gc_l0, reduceCtorEq, Bool.not_eq_true, eq_self,  List.length_append, encs_len,    strsOf_map, pNil_run, pCons_run, eDisp_run, Option.isSome_some, Option.isSome_none, keysD, keyD, List.zip_cons_cons, List.zip_nil_left, List.zip_nil_right, List.foldl_cons, List.foldl_nil, 
  Nat.reduceAdd, Nat.reduceLeDiff, Nat.reduceEqDiff, Nat.reduceSub, String.reduceEq, reduceIte, Int.reduceLE, Nat.le_refl, ofString_inj, List.set_cons_succ, List.set_cons_zero, List.getElem?_cons_succ, List.getElem?_cons_zero, List.length_cons, List.length_nil, decide_true, decide_false, if_true, if_false, Bool.false_eq_true, List.take_succ_cons, List.take_zero, List.drop_succ_cons, List.drop_zero, List.cons_append, List.nil_append, ne_eq, not_false_eq_true, Bool.not_true, Bool.not_false, *])

theorem inn_ok : InOk (mkFn 4 1 b_inn) := by
  intro s M cl hz
  have hl := inn_len s
  unfold b_inn
  cases s with
  | letter w =>
    simp only [enc, inn]
    walk_at "dn"
    simp only [encs]
  | neg s =>
    simp only [enc, inn]
    walk_at "dn"
    simp only [encs]
  | conj l =>
    simp only [enc, inn]
    walk_at "dn"
  | disj l =>
    simp only [enc, inn]
    walk_at "dn"
  | so s t =>
    simp only [enc, inn]
    walk_at "dn"
    simp only [encs]
  | must w s =>
    simp only [enc, inn]
    walk_at "dn"
    simp only [encs]
  | may w s =>
    simp only [enc, inn]
    walk_at "dn"
    simp only [encs]
  | told s t =>
    simp only [enc, inn]
    walk_at "dn"
    simp only [encs]
theorem anew_ok : AnOk (mkFn 5 2 b_anew) := by
  intro f s k M cl hk hz
  have hk2 := lt_of_get hk
  have hl := inn_len s
  unfold b_anew
  cases s with
  | letter w =>
    simp only [inn, List.map_cons, List.map_nil, encs] at hk
    simp only [enc, mp]
    walk_at "dn"
  | neg s =>
    simp only [inn, List.map_cons, List.map_nil, encs] at hk
    simp only [enc, mp]
    walk_at "dn"
  | so s t =>
    simp only [inn, List.map_cons, List.map_nil, encs] at hk
    simp only [enc, mp]
    walk_at "dn"
  | must w s =>
    simp only [inn, List.map_cons, List.map_nil, encs] at hk
    simp only [enc, mp]
    walk_at "dn"
  | may w s =>
    simp only [inn, List.map_cons, List.map_nil, encs] at hk
    simp only [enc, mp]
    walk_at "dn"
  | told s t =>
    simp only [inn, List.map_cons, List.map_nil, encs] at hk
    simp only [enc, mp]
    walk_at "dn"
  | conj l =>
    simp only [inn] at hk hl
    simp only [enc, mp]
    walk_at "dn"
  | disj l =>
    simp only [inn] at hk hl
    simp only [enc, mp]
    walk_at "dn"
end Dn

/-! DnS: sorted() over data whose first unlike place can be compared -/
namespace Srt2
open PySem PySem.W PySem.SeqAt PySem.Calls PyProof.Rows

mutual
/-- numbers, texts, tuples of these -/
def gd : PyData → Bool
  | .int _ => true
  | .str _ => true
  | .tuple xs => gdL xs
  | _ => false
def gdL : List PyData → Bool
  | [] => true
  | x :: xs => gd x && gdL xs
end
mutual
/-- the first unlike place can be compared -/
def cm : PyData → PyData → Bool
  | .int _, .int _ => true
  | .str _, .str _ => true
  | .tuple xs, .tuple ys => cmL xs ys
  | _, _ => false
def cmL : List PyData → List PyData → Bool
  | x :: xs, y :: ys => if PyData.eqv x y = true then cmL xs ys else cm x y
  | [], _ => true
  | _ :: _, [] => true
end
theorem gdL_c {x : PyData} {xs : List PyData} (h : gdL (x :: xs) = true) : gd x = true ∧ gdL xs = true := by
  rw [gdL, Bool.and_eq_true] at h
  exact h
theorem gdL_mem : ∀ {xs : List PyData}, gdL xs = true → ∀ x ∈ xs, gd x = true
  | [], _, x, hx => by cases hx
  | y :: ys, h, x, hx => by
    obtain ⟨a, b⟩ := gdL_c h
    rcases List.mem_cons.mp hx with rfl | hx
    · exact a
    · exact gdL_mem b x hx
mutual
theorem gd_eq : ∀ (x y : PyData), gd x = true → gd y = true → PyData.eqv x y = true → x = y
  | .int a, y, _, hy, e => by
    cases y with
    | int b => have e' : a = b := by simpa [PyData.eqv] using e
               rw [e']
    | str b => simp [PyData.eqv] at e
    | tuple b => simp [PyData.eqv] at e
    | _ => simp [gd] at hy
  | .str a, y, _, hy, e => by
    cases y with
    | str b => have e' : a = b := by simpa [PyData.eqv] using e
               rw [e']
    | int b => simp [PyData.eqv] at e
    | tuple b => simp [PyData.eqv] at e
    | _ => simp [gd] at hy
  | .tuple xs, y, hx, hy, e => by
    cases y with
    | tuple ys => rw [gdL_eq xs ys (by simpa [gd] using hx) (by simpa [gd] using hy) (by simpa [PyData.eqv] using e)]
    | int b => simp [PyData.eqv] at e
    | str b => simp [PyData.eqv] at e
    | _ => simp [gd] at hy
  | .none, _, h, _, _ => by simp [gd] at h
  | .bool _, _, h, _, _ => by simp [gd] at h
  | .list _, _, h, _, _ => by simp [gd] at h
  | .dict _, _, h, _, _ => by simp [gd] at h
theorem gdL_eq : ∀ (xs ys : List PyData), gdL xs = true → gdL ys = true → PyData.eqvAll xs ys = true → xs = ys
  | [], [], _, _, _ => rfl
  | [], _ :: _, _, _, e => by simp [PyData.eqvAll] at e
  | _ :: _, [], _, _, e => by simp [PyData.eqvAll] at e
  | x :: xs, y :: ys, hx, hy, e => by
    rw [eqv_all_cons, Bool.and_eq_true] at e
    rw [gd_eq x y (gdL_c hx).1 (gdL_c hy).1 e.1, gdL_eq xs ys (gdL_c hx).2 (gdL_c hy).2 e.2]
end
mutual
theorem gd_self : ∀ x : PyData, gd x = true → PyData.eqv x x = true
  | .int a, _ => by simp [PyData.eqv]
  | .str a, _ => by simp [PyData.eqv]
  | .tuple xs, h => by
    rw [PyData.eqv]
    exact gdL_self xs (by simpa [gd] using h)
  | .none, h => by simp [gd] at h
  | .bool _, h => by simp [gd] at h
  | .list _, h => by simp [gd] at h
  | .dict _, h => by simp [gd] at h
theorem gdL_self : ∀ xs : List PyData, gdL xs = true → PyData.eqvAll xs xs = true
  | [], _ => by simp [PyData.eqvAll]
  | x :: xs, h => by rw [eqv_all_cons, gd_self x (gdL_c h).1, gdL_self xs (gdL_c h).2]; rfl
end
theorem gd_ne {x y : PyData} (hx : gd x = true) (h : PyData.eqv x y = false) : x ≠ y := by
  rintro rfl
  rw [gd_self x hx] at h
  cases h
mutual
/-- a value reads as one such datum alone -/
theorem gd_one {h : Heap} : ∀ (d e : PyData) (v : Value) (as bs : List Addr), gd d = true → gd e = true → Reads h v d as → Reads h v e bs → d = e
  | .int _, _, _, _, _, _, _, r, t => by cases r; cases t; rfl
  | .str _, _, _, _, _, _, _, r, t => by cases r; cases t; rfl
  | .tuple xs, _, _, _, _, hd, he, r, t => by
    cases r with
    | tuple h1 h2 h3 h4 =>
      cases t with
      | tuple k1 k2 k3 k4 =>
        rw [h1] at k1
        cases k1
        rw [h3] at k3
        cases k3
        rw [gdL_one xs _ _ _ _ (by simpa [gd] using hd) (by simpa [gd] using he) h4 k4]
      | list => simp [gd] at he
      | dict => simp [gd] at he
  | .none, _, _, _, _, hd, _, _, _ => by simp [gd] at hd
  | .bool _, _, _, _, _, hd, _, _, _ => by simp [gd] at hd
  | .list _, _, _, _, _, hd, _, _, _ => by simp [gd] at hd
  | .dict _, _, _, _, _, hd, _, _, _ => by simp [gd] at hd
theorem gdL_one {h : Heap} : ∀ (xs ys : List PyData) (vs : List Value) (as bs : List Addr), gdL xs = true → gdL ys = true → ReadsAll h vs xs as → ReadsAll h vs ys bs → xs = ys
  | [], _, _, _, _, _, _, r, t => by cases r; cases t; rfl
  | x :: xs, [], _, _, _, _, _, r, t => by cases t; cases r
  | x :: xs, y :: ys, _, _, _, hx, hy, r, t => by
    cases r with
    | cons h1 h2 =>
      cases t with
      | cons k1 k2 => rw [gd_one x y _ _ _ (gdL_c hx).1 (gdL_c hy).1 h1 k1, gdL_one xs ys _ _ _ (gdL_c hx).2 (gdL_c hy).2 h2 k2]
end
mutual
theorem tk_ne : ∀ (x y : PyData), gd x = true → gd y = true → cm x y = true → PyData.eqv x y = false → ∀ l m, lexLt itemOrd (keyToks x ++ l) (keyToks y ++ m) = lexLt itemOrd (keyToks x) (keyToks y)
  | .int a, y, hx, hy, c, e, l, m => by
    cases y with
    | int b =>
      have q := gd_ne hx e
      simp only [keyToks, List.cons_append, List.nil_append]
      exact lex_atom (fun z => q (by rw [Sum.inl.inj z])) l m
    | _ => simp [cm] at c
  | .str a, y, hx, hy, c, e, l, m => by
    cases y with
    | str b =>
      have q := gd_ne hx e
      simp only [keyToks, List.cons_append, List.nil_append]
      exact lex_atom (fun z => q (by rw [str_of_cps (Sum.inr.inj z)])) l m
    | _ => simp [cm] at c
  | .tuple xs, y, hx, hy, c, e, l, m => by
    cases y with
    | tuple ys =>
      simp only [keyToks]
      exact tkL_ne xs ys (by simpa [gd] using hx) (by simpa [gd] using hy) (by simpa [cm] using c) (by simpa [PyData.eqv] using e) l m
    | _ => simp [cm] at c
  | .none, _, h, _, _, _, _, _ => by simp [gd] at h
  | .bool _, _, h, _, _, _, _, _ => by simp [gd] at h
  | .list _, _, h, _, _, _, _, _ => by simp [gd] at h
  | .dict _, _, h, _, _, _, _, _ => by simp [gd] at h
theorem tkL_ne : ∀ (xs ys : List PyData), gdL xs = true → gdL ys = true → cmL xs ys = true → PyData.eqvAll xs ys = false → ∀ l m, lexLt itemOrd (keyToksAll xs ++ l) (keyToksAll ys ++ m) = lexLt itemOrd (keyToksAll xs) (keyToksAll ys)
  | [], [], _, _, _, e, _, _ => by simp [PyData.eqvAll] at e
  | [], y :: ys, _, _, _, _, l, m => by
    rw [toks_all_cons]
    simp only [keyToksAll, List.cons_append]
    exact (lex_diff (O := itemOrd) (by simp)).trans (lex_diff (O := itemOrd) (by simp)).symm
  | x :: xs, [], _, _, _, _, l, m => by
    rw [toks_all_cons]
    simp only [keyToksAll, List.cons_append]
    exact (lex_diff (O := itemOrd) (by simp)).trans (lex_diff (O := itemOrd) (by simp)).symm
  | x :: xs, y :: ys, hx, hy, c, e, l, m => by
    rw [toks_all_cons, toks_all_cons]
    simp only [List.cons_append, List.append_assoc]
    rw [lex_self, lex_self]
    cases q : PyData.eqv x y with
    | true =>
      rw [gd_eq x y (gdL_c hx).1 (gdL_c hy).1 q, lex_pre, lex_pre]
      rw [eqv_all_cons, q, Bool.true_and] at e
      rw [cmL, if_pos q] at c
      exact tkL_ne xs ys (gdL_c hx).2 (gdL_c hy).2 c e l m
    | false =>
      rw [cmL, if_neg (by rw [q]; decide)] at c
      rw [tk_ne x y (gdL_c hx).1 (gdL_c hy).1 c q, tk_ne x y (gdL_c hx).1 (gdL_c hy).1 c q]
end
section
variable {x y : PyData} {xs ys : List PyData}
theorem lt_yes (hx : gd x = true) (hy : gd y = true) (q : PyData.eqv x y = true) : lexLt itemOrd (keyToksAll (x :: xs)) (keyToksAll (y :: ys)) = lexLt itemOrd (keyToksAll xs) (keyToksAll ys) := by
  rw [toks_all_cons, toks_all_cons, lex_self, gd_eq x y hx hy q, lex_pre]
theorem lt_no (hx : gd x = true) (hy : gd y = true) (c : cm x y = true) (q : PyData.eqv x y = false) : lexLt itemOrd (keyToksAll (x :: xs)) (keyToksAll (y :: ys)) = dataLt x y := by
  rw [toks_all_cons, toks_all_cons, lex_self, tk_ne x y hx hy c q]
  rfl
end
theorem first_tk : ∀ (xs ys : List PyData), gdL xs = true → gdL ys = true → cmL xs ys = true →
    firstLt (pairEq xs ys) (fun j => dataLt (xs.getD j .none) (ys.getD j .none)) (decide (xs.length < ys.length)) (List.range (min xs.length ys.length)) = lexLt itemOrd (keyToksAll xs) (keyToksAll ys)
  | [], [], _, _, _ => by simp [firstLt, keyToksAll, lex_irrefl]
  | [], y :: ys, _, _, _ => by
    rw [toks_all_cons, keyToksAll, lex_diff (O := itemOrd) (by simp)]
    simp [firstLt, itemLt]
  | x :: xs, [], _, _, _ => by
    rw [toks_all_cons, keyToksAll, lex_diff (O := itemOrd) (by simp)]
    simp [firstLt, itemLt]
  | x :: xs, y :: ys, hx, hy, c => by
    have em : min (x :: xs).length (y :: ys).length = min xs.length ys.length + 1 := by simp only [List.length_cons]; omega
    have ed : decide ((x :: xs).length < (y :: ys).length) = decide (xs.length < ys.length) := by simp
    rw [em, ed, List.range_succ_eq_map]
    cases q : PyData.eqv x y with
    | true =>
      rw [cmL, if_pos q] at c
      rw [firstLt_yes (show pairEq (x :: xs) (y :: ys) 0 = true from q), firstLt_map, lt_yes (gdL_c hx).1 (gdL_c hy).1 q, ← first_tk xs ys (gdL_c hx).2 (gdL_c hy).2 c]
      rfl
    | false =>
      rw [cmL, if_neg (by rw [q]; decide)] at c
      rw [firstLt_no (show pairEq (x :: xs) (y :: ys) 0 = false from q), lt_no (gdL_c hx).1 (gdL_c hy).1 c q]
      rfl
end Srt2
namespace PySem.SeqAt
open AutoSeq1 (wpAny_loadPart')
open MeetsSeq MeetsSeq2 MeetsSeq3 SeqRoads2
/-- tuples: only the first unlike place is asked for its < -/
theorem Srt2_tup (l b : Addr) (p q : Array Value) (n n2 : Nat) (dd dd2 : Option Addr) (sl sl2 : Array (Option Value)) (e r : Nat → Bool) :
    Meets (Builtin.«tuple.__lt__» ⟨[.ref l, .ref b], []⟩)
      (fun A R s => s.heap.get? l = some { cls := .type "tuple", dict := dd, data := .seq p n, slots := sl } ∧ s.heap.get? b = some { cls := .type "tuple", dict := dd2, data := .seq q n2, slots := sl2 } ∧
        (∀ j (h1 : j < p.size) (h2 : j < q.size), EqAt A.in1 s p[j] q[j] (e j)) ∧ (∀ j (h1 : j < p.size) (h2 : j < q.size), (∀ i, i < j → e i = true) → e j = false → RcLt A.in1 s p[j] q[j] (r j)) ∧
        R (.ok (.ret (.bool (firstLt e r (decide (p.size < q.size)) (List.range (min p.size q.size)))))) s) :=
  .of_wp fun prog w A R s h => by
    obtain ⟨hp, g, d, tk, os⟩ := s
    obtain ⟨hl, hb, he, hr, h⟩ := h
    have f2 := AutoSeq1.sub_tuple_tuple
    have hZ : (p.toList.zip q.toList).length = min p.size q.size := by simp
    wp_walk using wpAny_loadPart' hl, wpAny_loadPart' hb, wpAny_forIn_list _ (fun rest b s' => b.1 = none ∧ s' = ⟨hp, g, d, tk, os⟩ ∧ ∃ i, rest = (p.toList.zip q.toList).drop i ∧ (∀ j, j < i → e j = true) ∧
      R (.ok (.ret (.bool (firstLt e r (decide (p.size < q.size)) ((List.range (min p.size q.size)).drop i))))) ⟨hp, g, d, tk, os⟩) _
    case turn =>
      rintro ⟨y, x⟩ rest b s' ⟨hb', rfl, i, hz, up, hR⟩
      have hlt : i < (p.toList.zip q.toList).length := by
        rcases Nat.lt_or_ge i (p.toList.zip q.toList).length with z | z
        · exact z
        · rw [List.drop_of_length_le z] at hz
          cases hz
      have hm : i < min p.size q.size := hZ ▸ hlt
      have h1 : i < p.size := by omega
      have h2 : i < q.size := by omega
      rw [List.drop_eq_getElem_cons hlt] at hz
      injection hz with hyx hrest
      obtain rfl : y = p[i] := by simpa using congrArg Prod.fst hyx
      obtain rfl : x = q[i] := by simpa using congrArg Prod.snd hyx
      have hd : (List.range (min p.size q.size)).drop i = i :: (List.range (min p.size q.size)).drop (i + 1) := by simp [List.drop_eq_getElem_cons, hm]
      rw [hd] at hR
      refine wpAny_bind (he i h1 h2 prog w _ _ ?_)
      cases hy : e i with
      | true =>
        rw [firstLt_yes hy] at hR
        wp_walk
        refine ⟨rfl, rfl, i + 1, hrest, fun j hj => ?_, hR⟩
        rcases Nat.lt_or_ge j i with z | z
        · exact up j z
        · obtain rfl : j = i := by omega
          exact hy
      | false =>
        rw [firstLt_no hy] at hR
        have rc : ∀ (E : Value → Shared → Prop) (Q : Value → Shared → Prop), Q (.bool (r i)) ⟨hp, g, d, tk, os⟩ → wpAny (model prog w) A.in1 (richCompare .Lt p[i] q[i]) Q E ⟨hp, g, d, tk, os⟩ := hr i h1 h2 up hy prog w
        generalize richCompare .Lt p[i] q[i] = rcx at rc ⊢
        wp_walk
        refine rc _ _ ?_
        wp_walk
        exact ⟨_, rfl, hR⟩
    case fin =>
      rintro ⟨b1, b2⟩ s' ⟨hb', rfl, i, hz, up, hR⟩
      simp only at hb'
      subst hb'
      have hge : min p.size q.size ≤ i := by
        rcases Nat.lt_or_ge i (p.toList.zip q.toList).length with z | z
        · rw [List.drop_eq_getElem_cons z] at hz
          cases hz
        · exact hZ ▸ z
      rw [List.drop_of_length_le (by simpa using hge)] at hR
      wp_walk
      exact ⟨_, rfl, by simpa [Builtin.Tuple.tupleCompareSizes, firstLt] using hR⟩
    case h =>
      exact ⟨rfl, rfl, 0, rfl, fun j hj => absurd hj (Nat.not_lt_zero j), by simpa using h⟩
theorem Srt2_rc {A : Around} {s : Shared} {l b : Addr} {p q : Array Value} {e r : Nat → Bool} (hl : s.heap.IsTuple l p) (hb : s.heap.IsTuple b q) (hu : A.units < cLine)
    (he : ∀ j (h1 : j < p.size) (h2 : j < q.size), EqAt A.in1 s p[j] q[j] (e j)) (hr : ∀ j (h1 : j < p.size) (h2 : j < q.size), (∀ i, i < j → e i = true) → e j = false → RcLt A.in1 s p[j] q[j] (r j)) :
    RcLt A s (.ref l) (.ref b) (firstLt e r (decide (p.size < q.size)) (List.range (min p.size q.size))) := fun prog w E Q h => by
  obtain ⟨⟨cls, dd, data, sl⟩, ho, hc, n, hd⟩ := id hl
  obtain ⟨⟨cls2, dd2, data2, sl2⟩, ho2, hc2, n2, hd2⟩ := id hb
  simp only at hc hd hc2 hd2
  subst hc hd hc2 hd2
  have out : Value.bool (firstLt e r (decide (p.size < q.size)) (List.range (min p.size q.size))) ≠ Value.notImplemented ∧ Q (.bool (firstLt e r (decide (p.size < q.size)) (List.range (min p.size q.size)))) s := ⟨(fun x => nomatch x), h⟩
  exact richCompare_meets_room (op := .Lt) ⟨_, ho, rfl⟩ ⟨_, ho2, rfl⟩ F.slot_tuple_lt F.entry_tuple_lt (F.args_tuple_lt_2 _ _) (Srt2_tup l b p q n n2 dd dd2 sl sl2 e r) ⟨ho, ho2, he, hr, out⟩ hu
end PySem.SeqAt
namespace Srt2
open PySem PySem.W PySem.SeqAt PySem.Calls PyProof.Rows
mutual
theorem gd_plain : ∀ x : PyData, gd x = true → x.plain = true
  | .int a, _ => rfl
  | .str a, _ => rfl
  | .tuple xs, h => by
    rw [PyData.plain]
    exact gdL_plain xs (by simpa [gd] using h)
  | .none, h => by simp [gd] at h
  | .bool _, h => by simp [gd] at h
  | .list _, h => by simp [gd] at h
  | .dict _, h => by simp [gd] at h
theorem gdL_plain : ∀ xs : List PyData, gdL xs = true → PyData.plainAll xs = true
  | [], _ => by simp [PyData.plainAll]
  | x :: xs, h => by
    rw [PyData.plainAll, gd_plain x (gdL_c h).1, gdL_plain xs (gdL_c h).2]
    rfl
end
mutual
/-- a < b -/
theorem rc_lt : ∀ (da db : PyData) (A : Around) (s : Shared) (a b : Value) (as bs : List Addr), Reads s.heap a da as → Reads s.heap b db bs → gd da = true → gd db = true → cm da db = true → A.units + min da.depth db.depth < cLine → RcLt A s a b (dataLt da db)
  | .int x, db, A, s, a, b, as, bs, ra, rb, _, _, c, _ => by
    cases db with
    | int y =>
      cases ra
      cases rb
      exact fun prog w E Q hq => P.lt_int (by rw [dataLt_int] at hq; exact hq)
    | _ => simp [cm] at c
  | .str x, db, A, s, a, b, as, bs, ra, rb, _, _, c, _ => by
    cases db with
    | str y =>
      cases ra
      cases rb
      exact fun prog w E Q hq => P.lt_str (by rw [dataLt_str] at hq; exact hq)
    | _ => simp [cm] at c
  | .tuple xs, db, A, s, a, b, as, bs, ra, rb, ga, gb, c, hu => by
    cases db with
    | tuple ys =>
      have ga' : gdL xs = true := by simpa [gd] using ga
      have gb' : gdL ys = true := by simpa [gd] using gb
      have c' : cmL xs ys = true := by simpa [cm] using c
      cases ra with
      | @tuple l o vs n _ as₁ h1 h2 h3 h4 =>
        cases rb with
        | @tuple l' o' vs' n' _ bs₁ k1 k2 k3 k4 =>
          have n1 : vs.size = xs.length := by simpa using ReadsAll.length _ _ _ h4
          have n2 : vs'.size = ys.length := by simpa using ReadsAll.length _ _ _ k4
          rw [dataLt_tuple, ← first_tk xs ys ga' gb' c', ← n1, ← n2]
          have hu' := room_in hu
          refine Srt2_rc ⟨_, h1, h2, _, h3⟩ ⟨_, k1, k2, _, k3⟩ (room_here hu) (fun j j1 j2 => ?_) (fun j j1 j2 up ne => ?_)
          · have z := eqAt_plainAll xs ys A.in1 s vs.toList vs'.toList _ _ h4 k4 (gdL_plain xs ga') (gdL_plain ys gb') hu' j (by simpa using j1) (by simpa using j2)
            simpa using z
          · have z := rc_ltL xs ys A.in1 s vs.toList vs'.toList _ _ h4 k4 ga' gb' c' hu' j (by simpa using j1) (by simpa using j2) up ne
            simpa using z
    | _ => simp [cm] at c
  | .none, _, _, _, _, _, _, _, _, _, h, _, _, _ => by simp [gd] at h
  | .bool _, _, _, _, _, _, _, _, _, _, h, _, _, _ => by simp [gd] at h
  | .list _, _, _, _, _, _, _, _, _, _, h, _, _, _ => by simp [gd] at h
  | .dict _, _, _, _, _, _, _, _, _, _, h, _, _, _ => by simp [gd] at h
theorem rc_ltL : ∀ (xs ys : List PyData) (A : Around) (s : Shared) (vs ws : List Value) (as bs : List Addr), ReadsAll s.heap vs xs as → ReadsAll s.heap ws ys bs → gdL xs = true → gdL ys = true → cmL xs ys = true → A.units + min (PyData.depthAll xs) (PyData.depthAll ys) < cLine →
    ∀ j (h1 : j < vs.length) (h2 : j < ws.length), (∀ i, i < j → pairEq xs ys i = true) → pairEq xs ys j = false → RcLt A s vs[j] ws[j] (dataLt (xs.getD j .none) (ys.getD j .none))
  | [], _, _, _, _, _, _, _, ra, _, _, _, _, _, j, h1, _, _, _ => by
    cases ra
    exact absurd h1 (Nat.not_lt_zero _)
  | _ :: _, [], _, _, _, _, _, _, _, rb, _, _, _, _, j, _, h2, _, _ => by
    cases rb
    exact absurd h2 (Nat.not_lt_zero _)
  | x :: xs, y :: ys, A, s, _, _, _, _, ra, rb, ga, gb, c, hu, j, h1, h2, up, ne => by
    cases ra with
    | cons r rs =>
      cases rb with
      | cons t ts =>
        cases j with
        | zero =>
          have q : PyData.eqv x y = false := ne
          rw [cmL, if_neg (by rw [q]; decide)] at c
          exact rc_lt x y A s _ _ _ _ r t (gdL_c ga).1 (gdL_c gb).1 c (room_head hu)
        | succ j =>
          have q : PyData.eqv x y = true := up 0 (Nat.succ_pos j)
          rw [cmL, if_pos q] at c
          exact rc_ltL xs ys A s _ _ _ _ rs ts (gdL_c ga).2 (gdL_c gb).2 c (room_tail hu) j (Nat.lt_of_succ_lt_succ h1) (Nat.lt_of_succ_lt_succ h2) (fun i hi => up (i + 1) (Nat.succ_lt_succ hi)) ne
end
section
variable {prog : Program} {w : World} {A : Around} {E : Value → Shared → Prop} {s : Shared}
/-- one key against another -/
theorem one_lt {f : Bool} {da db : PyData} {a b : Value} {as bs : List Addr} {Q : Bool → Shared → Prop} (hf : f = true → ∀ xs, da ≠ .tuple xs) (ra : Reads s.heap a da as) (rb : Reads s.heap b db bs) (ga : gd da = true) (gb : gd db = true) (c : cm da db = true)
    (hu : A.units + min da.depth db.depth < cLine) (hq : Q (dataLt da db) s) : wpAny (model prog w) A (oneLt' f a b) Q E s := by
  cases f with
  | false =>
    rw [oneLt'_eq]
    simp only [Bool.false_eq_true, if_false]
    exact wpAny_bind (rc_lt da db A s a b as bs ra rb ga gb c hu prog w E _ (wpAny_truthy_bool hq))
  | true =>
    cases da with
    | int x =>
      cases db with
      | int y =>
        cases ra
        cases rb
        exact oneLt_int (by rw [dataLt_int] at hq; exact hq)
      | _ => simp [cm] at c
    | str x =>
      cases db with
      | str y =>
        cases ra
        cases rb
        exact oneLt_str (by rw [dataLt_str] at hq; exact hq)
      | _ => simp [cm] at c
    | tuple xs => exact absurd rfl (hf rfl xs)
    | _ => simp [gd] at ga
theorem kat_cm {b fin : Bool} {Q : Bool → Shared → Prop} : ∀ (xs ys : List PyData) (i : Nat) (vs ws : List Value) (as bs : List Addr), ReadsAll s.heap vs xs as → ReadsAll s.heap ws ys bs → gdL xs = true → gdL ys = true → cmL xs ys = true →
    A.units + min (PyData.depthAll xs) (PyData.depthAll ys) < cLine → (b = true → i = 0 → ∀ x r t, xs = x :: r → x ≠ .tuple t) → fin = decide (xs.length < ys.length) → Q (lexLt itemOrd (keyToksAll xs) (keyToksAll ys)) s → KatLex prog w A b fin Q (vs.zip ws) i s
  | [], [], i, _, _, _, _, ra, rb, _, _, _, _, _, hf, hq => by
    cases ra
    cases rb
    obtain rfl : fin = false := by rw [hf]; rfl
    exact kat_nil (by rw [lex_irrefl] at hq; exact hq)
  | [], y :: ys, i, _, _, _, _, ra, rb, _, _, _, _, _, hf, hq => by
    cases ra
    obtain rfl : fin = true := by rw [hf]; simp
    rw [toks_all_cons, keyToksAll, lex_diff (O := itemOrd) (by simp)] at hq
    rw [List.zip_nil_left]
    exact kat_nil (by simpa [itemLt] using hq)
  | x :: xs, [], i, _, _, _, _, ra, rb, _, _, _, _, _, hf, hq => by
    cases rb
    obtain rfl : fin = false := by rw [hf]; simp
    rw [toks_all_cons, keyToksAll, lex_diff (O := itemOrd) (by simp)] at hq
    rw [List.zip_nil_right]
    exact kat_nil (by simpa [itemLt] using hq)
  | x :: xs, y :: ys, i, _, _, _, _, ra, rb, ga, gb, c, hu, hb, hf, hq => by
    cases ra with
    | cons r rs =>
      cases rb with
      | cons t ts =>
        rw [List.zip_cons_cons]
        refine kat_cons (eqAt_plain x y A s _ _ _ _ r t (gd_plain x (gdL_c ga).1) (gd_plain y (gdL_c gb).1) (room_head hu) prog w _ _ ?_)
        cases q : PyData.eqv x y with
        | true =>
          rw [cmL, if_pos q] at c
          rw [lt_yes (gdL_c ga).1 (gdL_c gb).1 q] at hq
          exact kat_yes (kat_cm xs ys (i + 1) _ _ _ _ rs ts (gdL_c ga).2 (gdL_c gb).2 c (room_tail hu) (fun _ hi => absurd hi (Nat.succ_ne_zero i)) (by rw [hf]; simp) hq)
        | false =>
          rw [cmL, if_neg (by rw [q]; decide)] at c
          rw [lt_no (gdL_c ga).1 (gdL_c gb).1 c q] at hq
          refine kat_no (one_lt (fun z u => ?_) r t (gdL_c ga).1 (gdL_c gb).1 c (room_head hu) hq)
          rw [Bool.and_eq_true] at z
          exact hb z.1 (by simpa using z.2) x xs u rfl
end
end Srt2

/-! DnU: sorted() as a rule of the layer -/
namespace Srt2
open PySem PySem.W PySem.SeqAt PySem.Calls PyProof.Rows
/-- the keys of such data -/
noncomputable def gk (h : Heap) (ds : List PyData) : PyProof.Rows.KeyKind where
  toKeyOrd := listOrd itemOrd
  keyOf v := open Classical in if q : ∃ d, (d ∈ ds ∧ gd d = true) ∧ ∃ as, Reads h v d as then some (keyToks q.choose) else none
  dflt := ([] : List (Int ⊕ List Nat))
theorem gk_eq {h : Heap} {ds : List PyData} {v : Value} (q : ∃ d, (d ∈ ds ∧ gd d = true) ∧ ∃ as, Reads h v d as) : (gk h ds).keyOf v = some (keyToks q.choose) := by
  show (open Classical in if q : ∃ d, (d ∈ ds ∧ gd d = true) ∧ ∃ as, Reads h v d as then some (keyToks q.choose) else none) = _
  rw [dif_pos q]
theorem gk_of {h : Heap} {ds : List PyData} {v : Value} {d : PyData} {as : List Addr} (hd : d ∈ ds) (g : gd d = true) (r : Reads h v d as) : (gk h ds).keyOf v = some (keyToks d) := by
  have q : ∃ d, (d ∈ ds ∧ gd d = true) ∧ ∃ as, Reads h v d as := ⟨d, ⟨hd, g⟩, as, r⟩
  obtain ⟨⟨h1, h2⟩, bs, h3⟩ := q.choose_spec
  rw [gk_eq q, gd_one _ _ _ _ _ h2 g h3 r]
theorem gk_back {h : Heap} {ds : List PyData} {v : Value} {k : List (Int ⊕ List Nat)} (e : (gk h ds).keyOf v = some k) : ∃ d as, d ∈ ds ∧ gd d = true ∧ Reads h v d as ∧ k = keyToks d := by
  by_cases q : ∃ d, (d ∈ ds ∧ gd d = true) ∧ ∃ as, Reads h v d as
  · obtain ⟨⟨h1, h2⟩, bs, h3⟩ := q.choose_spec
    rw [gk_eq q] at e
    exact ⟨_, bs, h1, h2, h3, (Option.some.inj e).symm⟩
  · have z : (gk h ds).keyOf v = none := by
      show (open Classical in if q : ∃ d, (d ∈ ds ∧ gd d = true) ∧ ∃ as, Reads h v d as then some (keyToks q.choose) else none) = _
      rw [dif_neg q]
      rfl
    rw [z] at e
    cases e
theorem cm_type {x y : PyData} (c : cm x y = true) : dataType x = dataType y := by
  cases x <;> cases y <;> first | rfl | simp [cm] at c
theorem cmL_head {x y : PyData} {xs ys : List PyData} (gx : gd x = true) (gy : gd y = true) (c : cmL (x :: xs) (y :: ys) = true) : dataType x = dataType y := by
  rw [cmL] at c
  cases q : PyData.eqv x y with
  | true => rw [gd_eq x y gx gy q]
  | false =>
    rw [if_neg (by rw [q]; decide)] at c
    exact cm_type c
theorem srt_at {prog : Program} {w : World} {A : Around} {s : Shared} {vs : List Value} {ds : List PyData} (e : EachIs (fun v d => ∃ as, Reads s.heap v d as) vs ds) (hg : ∀ d ∈ ds, gd d = true) (hc : ∀ d ∈ ds, ∀ d' ∈ ds, cm d d' = true) (hk : Sortable ds)
    (hu : ∀ d, d ∈ ds → A.units + d.depth < cLine) : SortsAt prog w A s (gk s.heap ds) vs := by
  have room : ∀ {d d' : PyData}, d ∈ ds → A.units + min d.depth d'.depth < cLine := fun {d d'} hd => by
    have := hu d hd
    omega
  refine ⟨fun v hv => ?_, ?_⟩
  · obtain ⟨d, hd, as, r⟩ := e.left v hv
    exact ⟨_, gk_of hd (hg d hd) r⟩
  rcases hk with ht | hn
  · cases ds with
    | nil =>
      cases e
      refine ⟨general', fun E x y a b Q ha _ _ => ?_, fun h2 => absurd h2 (by simp)⟩
      obtain ⟨d, _, hd, _⟩ := gk_back ha
      cases hd
    | cons d0 ds0 =>
      obtain ⟨x0, r0, e0⟩ := ht d0 (List.mem_cons_self ..)
      have first : ∀ x r, PyData.tuple (x :: r) ∈ d0 :: ds0 → dataType x = dataType x0 := by
        intro x r hm
        have q := hc _ hm d0 (List.mem_cons_self ..)
        have g1 := hg _ hm
        have g2 := hg d0 (List.mem_cons_self ..)
        rw [e0] at q g2
        rw [gd] at g1 g2
        rw [cm] at q
        exact cmL_head (gdL_c g1).1 (gdL_c g2).1 q
      refine ⟨tuples' (dataType x0 != Value.type "tuple"), ?_, fun h2 E Q hq => ?_⟩
      · intro E x y a b Q ha hb hq
        obtain ⟨d, as, hd, ga, ra, rfl⟩ := gk_back ha
        obtain ⟨d', bs, hd', gb, rb, rfl⟩ := gk_back hb
        have hdd := hc d hd d' hd'
        have hroom := room (d' := d') hd
        obtain ⟨x1, r1, rfl⟩ := ht d hd
        obtain ⟨x2, r2, rfl⟩ := ht d' hd'
        have hq' : Q (dataLt (.tuple (x1 :: r1)) (.tuple (x2 :: r2))) s := hq
        rw [dataLt_tuple] at hq'
        cases ra with
        | @tuple l o us n _ _ h1 h2 h3 h4 =>
          cases rb with
          | @tuple l' o' us' n' _ _ k1 k2 k3 k4 =>
            have m1 := SeqAt.ReadsAll.length _ _ _ h4
            have m2 := SeqAt.ReadsAll.length _ _ _ k4
            rw [Array.length_toList] at m1 m2
            rw [gd] at ga gb
            rw [cm] at hdd
            have hu' := SeqAt.room_in hroom
            refine kat_lt h1 h3 k1 k3 (kat_cm (x1 :: r1) (x2 :: r2) 0 _ _ _ _ h4 k4 ga gb hdd (by omega) (fun hb _ x r t ex => ?_) (by rw [m1, m2]) hq')
            obtain ⟨rfl, rfl⟩ := List.cons.inj ex
            rw [← first _ _ hd] at hb
            exact dataType_tuple hb t
      · obtain ⟨fs, t1, t2, t3⟩ := each_katTups e ht
        refine kat_kind (T := dataType x0) t1 (by omega) (fun f hf => ?_) (beq_self_eq_true _) hq
        obtain ⟨x, r, as, m1, m2⟩ := t3 f hf
        rw [← first x r m1]
        exact looks_reads m2
  · refine ⟨oneType', ?_, fun h2 E Q hq => ?_⟩
    · intro E x y a b Q ha hb hq
      obtain ⟨d, as, hd, ga, ra, rfl⟩ := gk_back ha
      obtain ⟨d', bs, hd', gb, rb, rfl⟩ := gk_back hb
      rw [keyLt'_oneType]
      exact one_lt (fun _ => (hn d hd).2) ra rb ga gb (hc d hd d' hd') (room hd) hq
    · cases ds with
      | nil =>
        cases e
        exact absurd h2 (by simp)
      | cons d0 ds0 =>
        refine kas_kind (T := dataType d0) h2 (fun v hv => ?_) (dataType_other (hn d0 (List.mem_cons_self ..)).2) (beq_self_eq_true _) hq
        obtain ⟨d, hd, as, r⟩ := e.left v hv
        rw [← cm_type (hc d hd d0 (List.mem_cons_self ..))]
        exact looks_reads r
end Srt2
namespace Dn
open PySem PySem.Spec PyProof.Rows L2 PySem.W Srt2
mutual
/-- numbers, texts and tuples of these, as data -/
def pdD : D → PyData
  | .int i => .int i
  | .str x => .str x
  | .tup xs => .tuple (pdDs xs)
  | _ => .none
def pdDs : List D → List PyData
  | [] => []
  | d :: ds => pdD d :: pdDs ds
end
mutual
theorem pdD_to (h : Nat → Option PyData) : ∀ d : D, gd (pdD d) = true → toP h d = some (pdD d)
  | .int _, _ => rfl
  | .str _, _ => rfl
  | .tup xs, g => by
    rw [pdD, gd] at g
    rw [toP, pdDs_to h xs g]
    rfl
  | .non, g => by simp [pdD, gd] at g
  | .bl _, g => by simp [pdD, gd] at g
  | .ref _, g => by simp [pdD, gd] at g
  | .glo _, g => by simp [pdD, gd] at g
  | .ls _, g => by simp [pdD, gd] at g
  | .rod _, g => by simp [pdD, gd] at g
theorem pdDs_to (h : Nat → Option PyData) : ∀ ds : List D, gdL (pdDs ds) = true → toPs h ds = some (pdDs ds)
  | [], _ => rfl
  | d :: ds, g => by
    rw [pdDs, gdL, Bool.and_eq_true] at g
    rw [toPs, pdD_to h d g.1, pdDs_to h ds g.2]
    rfl
end
def tupNe : PyData → Bool
  | .tuple (_ :: _) => true
  | _ => false
def tupNo : PyData → Bool
  | .tuple _ => false
  | .none => false
  | _ => true
/-- these can be sorted -/
def okS (ds : List D) : Bool := (ds.all fun d => gd (pdD d) && decide ((pdD d).depth ≤ 64) && ds.all fun e => cm (pdD d) (pdD e)) && ((ds.all fun d => tupNe (pdD d)) || (ds.all fun d => tupNo (pdD d)))
def srt (ds : List D) : List D := ds.mergeSort (dataLe false pdD)
def sortedD (d : D) : C D := fun M => match getL M d with
  | some ds => if okS ds = true then newL (srt ds) M else .bad
  | none => .bad
theorem srt_perm (ds : List D) : (srt ds).Perm ds := List.mergeSort_perm _ _
section
variable {X : Cx} {W : XK} {Z : Zx} {H : Hp} {m : List Addr}
theorem each_of {X : Cx} {H : Hp} {m : List Addr} : ∀ {ds : List D} {vs : List V} {us : List Value}, RelDs (zOf X) H m ds vs → Vals vs us → EachIs (fun u d => ∃ v, RelD (zOf X) H m d v ∧ RelV v u) us ds
  | [], vs, us, r, z => by
    have r : vs = [] := r
    subst r
    cases z
    exact .nil
  | d :: ds, vs, us, r, z => by
    obtain ⟨v, rest, rfl, r1, r2⟩ := r
    cases z with
    | cons z1 z2 => exact .cons ⟨v, r1, z1⟩ (each_of r2 z2)
theorem each_back {X : Cx} {H : Hp} {m : List Addr} : ∀ {ds : List D} {us : List Value}, EachIs (fun u d => ∃ v, RelD (zOf X) H m d v ∧ RelV v u) us ds → ∃ vs, RelDs (zOf X) H m ds vs ∧ Vals vs us
  | [], us, e => by
    cases e
    exact ⟨[], rfl, .nil⟩
  | d :: ds, us, e => by
    cases e with
    | cons h t =>
      obtain ⟨v, r1, z1⟩ := h
      obtain ⟨vs, r2, z2⟩ := each_back t
      exact ⟨v :: vs, ⟨v, vs, rfl, r1, r2⟩, .cons z1 z2⟩
theorem cd_sorted (hu : X.A.units + 66 < cLine) : CallR X (.builtin "sorted") (rDn (zOf X) W (one1 sortedD)) := by
  intro pins s σ H xs us Q I rv hq
  obtain ⟨m, ds, M, rd, hM, p⟩ := hq
  cases ds with
  | nil => exact p.elim
  | cons d rest =>
    cases rest with
    | cons _ _ => exact p.elim
    | nil =>
      obtain ⟨v, rfl, r1⟩ := rels1 rd
      obtain ⟨u, rfl, ru⟩ := vals1 rv
      unfold one1 sortedD at p
      simp only at p
      cases hd : getL M d with
      | none => rw [hd] at p; exact p.elim
      | some ds =>
        rw [hd] at p
        simp only at p
        split at p
        case isFalse => exact p.elim
        rename_i hok
        obtain ⟨a, ys, e1, hs, hr⟩ := getL_sq hM r1 hd
        subst e1
        obtain rfl : u = Value.ref a := ru
        obtain ⟨its, rits, hl, hz⟩ := I.list hs
        rw [okS, Bool.and_eq_true, Bool.or_eq_true] at hok
        obtain ⟨hall, hkind⟩ := hok
        rw [List.all_eq_true] at hall
        have hg : ∀ e ∈ ds, gd (pdD e) = true := fun e he => by
          have := hall e he
          simp only [Bool.and_eq_true] at this
          exact this.1.1
        have hdep : ∀ e ∈ ds, (pdD e).depth ≤ 64 := fun e he => by
          have := hall e he
          simp only [Bool.and_eq_true, decide_eq_true_eq] at this
          exact this.1.2
        have hcm : ∀ e ∈ ds, ∀ e' ∈ ds, cm (pdD e) (pdD e') = true := fun e he e' he' => by
          have := hall e he
          simp only [Bool.and_eq_true, List.all_eq_true] at this
          exact this.2 e' he'
        have hk : Sortable (ds.map pdD) := by
          rcases hkind with h | h
          · refine .inl fun q hq => ?_
            obtain ⟨e, he, rfl⟩ := List.mem_map.mp hq
            have z := List.all_eq_true.mp h e he
            revert z
            cases pdD e with
            | tuple zs =>
              cases zs with
              | nil => intro z; cases z
              | cons x r => exact fun _ => ⟨x, r, rfl⟩
            | _ => intro z; cases z
          · refine .inr fun q hq => ?_
            obtain ⟨e, he, rfl⟩ := List.mem_map.mp hq
            have z := List.all_eq_true.mp h e he
            revert z
            cases pdD e with
            | tuple zs => intro z; cases z
            | none => intro z; cases z
            | _ => exact fun _ => ⟨by simp, by simp⟩
        have ee := each_of hr rits
        have hlen : its.length = ds.length := ee.length
        have er0 : EachIs (fun v e => ∃ as, Reads s.heap v (pdD e) as) its ds := (each_mem ee).mono fun w e ⟨⟨v', z1, z2⟩, he⟩ =>
          Dp.reads I (pdD e) v' w (data_dp hM z1 (pdD_to _ e (hg e he))) z2
        have er : EachIs (fun v e => ∃ as, Reads (sortingHeap (copyHeap s.heap its) (s.heap.objs.size + 1) its) v (pdD e) as) its ds :=
          er0.mono fun _ _ ⟨as, r⟩ => ⟨as, PyProof.Rows.Reads.keeps (fun _ _ => sorting_copy_old) r⟩
        have S := srt_at (prog := X.prog) (w := X.w) (A := X.A.in1.in1) (s := { s with heap := sortingHeap (copyHeap s.heap its) (s.heap.objs.size + 1) its })
          (each_map (R := fun v d => ∃ as, Reads (sortingHeap (copyHeap s.heap its) (s.heap.objs.size + 1) its) v d as) pdD er)
          (fun q hq => by obtain ⟨e, he, rfl⟩ := List.mem_map.mp hq; exact hg e he)
          (fun q hq q' hq' => by
            obtain ⟨e, he, rfl⟩ := List.mem_map.mp hq
            obtain ⟨e', he', rfl⟩ := List.mem_map.mp hq'
            exact hcm e he e' he') hk
          (fun q hq => by
            obtain ⟨e, he, rfl⟩ := List.mem_map.mp hq
            have := hdep e he
            show X.A.units + 1 + 1 + _ < _
            omega)
        have hlz : its.length ≤ sizeLine := by rw [← rits.length]; exact hz
        refine sorted_vals hl.isList S hlz ?_
        have kk : EachIs (fun v e => (gk (sortingHeap (copyHeap s.heap its) (s.heap.objs.size + 1) its) (ds.map pdD)).keyOf v = some (keyToks (pdD e))) its ds := (each_mem er).mono fun v e ⟨⟨as, r⟩, he⟩ =>
          gk_of (List.mem_map.mpr ⟨e, he, rfl⟩) (hg e he) r
        have out := sortVals_each (rev := false) (κ := gk (sortingHeap (copyHeap s.heap its) (s.heap.objs.size + 1) its) (ds.map pdD)) (fun e => keyToks (pdD e)) ee kk
        obtain ⟨vs2, w1, w2⟩ := each_back out
        obtain ⟨z1, z2⟩ := Post.newL p hM w1
        obtain ⟨c, hcell⟩ := sortedAll_at s.heap its (sortVals (gk (sortingHeap (copyHeap s.heap its) (s.heap.objs.size + 1) its) (ds.map pdD)) false its its).toArray
        exact ⟨.ref _, upd H (s.heap.objs.size + 1) (.lst vs2), I.laid (t' := s.toks) (fun _ _ => sortedAll_old) (Nat.le_succ _) ⟨z1, _, c, w2, hcell⟩, rfl, z2 _ (I.hok.fresh (Nat.le_succ _))⟩
end
end Dn

/-! DnZ: zip(x, y, strict=True) over two tuples -/
namespace Dz
open PySem PySem.Spec PyProof.Rows L2 RZ
abbrev Zs (h : Heap) (z p q : Addr) (f : Value) : Prop := h.get? z = some { cls := .type "zip", dict := none, data := .fields #[f, .bool false, .bool true, .ref p, .ref q], slots := #[] }
section
variable {prog : Program} {w : World} {A : Around} {E : Value → Shared → Prop} {s : Shared}
theorem ne_item {it l : Addr} {i : Nat} {ts : Array Value} {x : Value} {Q : Option Value → Shared → Prop} (hi : s.heap.IsTupleIter it l i) (hl : s.heap.IsTuple l ts) (hx : ts[i]? = some x)
    (hQ : ∀ h', h'.IsTupleIter it l (i + 1) → Heap.SameBut it s.heap h' → Q (some x) { s with heap := h' }) : wpAny (model prog w) A (Builtin.SmallTypes.nextOrEnd (.ref it)) Q E s := by
  unfold Builtin.SmallTypes.nextOrEnd
  exact wpAny_bind (wpAny_attempt (nextOf_tuple_item hi hl hx fun h' a b => wpAny_pure (hQ h' a b)))
theorem ne_end {it l : Addr} {i : Nat} {ts : Array Value} {Q : Option Value → Shared → Prop} (hh : A.handled = none) (hi : s.heap.IsTupleIter it l i) (hl : s.heap.IsTuple l ts) (hx : ts[i]? = none)
    (hQ : ∀ h', Heap.ExtBut it s.heap h' → Q none { s with heap := h' }) : wpAny (model prog w) A (Builtin.SmallTypes.nextOrEnd (.ref it)) Q E s := by
  unfold Builtin.SmallTypes.nextOrEnd
  refine wpAny_bind (wpAny_attempt (nextOf_tuple_end hh hi hl hx fun h' e a b => ?_))
  obtain ⟨o, ho, hc⟩ := b
  refine wpAny_bind (wpAny_isInstance (T := "StopIteration") (b := true) ⟨o, ho, hc⟩ isSubtype_stop ?_)
  exact wpAny_pure (hQ h' a)
theorem zs_item {z p q i1 i2 l1 l2 : Addr} {k1 k2 : Nat} {xs ys : Array Value} {x y a b : Value} {Q : Value → Shared → Prop} (D : ZipApart z p q i1 i2 l1 l2)
    (hz : Zs s.heap z p q .none) (hp : IsPair s.heap p (.ref i1) (.ref i2)) (hq : IsPair s.heap q a b)
    (h1 : s.heap.IsTupleIter i1 l1 k1) (h2 : s.heap.IsTupleIter i2 l2 k2) (hl1 : s.heap.IsTuple l1 xs) (hl2 : s.heap.IsTuple l2 ys) (hx : xs[k1]? = some x) (hy : ys[k2]? = some y)
    (hQ : ∀ h', Zs h' z p q (rawInt s.heap.objs.size) → IsPair h' q x y → h'.IsTupleIter i1 l1 (k1 + 1) → h'.IsTupleIter i2 l2 (k2 + 1) → IsPair h' s.heap.objs.size x y → h'.objs.size = s.heap.objs.size + 1 →
      (∀ c o, c ≠ z → c ≠ q → c ≠ i1 → c ≠ i2 → s.heap.get? c = some o → h'.get? c = some o) → Q (.ref s.heap.objs.size) { s with heap := h' }) :
    wpAny (model prog w) A (Builtin.«zip.__next__» ⟨[.ref z], []⟩) (fun fin s' => ∃ v, fin = .done (.ret v) ∧ Q v s') E s := by
  show wpAny _ _ (field (.ref z) 2 >>= _) _ _ _
  refine wpAny_bind (wpAny_field hz rfl (x := .bool true) rfl ?_)
  show wpAny _ _ (field (.ref z) 3 >>= _) _ _ _
  refine wpAny_bind (wpAny_field hz rfl (x := .ref p) rfl ?_)
  refine wpAny_bind (wpAny_seqItems hp rfl ?_)
  show wpAny _ _ (Builtin.SmallTypes.ownedTupleIsFree (.ref z) >>= _) _ _ _
  refine wpAny_bind ?_
  unfold Builtin.SmallTypes.ownedTupleIsFree
  refine wpAny_bind (wpAny_field hz rfl (x := .none) rfl (wpAny_pure ?_))
  simp only [if_true]
  refine wpAny_bind (wpAny_rule ?_)
  refine wpAny_bind (wpAny_field hz rfl (x := .ref q) rfl ?_)
  refine wpAny_bind (wpAny_setField_rec hz (by simp) fun ha za sa => ?_)
  replace za : Zs ha z p q .ellipsis := za
  refine wpAny_bind ?_
  simp only [List.zipIdx_cons, List.zipIdx_nil, List.forIn_cons, List.forIn_nil]
  refine wpAny_bind (wpAny_bind (wpAny_onRaise ?_))
  show wpAny _ _ (Builtin.SmallTypes.nextOrEnd (.ref i1)) _ _ _
  refine ne_item (h1.extBut sa.extBut D.i1z) (hl1.extBut sa.extBut D.l1z) hx fun hb n1 sb => ?_
  have qb : IsPair hb q a b := sb.extBut _ _ D.TOi1 (sa.extBut _ _ D.TOz hq)
  refine wpAny_bind (wpAny_seqItems qb rfl ?_)
  refine wpAny_bind (wpAny_updateSeq_pair qb fun hc qc sc => ?_)
  replace qc : IsPair hc q x b := qc
  refine wpAny_bind (wpAny_letGo (wpAny_pure ?_))
  refine wpAny_bind (wpAny_bind (wpAny_onRaise ?_))
  show wpAny _ _ (Builtin.SmallTypes.nextOrEnd (.ref i2)) _ _ _
  refine ne_item (((h2.extBut sa.extBut D.i2z).extBut sb.extBut D.i12.symm).extBut sc.extBut D.TOi2.symm)
    (((hl2.extBut sa.extBut D.l2z).extBut sb.extBut D.l2i1).extBut sc.extBut D.l2TO) hy fun hd n2 sd => ?_
  have qd : IsPair hd q x b := sd.extBut _ _ D.TOi2 qc
  refine wpAny_bind (wpAny_seqItems qd rfl ?_)
  refine wpAny_bind (wpAny_updateSeq_pair qd fun he qe se => ?_)
  replace qe : IsPair he q x y := qe
  refine wpAny_bind (wpAny_letGo (wpAny_pure (wpAny_pure ?_)))
  refine wpAny_bind (wpAny_seqItems qe rfl ?_)
  refine wpAny_bind (wpAny_newTuple ?_)
  have sz : he.objs.size = s.heap.objs.size := by rw [se.1, sd.1, sc.1, sb.1, sa.1]
  have ze : Zs he z p q .ellipsis := se.extBut _ _ D.TOz.symm (sd.extBut _ _ D.i2z.symm (sc.extBut _ _ D.TOz.symm (sb.extBut _ _ D.i1z.symm za)))
  have ke : ∀ c o, c ≠ z → c ≠ q → c ≠ i1 → c ≠ i2 → s.heap.get? c = some o → he.get? c = some o := fun c o c1 c2 c3 c4 g =>
    se.extBut _ _ c2 (sd.extBut _ _ c4 (sc.extBut _ _ c2 (sb.extBut _ _ c3 (sa.extBut _ _ c1 g))))
  have e1 : he.IsTupleIter i1 l1 (k1 + 1) := ((n1.extBut sc.extBut D.TOi1.symm).extBut sd.extBut D.i12).extBut se.extBut D.TOi1.symm
  have e2 : he.IsTupleIter i2 l2 (k2 + 1) := n2.extBut se.extBut D.TOi2.symm
  have zlt : z < he.objs.size := Heap.lt_size ze
  show wpAny _ _ (Builtin.SmallTypes.ownedTupleHandOut (.ref z) (.ref he.objs.size) >>= _) _ _ _
  refine wpAny_bind ?_
  unfold Builtin.SmallTypes.ownedTupleHandOut
  have zf : Zs (he.push { cls := .type "tuple", data := .seq #[x, y] }) z p q .ellipsis := Heap.get?_push_of_some _ ze
  refine wpAny_bind (wpAny_setField_rec zf (by simp) fun hg zg sg => ?_)
  replace zg : Zs hg z p q (rawInt he.objs.size) := zg
  refine wpAny_setField_rec zg (by simp) fun hk zk sk => ?_
  replace zk : Zs hk z p q (rawInt he.objs.size) := zk
  have up : ∀ c o, c ≠ z → he.get? c = some o → hk.get? c = some o := fun c o c1 g => sk.extBut _ _ c1 (sg.extBut _ _ c1 (Heap.get?_push_of_some _ g))
  have tk : IsPair hk he.objs.size x y := sk.extBut _ _ (Nat.ne_of_gt zlt) (sg.extBut _ _ (Nat.ne_of_gt zlt) (Heap.get?_push_size _ rfl))
  have nk : hk.objs.size = he.objs.size + 1 := by rw [sk.1, sg.1, Heap.size_push]
  rw [sz] at zk tk nk
  refine wpAny_pure ⟨_, rfl, ?_⟩
  show Q (.ref he.objs.size) _
  rw [sz]
  exact hQ hk zk (up _ _ D.TOz qe) (e1.at fun o g => up _ o D.i1z g) (e2.at fun o g => up _ o D.i2z g) tk nk fun c o c1 c2 c3 c4 g => up c o c1 (ke c o c1 c2 c3 c4 g)
theorem zs_end {z p q i1 i2 l1 l2 : Addr} {k1 k2 : Nat} {xs ys : Array Value} {a b : Value} {Q : Fin → Shared → Prop} (hh : A.handled = none) (D : ZipApart z p q i1 i2 l1 l2)
    (hz : Zs s.heap z p q .none) (hp : IsPair s.heap p (.ref i1) (.ref i2)) (hq : IsPair s.heap q a b)
    (h1 : s.heap.IsTupleIter i1 l1 k1) (h2 : s.heap.IsTupleIter i2 l2 k2) (hl1 : s.heap.IsTuple l1 xs) (hl2 : s.heap.IsTuple l2 ys) (hx : xs[k1]? = none) (hy : ys[k2]? = none)
    (hE : ∀ h' e, (∀ c o, c ≠ z → c ≠ q → c ≠ i1 → c ≠ i2 → s.heap.get? c = some o → h'.get? c = some o) → (∃ o, h'.get? e = some o ∧ o.cls = .type "StopIteration") → E (.ref e) { s with heap := h' }) :
    wpAny (model prog w) A (Builtin.«zip.__next__» ⟨[.ref z], []⟩) Q E s := by
  show wpAny _ _ (field (.ref z) 2 >>= _) _ _ _
  refine wpAny_bind (wpAny_field hz rfl (x := .bool true) rfl ?_)
  show wpAny _ _ (field (.ref z) 3 >>= _) _ _ _
  refine wpAny_bind (wpAny_field hz rfl (x := .ref p) rfl ?_)
  refine wpAny_bind (wpAny_seqItems hp rfl ?_)
  show wpAny _ _ (Builtin.SmallTypes.ownedTupleIsFree (.ref z) >>= _) _ _ _
  refine wpAny_bind ?_
  unfold Builtin.SmallTypes.ownedTupleIsFree
  refine wpAny_bind (wpAny_field hz rfl (x := .none) rfl (wpAny_pure ?_))
  simp only [if_true]
  refine wpAny_bind (wpAny_rule ?_)
  refine wpAny_bind (wpAny_field hz rfl (x := .ref q) rfl ?_)
  refine wpAny_bind (wpAny_setField_rec hz (by simp) fun ha za sa => ?_)
  replace za : Zs ha z p q .ellipsis := za
  refine wpAny_bind ?_
  simp only [List.zipIdx_cons, List.zipIdx_nil, List.forIn_cons, List.forIn_nil]
  refine wpAny_bind (wpAny_bind (wpAny_onRaise ?_))
  show wpAny _ _ (Builtin.SmallTypes.nextOrEnd (.ref i1)) _ _ _
  refine ne_end hh (h1.extBut sa.extBut D.i1z) (hl1.extBut sa.extBut D.l1z) hx fun hb sb => ?_
  have zb : Zs hb z p q .ellipsis := sb _ _ D.i1z.symm za
  refine wpAny_bind (wpAny_setField_rec zb (by simp) fun hc zc sc => ?_)
  refine wpAny_bind ?_
  show wpAny _ _ (forIn [((Value.ref i2 : Value), 1)] PUnit.unit _ >>= _) _ _ _
  refine wpAny_bind ?_
  simp only [List.forIn_cons, List.forIn_nil]
  have ic : hc.IsTupleIter i2 l2 k2 := ((h2.extBut sa.extBut D.i2z).extBut sb D.i12.symm).extBut sc.extBut D.i2z
  have lc : hc.IsTuple l2 ys := ((hl2.extBut sa.extBut D.l2z).extBut sb D.l2i1).extBut sc.extBut D.l2z
  refine wpAny_bind (wpAny_bind (ne_end hh ic lc hy fun hd sd => ?_))
  have kd : ∀ c o, c ≠ z → c ≠ q → c ≠ i1 → c ≠ i2 → s.heap.get? c = some o → hd.get? c = some o := fun c o c1 c2 c3 c4 g =>
    sd _ _ c4 (sc.extBut _ _ c1 (sb _ _ c3 (sa.extBut _ _ c1 g)))
  simp only [Option.isSome_none, Bool.false_eq_true, if_false]
  refine wpAny_pure (wpAny_pure ?_)
  refine wpAny_bind (wpAny_rule ?_)
  show wpAny _ _ (newExc (.type "StopIteration") [] >>= _) _ _ _
  refine wpAny_bind ?_
  simp only [newExc, newTuple]
  refine wpAny_bind (wpAny_newObj_type ?_ (by size_fits))
  refine wpAny_bind (m := firstArgMember _ _) (wpAny_of_eq (a := Value.none) (by first | rfl | (simp only [firstArgMember]; rfl)) ?_)
  refine wpAny_newObj_type ?_ (by size_fits)
  simp only [raiseNew]
  refine wpAny_bind (wpAny_handled ?_)
  first | rw [show A.in1.handled = none from hh] | rw [hh]
  refine wpAny_bind (wpAny_pure (wpAny_throw ?_))
  exact hE _ _ (fun c o c1 c2 c3 c4 g => Heap.get?_push_of_some _ (Heap.get?_push_of_some _ (kd c o c1 c2 c3 c4 g))) ⟨_, Heap.get?_push_size _ rfl, rfl⟩
theorem zs_next {z p q i1 i2 l1 l2 : Addr} {k1 k2 : Nat} {xs ys : Array Value} {x y a b : Value} {Q : Option Value → Shared → Prop} (D : ZipApart z p q i1 i2 l1 l2)
    (hz : Zs s.heap z p q .none) (hp : IsPair s.heap p (.ref i1) (.ref i2)) (hq : IsPair s.heap q a b)
    (h1 : s.heap.IsTupleIter i1 l1 k1) (h2 : s.heap.IsTupleIter i2 l2 k2) (hl1 : s.heap.IsTuple l1 xs) (hl2 : s.heap.IsTuple l2 ys) (hx : xs[k1]? = some x) (hy : ys[k2]? = some y)
    (hQ : ∀ h', Zs h' z p q (rawInt s.heap.objs.size) → IsPair h' q x y → h'.IsTupleIter i1 l1 (k1 + 1) → h'.IsTupleIter i2 l2 (k2 + 1) → IsPair h' s.heap.objs.size x y → h'.objs.size = s.heap.objs.size + 1 →
      (∀ c o, c ≠ z → c ≠ q → c ≠ i1 → c ≠ i2 → s.heap.get? c = some o → h'.get? c = some o) → Q (some (.ref s.heap.objs.size)) { s with heap := h' }) :
    wpAny (model prog w) A (pyNext (.ref z)) Q E s := by
  have ty : s.TypeIs (.ref z) "zip" := ⟨_, hz, rfl⟩
  unfold pyNext
  have run := zs_item (prog := prog) (w := w) (A := A.in1) (s := s) (E := fun e s' => wpAny (model prog w) A (do if ← isInstance e (.type "StopIteration") then pure none else throw e) Q E s') (Q := fun v s' => wpAny (model prog w) A (pure (some v)) Q E s') D hz hp hq h1 h2 hl1 hl2 hx hy
    fun h' a1 a2 a3 a4 a5 a6 a7 => wpAny_pure (hQ h' a1 a2 a3 a4 a5 a6 a7)
  exact wpAny_bind (wpAny_attempt (wpAny_callSpecial?_slot (name := Str.ofString "__next__") ty F.slot_zip_next (wpAny_call_entry F.slot_zip_next ty F.entry_zip_next run (F.args_zip_next_1 _))))
theorem zs_stop {z p q i1 i2 l1 l2 : Addr} {k1 k2 : Nat} {xs ys : Array Value} {a b : Value} {Q : Option Value → Shared → Prop} (hh : A.handled = none) (D : ZipApart z p q i1 i2 l1 l2)
    (hz : Zs s.heap z p q .none) (hp : IsPair s.heap p (.ref i1) (.ref i2)) (hq : IsPair s.heap q a b)
    (h1 : s.heap.IsTupleIter i1 l1 k1) (h2 : s.heap.IsTupleIter i2 l2 k2) (hl1 : s.heap.IsTuple l1 xs) (hl2 : s.heap.IsTuple l2 ys) (hx : xs[k1]? = none) (hy : ys[k2]? = none)
    (hQ : ∀ h', (∀ c o, c ≠ z → c ≠ q → c ≠ i1 → c ≠ i2 → s.heap.get? c = some o → h'.get? c = some o) → Q none { s with heap := h' }) : wpAny (model prog w) A (pyNext (.ref z)) Q E s := by
  have ty : s.TypeIs (.ref z) "zip" := ⟨_, hz, rfl⟩
  unfold pyNext
  refine wpAny_bind (wpAny_attempt (wpAny_callSpecial?_slot (name := Str.ofString "__next__") ty F.slot_zip_next (wpAny_call_entry F.slot_zip_next ty F.entry_zip_next (zs_end hh D hz hp hq h1 h2 hl1 hl2 hx hy fun h' e hk he => ?_) (F.args_zip_next_1 _))))
  obtain ⟨o, ho, hc⟩ := he
  refine wpAny_bind (wpAny_isInstance (T := "StopIteration") (b := true) ⟨o, ho, hc⟩ isSubtype_stop ?_)
  exact wpAny_pure (hQ _ hk)
theorem zs_let {elts : List Expr} {x1 : Nat} {pos : Pos} {z p q T : Addr} {Q : Unit → Shared → Prop} (hz : Zs s.heap z p q (rawInt T))
    (hQ : ∀ h', Zs h' z p q .none → Heap.SameBut z s.heap h' → Q () { s with heap := h' }) : wpAny (model prog w) A (letOwnedTupleGo (.Tuple elts x1 pos) (.ref z) (.ref T)) Q E s := by
  unfold letOwnedTupleGo
  refine wpAny_bind (wpAny_load hz ?_)
  show wpAny _ _ (if (["enumerate", "zip", "dict_itemiterator", "dict_reverseitemiterator", "odict_iterator", "itertools.zip_longest", "itertools.pairwise"].contains "zip" && (#[rawInt T, .bool false, .bool true, .ref p, .ref q] : Array Value)[0]? == some (rawInt T)) = true then _ else _) Q E s
  rw [if_pos (by simp)]
  refine wpAny_bind (wpAny_rule ?_)
  exact wpAny_setField_rec hz (by simp) fun h' hz' hs' => hQ h' hz' hs'
theorem zs_iter {z p q : Addr} {f : Value} {Q : Value → Shared → Prop} (hz : Zs s.heap z p q f) (h : Q (.ref z) s) : wpAny (model prog w) A (pyIter (.ref z)) Q E s := by
  have ty : s.TypeIs (.ref z) "zip" := ⟨_, hz, rfl⟩
  refine wpAny_pyIter_slot ty F.slot_zip_iter (wpAny_call_entry F.slot_zip_iter ty F.entry_zip_iter ?_ (F.args_zip_iter_1 _))
  exact wpAny_pure ⟨_, rfl, "zip", _, ty, F.slot_zip_next.lookup, h⟩
theorem tc_zs (a b c : Value) : checkTypeCall "zip" ⟨[a, b], [(Str.ofString "strict", c)]⟩ = pure () := by kernel_rfl
theorem nc_zs (a b c : Value) : checkBuiltinCall "zip.__new__" ⟨[.type "zip", a, b], [(Str.ofString "strict", c)]⟩ = pure () := by kernel_rfl
theorem ao_zs (o a b c : Value) : argsOk "object.__init__" ⟨[o, a, b], [(Str.ofString "strict", c)]⟩ := by unfold argsOk; kernel_rfl
abbrev zz1 (h : Heap) (l : Addr) : Heap := h.push { cls := .type "tuple_iterator", data := .fields #[.ref l, .int 0 0] }
abbrev zzA (h : Heap) (l l' : Addr) : Heap := zz1 (zz1 h l) l'
abbrev zzB (h : Heap) (l l' : Addr) : Heap := (zzA h l l').push { cls := .type "tuple", data := .seq #[.ref h.objs.size, .ref (zz1 h l).objs.size] }
abbrev zzC (h : Heap) (l l' : Addr) : Heap := (zzB h l l').push { cls := .type "tuple", data := .seq #[.none, .none] }
abbrev zz3 (h : Heap) (l l' : Addr) : Heap := (zzC h l l').push { cls := .type "zip", data := .fields #[.none, .bool false, .bool true, .ref (zzA h l l').objs.size, .ref (zzB h l l').objs.size] }
theorem zs_new (l1 l2 : Addr) (xs ys : Array Value) : Meets (Builtin.«zip.__new__» ⟨[.type "zip", .ref l1, .ref l2], [(Str.ofString "strict", .bool true)]⟩) (fun _ R s => s.heap.IsTuple l1 xs ∧ s.heap.IsTuple l2 ys ∧
      R (.ok (.ret (.ref (zzC s.heap l1 l2).objs.size))) { s with heap := zz3 s.heap l1 l2 }) :=
  .of_wp fun prog w A R s h => by
    obtain ⟨hp, g, d, tk, os⟩ := s
    obtain ⟨a1, a2, h⟩ := h
    have hsub := sub_zip
    have e1 : (Str.ofString "strict" != ("strict" : Str)) = false := by decide +kernel
    have b1 : Heap.IsTuple (Shared.heap ⟨hp, g, d, tk, os⟩) l1 xs := a1
    have b2 : Heap.IsTuple (Shared.heap ⟨hp.push { cls := .type "tuple_iterator", data := .fields #[.ref l1, .int 0 0] }, g, d, tk, os⟩) l2 ys := Heap.IsTuple.push a2 _
    wp_walk using wpAny_pyIter_tuple b1, wpAny_pyIter_tuple b2
    exact ⟨_, rfl, h⟩
/-- zip(x, y, strict=True) of two tuples -/
theorem zs_call {l1 l2 : Addr} {xs ys : Array Value} {Q : Value → Shared → Prop} (a1 : s.heap.IsTuple l1 xs) (a2 : s.heap.IsTuple l2 ys)
    (h : ∀ h', Zs h' (s.heap.objs.size + 4) (s.heap.objs.size + 2) (s.heap.objs.size + 3) .none → IsPair h' (s.heap.objs.size + 2) (.ref s.heap.objs.size) (.ref (s.heap.objs.size + 1)) →
      IsPair h' (s.heap.objs.size + 3) .none .none → h'.IsTupleIter s.heap.objs.size l1 0 → h'.IsTupleIter (s.heap.objs.size + 1) l2 0 → (∀ c o, s.heap.get? c = some o → h'.get? c = some o) → Q (.ref (s.heap.objs.size + 4)) { s with heap := h' }) :
    wpAny (model prog w) A (call (.type "zip") [.ref l1, .ref l2] [(Str.ofString "strict", .bool true)]) Q E s := by
  refine callType_newKw F.called_zip (by decide) (tc_zs _ _ _) (nc_zs _ _ _) (fun obj => ao_zs obj _ _ _) F.entry_zip_new (zs_new l1 l2 xs ys) ⟨a1, a2, ?_⟩
  have z1 : (zz1 s.heap l1).objs.size = s.heap.objs.size + 1 := Heap.size_push ..
  have zA : (zzA s.heap l1 l2).objs.size = s.heap.objs.size + 2 := by rw [Heap.size_push, z1]
  have zB : (zzB s.heap l1 l2).objs.size = s.heap.objs.size + 3 := by rw [Heap.size_push, zA]
  have zC : (zzC s.heap l1 l2).objs.size = s.heap.objs.size + 4 := by rw [Heap.size_push, zB]
  have g5 : (zz3 s.heap l1 l2).get? (zzC s.heap l1 l2).objs.size = some _ := Heap.get?_push_size _ rfl
  have g4 : (zz3 s.heap l1 l2).get? (zzB s.heap l1 l2).objs.size = some _ := Heap.get?_push_of_some _ (Heap.get?_push_size _ rfl)
  have g3 : (zz3 s.heap l1 l2).get? (zzA s.heap l1 l2).objs.size = some _ := Heap.get?_push_of_some _ (Heap.get?_push_of_some _ (Heap.get?_push_size _ rfl))
  have g2 : (zz3 s.heap l1 l2).get? (zz1 s.heap l1).objs.size = some _ := Heap.get?_push_of_some _ (Heap.get?_push_of_some _ (Heap.get?_push_of_some _ (Heap.get?_push_size _ rfl)))
  have g1 : (zz3 s.heap l1 l2).get? s.heap.objs.size = some _ := Heap.get?_push_of_some _ (Heap.get?_push_of_some _ (Heap.get?_push_of_some _ (Heap.get?_push_of_some _ (Heap.get?_push_size _ rfl))))
  show _ ∧ _
  rw [zA, zB, zC] at g5
  rw [z1, zA] at g3
  rw [zB] at g4
  rw [z1] at g2
  rw [zC]
  exact ⟨⟨_, g5, rfl⟩, h _ g5 g3 g4 ⟨_, g1, rfl, rfl⟩ ⟨_, g2, rfl, rfl⟩ fun c o x => Heap.get?_push_of_some _ (Heap.get?_push_of_some _ (Heap.get?_push_of_some _ (Heap.get?_push_of_some _ (Heap.get?_push_of_some _ x))))⟩
end
end Dz

/-! DnW: zip(x, y, strict=True) as something to walk over -/
namespace Dz
open PySem PySem.Spec PyProof.Rows L2 RZ
/-- the items of two tuples, in new pairs -/
def Its (K : PySem.W.Frag) (a b : Addr) : It where
  go := fun i H => ∃ (xs ys : List V) (x y : V), SqT K H a xs ∧ SqT K H b ys ∧ xs[i]? = some x ∧ ys[i]? = some y
  yld := fun i H v H' => ∃ T o x y, v = .ref T ∧ H T = none ∧ o.dict = none ∧ H' = upd H T (.frz o (.tup [x, y])) ∧ (∀ xs, SqT K H a xs → xs[i]? = some x) ∧ ∀ ys, SqT K H b ys → ys[i]? = some y
  stop := fun i H => ∃ xs ys : List V, SqT K H a xs ∧ SqT K H b ys ∧ xs.length ≤ i ∧ ys.length ≤ i
theorem of5 {c z p q i j : Addr} (h : c ∈ [z, p, q, i, j]) : c = z ∨ c = p ∨ c = q ∨ c = i ∨ c = j := by simpa using h
theorem turn_zs {P : Program} {w : World} {K : PySem.W.Frag} {elts : List Expr} {kk : Nat} {tpos : Pos} {a b z p q i1 i2 : Addr} (D : ZipApart z p q i1 i2 a b) :
    Turn P w K (.Tuple elts kk tpos) (Its K a b) [z, p, q, i1, i2] z (fun i h => Zs h z p q .none ∧ IsPair h p (.ref i1) (.ref i2) ∧ (∃ x y, IsPair h q x y) ∧ h.IsTupleIter i1 a i ∧ h.IsTupleIter i2 b i) where
  mem := by simp
  obj := fun i h st c hc => by
    obtain ⟨s1, s2, ⟨x, y, s3⟩, ⟨o1, e1, _, d1⟩, ⟨o2, e2, _, d2⟩⟩ := st
    rcases of5 hc with rfl | rfl | rfl | rfl | rfl
    · exact ⟨_, s1, fun v g => nomatch g⟩
    · exact ⟨_, s2, fun v g => nomatch g⟩
    · exact ⟨_, s3, fun v g => nomatch g⟩
    · exact ⟨o1, e1, fun v g => by rw [d1] at g; cases g⟩
    · exact ⟨o2, e2, fun v g => by rw [d2] at g; cases g⟩
  keep := fun i h h' st k => by
    obtain ⟨s1, s2, ⟨x, y, s3⟩, s4, s5⟩ := st
    exact ⟨k z (by simp) _ s1, k p (by simp) _ s2, ⟨x, y, k q (by simp) _ s3⟩, s4.at fun o g => k i1 (by simp) o g, s5.at fun o g => k i2 (by simp) o g⟩
  item := by
    intro X hP hw hK hc i pins s σ H E I hf st hg
    subst hP hw hK
    obtain ⟨s1, s2, ⟨x0, y0, s3⟩, s4, s5⟩ := st
    obtain ⟨xs, ys, x, y, qa, qb, hx, hy⟩ := hg
    obtain ⟨its, rv, pa, _⟩ := I.tuple qa
    obtain ⟨its2, rv2, pb, _⟩ := I.tuple qb
    obtain ⟨u, hu, ru⟩ := rv.get hx
    obtain ⟨u2, hu2, ru2⟩ := rv2.get hy
    have zl : z < s.heap.objs.size := Heap.lt_size s1
    refine zs_next D s1 s2 s3 s4 s5 pa pb (x := u) (y := u2) (by simpa using hu) (by simpa using hu2) fun h' t1 t2 t3 t4 t5 _ hk => ?_
    refine ⟨_, rfl, zs_let (s := { s with heap := h' }) t1 fun h2 w1 sb => ?_⟩
    have hT : h2.get? s.heap.objs.size = some { cls := .type "tuple", data := .seq #[u, u2] } := (sb.2 _ (Nat.ne_of_gt zl)).trans t5
    have new : ObjOk X.prog X.w (upd H s.heap.objs.size (.frz { cls := .type "tuple", data := .seq #[u, u2] } (.tup [x, y]))) h2 s.heap.objs.size (.frz { cls := .type "tuple", data := .seq #[u, u2] } (.tup [x, y])) :=
      ⟨hT, by show 2 ≤ sizeLine; decide, [u, u2], .cons ru (.cons ru2 .nil), ⟨_, hT, rfl, _, rfl⟩⟩
    have kk : ∀ c o, c ∉ [z, p, q, i1, i2] → s.heap.get? c = some o → h2.get? c = some o := fun c o hb g => by
      simp only [List.mem_cons, List.not_mem_nil, or_false, not_or] at hb
      exact (sb.2 c hb.1).trans (hk c o hb.1 hb.2.2.1 hb.2.2.2.1 hb.2.2.2.2 g)
    refine ⟨.ref s.heap.objs.size, _, I.turnedNew (t' := s.toks) (ch := [z, p, q, i1, i2]) kk hf (Nat.le_refl _) new, rfl, ⟨_, _, x, y, rfl, I.hok.fresh (Nat.le_refl _), rfl, rfl, fun l hl => by rw [I.tuple_inj hl qa]; exact hx, fun l hl => by rw [I.tuple_inj hl qb]; exact hy⟩, ⟨w1, ?_, ⟨u, u2, ?_⟩, ?_, ?_⟩, fun c hcm => ?_⟩
    · exact (sb.2 _ D.TIz).trans (hk _ _ D.TIz D.TITO D.TIi1 D.TIi2 s2)
    · exact (sb.2 _ D.TOz).trans t2
    · exact t3.at fun o g => (sb.2 _ D.i1z).trans g
    · exact t4.at fun o g => (sb.2 _ D.i2z).trans g
    · have lt : c < s.heap.objs.size := by
        rcases of5 hcm with rfl | rfl | rfl | rfl | rfl
        · exact zl
        · exact Heap.lt_size s2
        · exact Heap.lt_size s3
        · obtain ⟨_, e1, _⟩ := s4
          exact Heap.lt_size e1
        · obtain ⟨_, e2, _⟩ := s5
          exact Heap.lt_size e2
      rw [upd_ne (Nat.ne_of_lt lt)]
      exact (hf c hcm).1
  done := by
    intro X hP hw hK hc i pins s σ H E I hf st hg
    subst hP hw hK
    obtain ⟨s1, s2, ⟨x0, y0, s3⟩, s4, s5⟩ := st
    obtain ⟨xs, ys, qa, qb, la, lb⟩ := hg
    obtain ⟨its, rv, pa, _⟩ := I.tuple qa
    obtain ⟨its2, rv2, pb, _⟩ := I.tuple qb
    have l1 := rv.length
    have l2 := rv2.length
    refine zs_stop (I.ok.hd hc) D s1 s2 s3 s4 s5 pa pb (by simp; omega) (by simp; omega) fun h' hk => ⟨rfl, I.turnedL (t' := s.toks) (ch := [z, p, q, i1, i2]) (fun c o hb g => ?_) hf⟩
    simp only [List.mem_cons, List.not_mem_nil, or_false, not_or] at hb
    exact hk c o hb.1 hb.2.2.1 hb.2.2.2.1 hb.2.2.2.2 g
  self := fun A i s Q E st h => zs_iter st.1 h
section
variable {M : Model} {A : Around} {E : Value → Shared → Prop} {s : Shared}
theorem cw_type {pos : Pos} {T : String} {args : List (Bool × Sem Value)} {kws : List (Option Str × Sem Value)} {Q : Value → Shared → Prop} (h1 : args.any (·.1) = false) (h2 : kws.any (·.1.isNone) = false)
    (h : wpAny M A (evalArgs (.type T) true args kws) (fun a s' => wpAny M A (call (.type T) ([] ++ a.pos) a.kw) Q E s') E s) : wpAny M A (callWith pos (.type T) [] args kws) Q E s := by
  unfold callWith
  refine wpAny_bind (wpAny_holding (wpAny_mono h (fun a s' g => wpAny_bind (wpAny_standAt ?_)) fun _ _ x => x))
  simp only [h1, h2, Bool.or_false]
  refine wpAny_bind (wpAny_pure ?_)
  exact wpAny_bind (wpAny_mono g (fun r s2 hr => wpAny_bind (wpAny_holding (wpAny_point (wpAny_pure hr)))) fun _ _ x => x)
end
/-- what zip of two tuples walks over -/
def iZs (K : PySem.W.Frag) (ta : TA) : TI := fun σ H R => ta σ H fun vs H1 => ∃ a b xs ys, vs = [.ref a, .ref b] ∧ SqT K H1 a xs ∧ SqT K H1 b ys ∧ R (Its K a b) H1
theorem pi_zs {X : Cx} {e e2 : Expr} {ta : TA} {p pos tpos kp cp : Pos} {elts : List Expr} {kk : Nat} {j : Nat} (hg : Gl X "zip") (hm : X.mg "zip" = none) (ha : PA X [e, e2] ta)
    (he : backTo pos (starEach [e, e2] X.env) = (false, eval e X.env) :: backTo pos (starEach [e2] X.env) := by rfl) (hpl : (backTo pos (starEach [e, e2] X.env)).any (·.1) = false := by rfl) :
    PI X (.Tuple elts kk tpos) (.Call (.Name "zip" p) [e, e2] [⟨some "strict", .Constant (.bool true) j cp, kp⟩] pos) (iZs X.K ta) := by
  refine ⟨fun pins s σ H R I h => ?_⟩
  show wpAny _ _ (eval (.Name "zip" p) X.env >>= fun f => callWith pos f [] (backTo pos (starEach [e, e2] X.env)) (backToKw pos (keywordEach [⟨some "strict", .Constant (.bool true) j cp, kp⟩] X.env))) _ _ _
  refine wpAny_bind (ld_blt I hg hm PyProof.Rows.boot_zip ?_)
  refine cw_type hpl (by rfl) ?_
  have run := ha.run pos pins s σ H _ I h
  rw [he] at run ⊢
  refine evalArgs_kwB (by rfl) (thn run fun us s1 ⟨vs, H1, I1, r1, q1⟩ => ?_)
  refine kws_cons (wpAny_pure (kws_nil ?_))
  obtain ⟨a, b, xs, ys, ex, qa, qb, q1⟩ := q1
  subst ex
  cases r1 with
  | cons r rr =>
    cases rr with
    | cons r' rr =>
      cases rr
      cases r
      cases r'
      obtain ⟨its, rv, pa, _⟩ := I1.tuple qa
      obtain ⟨its2, rv2, pb, _⟩ := I1.tuple qb
      obtain ⟨o1, ho1, _⟩ := id pa
      obtain ⟨o2, ho2, _⟩ := id pb
      show wpAny _ _ (call (.type "zip") [.ref a, .ref b] [(Str.ofString "strict", .bool true)]) _ _ _
      refine zs_call (xs := its.toArray) (ys := its2.toArray) pa pb fun h' g1 g2 g3 g4 g5 hk => zs_iter g1 ?_
      refine ⟨s1.heap.objs.size + 4, [s1.heap.objs.size + 4, s1.heap.objs.size + 2, s1.heap.objs.size + 3, s1.heap.objs.size, s1.heap.objs.size + 1], _, _, H1, rfl, I1.kept (t' := s1.toks) hk,
        turn_zs (PySem.W.ktu_apart s1.heap.objs.size a b (Heap.lt_size ho1) (Heap.lt_size ho2)), ⟨g1, g2, ⟨_, _, g3⟩, g4, g5⟩, fun c hcm => ?_, q1⟩
      have hle : s1.heap.objs.size ≤ c := by
        rcases of5 hcm with rfl | rfl | rfl | rfl | rfl <;> omega
      exact I1.fpOk hle (I1.hok.fresh hle)
end Dz

/-! DnX: zip strict by content; dict comprehensions -/
namespace Dn
open PySem PySem.Spec PyProof.Rows L2 Dz
section
variable {Z : Zx} {H0 : Hp} {m0 : List Addr}
def zprD (xs ys : List D) : List D := List.zipWith (fun x y => .tup [x, y]) xs ys
theorem itok_zs {a b : Addr} {xs ys : List V} {ds es : List D} (qa : SqT Z.K H0 a xs) (qb : SqT Z.K H0 b ys) (ra : RelDs Z H0 m0 ds xs) (rb : RelDs Z H0 m0 es ys) (hl : ds.length = es.length) : ItOk Z H0 m0 (Its Z.K a b) ⟨none, zprD ds es⟩ where
  go := fun H m M i d st hM _ e => by
    have qa' := SqT.keep st.tk qa
    have qb' := SqT.keep st.tk qb
    have e' : ∃ d1 d2, ds[i]? = some d1 ∧ es[i]? = some d2 ∧ d = .tup [d1, d2] := by
      unfold zprD at e
      rw [List.getElem?_zipWith] at e
      cases h1 : ds[i]? with
      | none => rw [h1] at e; cases e
      | some d1 =>
        cases h2 : es[i]? with
        | none => rw [h1, h2] at e; cases e
        | some d2 =>
          rw [h1, h2] at e
          exact ⟨d1, d2, rfl, rfl, (Option.some.inj e).symm⟩
    obtain ⟨d1, d2, h1, h2, rfl⟩ := e'
    obtain ⟨v1, g1, r1⟩ := (st.rels ra).get h1
    obtain ⟨v2, g2, r2⟩ := (st.rels rb).get h2
    refine ⟨⟨xs, ys, v1, v2, qa', qb', g1, g2⟩, fun x H' y => ?_⟩
    obtain ⟨T, o, x1, x2, rfl, hT, ho, rfl, k1, k2⟩ := y
    have := k1 xs qa'
    rw [g1] at this
    cases this
    have := k2 ys qb'
    rw [g2] at this
    cases this
    have stl : Stp H m (upd H T (.frz o (.tup [v1, v2]))) m := stp_laid hT
    exact ⟨stl, hrel_laid hM hT, ⟨T, [v1, v2], rfl, TupN.of ho, ⟨v1, [v2], rfl, stl.rel r1, ⟨v2, [], rfl, stl.rel r2, rfl⟩⟩⟩, fun b' u' hb => by
      rw [upd_ne (fun z => by rw [z, hT] at hb; cases hb)]
      exact hb⟩
  stop := fun H m M st hM _ => by
    refine ⟨xs, ys, SqT.keep st.tk qa, SqT.keep st.tk qb, ?_, ?_⟩
    · rw [ra.length]; show _ ≤ (zprD ds es).length; unfold zprD; rw [List.length_zipWith]; omega
    · rw [rb.length]; show _ ≤ (zprD ds es).length; unfold zprD; rw [List.length_zipWith]; omega
end
def tupOf : D → Option (List D)
  | .tup xs => some xs
  | _ => none
def zip2W (d e : D) : C Wk := match tupOf d, tupOf e with
  | some xs, some ys => if xs.length = ys.length then C.ret ⟨none, zprD xs ys⟩ else C.bad
  | _, _ => C.bad
def zipW : List D → C Wk
  | [d, e] => zip2W d e
  | _ => C.bad
theorem tupOf_some {d : D} {xs : List D} (h : tupOf d = some xs) : d = .tup xs := by
  cases d <;> first | cases h; done | (cases h; rfl) | simp [tupOf] at h
section
variable {X : Cx} {W : XK}
theorem mi_zs {e e2 : Expr} {t : AD} {p pos tpos kp cp : Pos} {elts : List Expr} {kk j : Nat} (hg : Gl X "zip") (hm : X.mg "zip" = none) (ha : MA X W [e, e2] t)
    (he : backTo pos (starEach [e, e2] X.env) = (false, eval e X.env) :: backTo pos (starEach [e2] X.env) := by rfl) (hpl : (backTo pos (starEach [e, e2] X.env)).any (·.1) = false := by rfl) :
    MI X W (.Tuple elts kk tpos) (.Call (.Name "zip" p) [e, e2] [⟨some "strict", .Constant (.bool true) j cp, kp⟩] pos) (fun s => (t s).bind zipW) := by
  refine pi_mono (pi_zs hg hm ha he hpl) fun σ H R h => ?_
  obtain ⟨m, s, M, hs, hM, q⟩ := h
  refine ⟨m, s, M, hs, hM, q.bind.mono fun ds H1 m1 M1 st1 hM1 p1 vs rv => ?_⟩
  cases ds with
  | nil => exact (show False from p1).elim
  | cons d r =>
    cases r with
    | nil => exact (show False from p1).elim
    | cons d' r =>
      cases r with
      | cons _ _ => exact (show False from p1).elim
      | nil =>
        have p3 : Post (zOf X) W H1 m1 (zip2W d d' M1) fun w H' m' _ => ∀ J, ItOk (zOf X) H' m' J w → R J H' := p1
        unfold zip2W at p3
        cases h1 : tupOf d with
        | none => simp only [h1] at p3; exact (show False from p3).elim
        | some xs =>
          cases h2 : tupOf d' with
          | none => simp only [h1, h2] at p3; exact (show False from p3).elim
          | some ys =>
            simp only [h1, h2] at p3
            split at p3
            · rename_i hl
              have z1 := tupOf_some h1
              have z2 := tupOf_some h2
              subst z1 z2
              obtain ⟨v, u, rfl, r1, r2⟩ := rels2 rv
              obtain ⟨a, as, rfl, qa, ra⟩ := r1
              obtain ⟨b, bs, rfl, qb, rb⟩ := r2
              exact ⟨a, b, as, bs, rfl, qa.sq, qb.sq, p3.ok hM1 _ (itok_zs qa.sq qb.sq ra rb hl)⟩
            · exact (show False from p3).elim
/-- {k: v for .. in .. if ..} -/
noncomputable def compK (w : Wk) (g : GD) (tt : TD) (tk te : ED) (s0 : Sl) : List D → List (Key × D) → C (List (Key × D))
  | [], acc => fun M => if Stays w M then .ok acc M else .bad
  | d :: ds, acc => fun M => if Stays w M then ((g d s0).noX.bind fun s1 => (tt s1).noX.bind fun b => if b = true then (tk s1).noX.bind fun k => (te s1).noX.bind fun y => match keyD k with
    | some kk => compK w g tt tk te s0 ds (putD acc kk y)
    | none => C.bad else compK w g tt tk te s0 ds acc) M else .bad
noncomputable def eDcomp (vs : List Nat) (tw : WD) (g : GD) (tt : TD) (tk te : ED) : ED := fun s => (tw s).bind fun w => if w.items.length < sizeLine then (compK w g tt tk te (wipeD s vs) w.items []).bind fun kvs => fun M => .ok (.ref M.length) (M ++ [.dct kvs]) else C.bad
theorem compK_cons {w : Wk} {g : GD} {tt : TD} {tk te : ED} {s0 : Sl} {d : D} {ds : List D} {acc : List (Key × D)} {M : Mh} : compK w g tt tk te s0 (d :: ds) acc M = if Stays w M then ((g d s0).noX.bind fun s1 => (tt s1).noX.bind fun b => if b = true then (tk s1).noX.bind fun k => (te s1).noX.bind fun y => match keyD k with
    | some kk => compK w g tt tk te s0 ds (putD acc kk y)
    | none => C.bad else compK w g tt tk te s0 ds acc) M else .bad := rfl
theorem compK_nil {w : Wk} {g : GD} {tt : TD} {tk te : ED} {s0 : Sl} {acc : List (Key × D)} {M : Mh} : compK w g tt tk te s0 [] acc M = if Stays w M then .ok acc M else .bad := rfl
theorem putD_len (acc : List (Key × D)) (k : Key) (y : D) : (putD acc k y).length ≤ acc.length + 1 := by
  unfold putD
  split
  · rw [List.length_map]; omega
  · rw [List.length_append]; simp
abbrev endK : List (Key × D) → C D := fun kvs => fun M => .ok (.ref M.length) (M ++ [.dct kvs])
theorem dc_imp {vs : List Nat} {tw : WD} {g : GD} {tt : TD} {tk te : ED} (σ : L2.St) (H : Hp) (Q : VK) (h : tD (zOf X) W (eDcomp vs tw g tt tk te) σ H Q) :
    tDc (tDI (zOf X) W tw) (gD (zOf X) E0 (some vs) g) (tDT (zOf X) E0 tt) (tD (zOf X) E0 tk) (tD (zOf X) E0 te) vs σ H Q := by
  obtain ⟨m, s, M, hs, hM, p⟩ := h
  refine ⟨m, s, M, hs, hM, p.bind.mono fun w H1 m1 M1 st1 hM1 p1 J hJ Dl hD => ?_⟩
  split at p1
  case isFalse => exact p1.elim
  rename_i hlen
  have hDm : Dl ∉ m1 := hM1.new hD
  have stl : Stp H1 m1 (upd H1 Dl (.dK [])) m1 := stp_laid hD
  have rs1 : RelS (zOf X) H1 m1 (wipeD s vs) (L2.wipe σ vs) := (hs.mono st1).wipe vs
  refine ⟨fun i k H => k = w.items.length - i ∧ i ≤ w.items.length ∧ ∃ m M acc av, Stp H1 m1 H m ∧ H Dl = some (.dK av) ∧ Dl ∉ m ∧ RelKs (zOf X) H m acc av ∧ HRel (zOf X) H m M ∧ acc.length ≤ i ∧
      Post (zOf X) W H1 m1 ((compK w g tt tk te (wipeD s vs) (w.items.drop i) acc).bind endK M) (fun d' H' m' _ => ∀ v, RelD (zOf X) H' m' d' v → Q v H'),
    ⟨w.items.length, by omega, by omega, m1, M1, [], [], stl, upd_same, hDm, rfl, hrel_laid hM1 hD, Nat.le_refl _, by rw [List.drop_zero]; exact p1⟩, ?_⟩
  rintro i k H2 ⟨rfl, hi, m2, M2, acc, av, st2, hDl, hDm2, racc, hM2, hal, p2⟩
  have nt : ∀ (l : List (Key × V)) xs, HO.dK l ≠ HO.tup xs := fun _ _ z => by cases z
  have nf : ∀ (l : List (Key × V)) a b, HO.dK l ≠ HO.frz a b := fun _ _ _ z => by cases z
  by_cases hlt : i < w.items.length
  · rw [List.drop_eq_getElem_cons hlt] at p2
    have hsy : Stays w M2 := by
      by_cases z : Stays w M2
      · exact z
      · unfold C.bind at p2
        rw [compK_cons, if_neg z] at p2
        exact p2.elim
    have p2 : Post (zOf X) W H1 m1 ((g w.items[i] (wipeD s vs)).noX.bind (fun s1 => (tt s1).noX.bind fun b => (if b = true then (tk s1).noX.bind fun k => (te s1).noX.bind fun y => match keyD k with
        | some kk => compK w g tt tk te (wipeD s vs) (w.items.drop (i + 1)) (putD acc kk y)
        | none => C.bad else compK w g tt tk te (wipeD s vs) (w.items.drop (i + 1)) acc).bind endK) M2) (fun d' H' m' _ => ∀ v, RelD (zOf X) H' m' d' v → Q v H') := by
      have e := bind_at (g := endK) (M := M2) (f := compK w g tt tk te (wipeD s vs) (w.items[i] :: w.items.drop (i + 1)) acc) (f' := (g w.items[i] (wipeD s vs)).noX.bind fun s1 => (tt s1).noX.bind fun b => if b = true then (tk s1).noX.bind fun k => (te s1).noX.bind fun y => match keyD k with
        | some kk => compK w g tt tk te (wipeD s vs) (w.items.drop (i + 1)) (putD acc kk y)
        | none => C.bad else compK w g tt tk te (wipeD s vs) (w.items.drop (i + 1)) acc) (by rw [compK_cons, if_pos hsy])
      rw [bind_bind] at e
      have e2 : ((g w.items[i] (wipeD s vs)).noX.bind fun s1 => ((tt s1).noX.bind fun b => if b = true then (tk s1).noX.bind fun k => (te s1).noX.bind fun y => match keyD k with
        | some kk => compK w g tt tk te (wipeD s vs) (w.items.drop (i + 1)) (putD acc kk y)
        | none => C.bad else compK w g tt tk te (wipeD s vs) (w.items.drop (i + 1)) acc).bind endK) = ((g w.items[i] (wipeD s vs)).noX.bind fun s1 => (tt s1).noX.bind fun b => (if b = true then (tk s1).noX.bind fun k => (te s1).noX.bind fun y => match keyD k with
        | some kk => compK w g tt tk te (wipeD s vs) (w.items.drop (i + 1)) (putD acc kk y)
        | none => C.bad else compK w g tt tk te (wipeD s vs) (w.items.drop (i + 1)) acc).bind endK) := by
        congr 1
        funext s1
        rw [bind_bind]
      rw [e, e2] at p2
      exact p2
    obtain ⟨hgo, hy⟩ := hJ.go H2 m2 M2 i _ st2.w hM2 hsy (List.getElem?_eq_getElem hlt)
    refine .inr ⟨hgo, fun H' => ∃ m M acc av, Stp H1 m1 H' m ∧ H' Dl = some (.dK av) ∧ Dl ∉ m ∧ RelKs (zOf X) H' m acc av ∧ HRel (zOf X) H' m M ∧ acc.length ≤ i + 1 ∧
        Post (zOf X) W H1 m1 ((compK w g tt tk te (wipeD s vs) (w.items.drop (i + 1)) acc).bind endK M) (fun d' H' m' _ => ∀ v, RelD (zOf X) H' m' d' v → Q v H'),
      fun H' hN => ⟨w.items.length - (i + 1), by omega, rfl, hlt, hN⟩, fun x H' y => ?_⟩
    obtain ⟨st3, hM3, r3, k3⟩ := hy x H' y
    obtain ⟨hD3, hm3⟩ := keep_out st3 hDl hDm2
    have rs3 : RelS (zOf X) H' m2 (wipeD s vs) (L2.wipe σ vs) := rs1.mono (st2.trans st3)
    refine ⟨m2, _, _, M2, r3, rs3, hM3, (Post.atX p2).mono fun s4 H4 m4 M4 st4 hM4 p4 σ4 rs4 w4 => ?_⟩
    obtain ⟨hD4, hm4⟩ := keep_out st4 hD3 hm3
    refine ⟨by
      have w4 : L2.wipe σ4 vs = L2.wipe (L2.wipe σ vs) vs := w4
      rw [w4]
      exact wipe_wipe σ vs, m4, s4, M4, rs4, hM4, (Post.atX p4).mono fun b H5 m5 M5 st5 hM5 p5 => ?_⟩
    obtain ⟨hD5, hm5⟩ := keep_out st5 hD4 hm4
    cases b with
    | false =>
      rw [if_neg (by decide)]
      rw [if_neg (by decide)] at p5
      exact ⟨m5, M5, acc, av, ((st2.trans st3).trans st4).trans st5, hD5, hm5, (st5.relks (st4.relks (st3.relks racc))), hM5, by omega, p5⟩
    | true =>
      rw [if_pos rfl]
      rw [if_pos rfl, bind_bind] at p5
      refine ⟨m5, s4, M5, rs4.mono st5, hM5, (Post.atX p5).mono fun y H6 m6 M6 st6 hM6 p6 yv ry => ?_⟩
      obtain ⟨hD6, hm6⟩ := keep_out st6 hD5 hm5
      rw [bind_bind] at p6
      refine ⟨m6, s4, M6, (rs4.mono st5).mono st6, hM6, (Post.atX p6).mono fun z H7 m7 M7 st7 hM7 p7 zv rz => ?_⟩
      obtain ⟨hD7, hm7⟩ := keep_out st7 hD6 hm6
      cases hk : keyD y with
      | none => simp only [hk] at p7; exact (show False from p7).elim
      | some kk =>
        simp only [hk] at p7
        have st17 : Stp H1 m1 H7 m7 := ((((st2.trans st3).trans st4).trans st5).trans st6).trans st7
        have ra7 : RelKs (zOf X) H7 m7 acc av := st7.relks (st6.relks (st5.relks (st4.relks (st3.relks racc))))
        have hz : av.length < sizeLine := by rw [ra7.length]; omega
        have tk7 : TK H7 (upd H7 Dl (.dK (putK av kk zv))) := tk_upd hD7 (nt _) (nf _)
        have hpl := putD_len acc kk z
        exact ⟨av, kk, keyD_v ry hk, hD7, hz, m7, M7, putD acc kk z, putK av kk zv, stp_out st17 hD hD7 (nt _) (nf _), upd_same, hm7, RelKs.keep tk7 (fun _ _ z => z) _ _ (ra7.put rz), hrel_out hM7 hD7 (nt _) (nf _) hm7, by omega, p7⟩
  · have e : i = w.items.length := by omega
    subst e
    rw [List.drop_length] at p2
    have hsy : Stays w M2 := by
      by_cases z : Stays w M2
      · exact z
      · unfold C.bind at p2
        rw [compK_nil, if_neg z] at p2
        exact p2.elim
    unfold C.bind at p2
    rw [compK_nil, if_pos hsy] at p2
    exact .inl ⟨hJ.stop H2 m2 M2 st2.w hM2 hsy, p2 H2 (m2 ++ [Dl]) (stp_add st2 hD) (hrel_addO hM2 hDm2 ⟨_, hDl, RelKs.keep (TK.refl H2) ix_new _ _ racc⟩) _ ⟨Dl, rfl, len_new hM2⟩⟩
variable {tg iter kx vx : Expr} {ifs : List Expr} {scope : Scope} {own : List (Str × Nat)} {pos : Pos}
theorem me_dc {tw : WD} {g : GD} {tt : TD} {tk te : ED} (hc : X.calm = true) (hN : X.N.Nodup) (hi : MI X W tg iter tw) (ok : BlkOk X.N X.env.scope scope own)
    (hg : ∀ (s : Shared) (H : Hp) (C : Addr) (cl : List (Str × Addr)) (fp : List Addr), MG (X.blk s H scope (compEnvC scope cl C X.env) fp) E0 (some (own.map (·.2))) tg g)
    (ht : ∀ (s : Shared) (H : Hp) (C : Addr) (cl : List (Str × Addr)) (fp : List Addr), PTs (X.blk s H scope (compEnvC scope cl C X.env) fp) ifs (tDT (zOf X) E0 tt))
    (hk : ∀ (s : Shared) (H : Hp) (C : Addr) (cl : List (Str × Addr)) (fp : List Addr), ME (X.blk s H scope (compEnvC scope cl C X.env) fp) E0 kx tk)
    (he : ∀ (s : Shared) (H : Hp) (C : Addr) (cl : List (Str × Addr)) (fp : List Addr), ME (X.blk s H scope (compEnvC scope cl C X.env) fp) E0 vx te) (hs : ∀ x, foldedSetIterable iter X.env x = pure x := by intro _; rfl) :
    ME X W (.DictComp kx vx [⟨tg, iter, ifs, 0⟩] scope pos) (eDcomp (own.map (·.2)) tw g tt tk te) := pe_mono (pe_dc hc hN hi ok hg ht hk he hs) dc_imp
end
theorem RoomG.u66 {k : Nat} {A : Around} (r : RoomG k A) : A.units + 66 < cLine := by have := r.r.un; omega
def min2D (ds : List D) : C D := match ds with
  | [.int i, .int j] => C.ret (.int (if j < i then j else i))
  | _ => C.bad
section
variable {X : Cx} {W : XK}
theorem cd_min2 (hc : X.calm = true) : CallR X (.builtin "min") (rDn (zOf X) W min2D) := by
  intro pins s σ H xs us Q I rv hq
  obtain ⟨m, ds, M, rd, hM, p⟩ := hq
  by_cases hx : ∃ i j, ds = [.int i, .int j]
  · obtain ⟨i, j, rfl⟩ := hx
    have p : Post (zOf X) W H m (Dn.R.ok (D.int (if j < i then j else i)) M) (fun d' H' m' _ => ∀ v, RelD (zOf X) H' m' d' v → Q v H') := p
    obtain ⟨v, u, rfl, r1, r2⟩ := rels2 rd
    have r1 : v = .int i := r1
    have r2 : u = .int j := r2
    subst r1 r2
    exact call_min2 hc pins s σ H _ us Q I rv ⟨i, j, rfl, p.ok hM _ rfl⟩
  · exfalso
    unfold min2D at p
    split at p
    · exact hx ⟨_, _, rfl⟩
    · exact p
end
end Dn

/-! DnY: tuple(zip(x, y, strict=True)) over two tuples -/
namespace Dz
open PySem PySem.Spec PyProof.Rows L2 RZ PySem.W
/-- the tuple at T is out still -/
abbrev Zh (h : Heap) (z p q T : Addr) (f : Bool) : Prop := h.get? z = some { cls := .type "zip", dict := none, data := .fields #[rawInt T, .bool f, .bool true, .ref p, .ref q], slots := #[] }
section
variable {prog : Program} {w : World} {A : Around} {E : Value → Shared → Prop} {s : Shared}
theorem zh_free {z p q T : Addr} {f : Bool} {o : Obj} {Q : Bool → Shared → Prop} (hz : Zh s.heap z p q T f) (ho : s.heap.get? T = some o)
    (h : ∀ h', Zh h' z p q T true → Heap.SameBut z s.heap h' → Q false { s with heap := h' }) : wpAny (model prog w) A (Builtin.SmallTypes.ownedTupleIsFree (.ref z)) Q E s := by
  unfold Builtin.SmallTypes.ownedTupleIsFree
  refine wpAny_bind (wpAny_field hz rfl (x := rawInt T) rfl ?_)
  refine wpAny_bind (m := loadIfAlive ((T : Int).toNat)) ?_
  have e : ((T : Int).toNat) = T := Int.toNat_natCast T
  rw [e]
  refine kdx_alive ho ?_
  simp only [Option.isNone_some, Bool.false_eq_true, if_false]
  refine wpAny_bind (wpAny_field hz rfl (x := .bool f) rfl ?_)
  cases f
  · have e1 : (Value.bool false != Value.bool true) = true := rfl
    rw [if_pos e1]
    exact wpAny_bind (wpAny_setField_rec hz (by simp) fun ha za sa => wpAny_pure (h ha za sa))
  · have e1 : ¬ ((Value.bool true != Value.bool true) = true) := Bool.false_ne_true
    rw [if_neg e1]
    exact wpAny_pure (h s.heap hz (Heap.SameBut.refl _ _))
theorem zh_item {z p q T i1 i2 l1 l2 : Addr} {f : Bool} {o : Obj} {k1 k2 : Nat} {xs ys : Array Value} {x y : Value} {Q : Value → Shared → Prop} (D : ZipApart z p q i1 i2 l1 l2)
    (hz : Zh s.heap z p q T f) (ho : s.heap.get? T = some o) (hp : IsPair s.heap p (.ref i1) (.ref i2))
    (h1 : s.heap.IsTupleIter i1 l1 k1) (h2 : s.heap.IsTupleIter i2 l2 k2) (hl1 : s.heap.IsTuple l1 xs) (hl2 : s.heap.IsTuple l2 ys) (hx : xs[k1]? = some x) (hy : ys[k2]? = some y)
    (hQ : ∀ h', Zh h' z p q T true → h'.IsTupleIter i1 l1 (k1 + 1) → h'.IsTupleIter i2 l2 (k2 + 1) → IsPair h' s.heap.objs.size x y → h'.objs.size = s.heap.objs.size + 1 →
      (∀ c o, c ≠ z → c ≠ i1 → c ≠ i2 → s.heap.get? c = some o → h'.get? c = some o) → Q (.ref s.heap.objs.size) { s with heap := h' }) :
    wpAny (model prog w) A (Builtin.«zip.__next__» ⟨[.ref z], []⟩) (fun fin s' => ∃ v, fin = .done (.ret v) ∧ Q v s') E s := by
  show wpAny _ _ (field (.ref z) 2 >>= _) _ _ _
  refine wpAny_bind (wpAny_field hz rfl (x := .bool true) rfl ?_)
  show wpAny _ _ (field (.ref z) 3 >>= _) _ _ _
  refine wpAny_bind (wpAny_field hz rfl (x := .ref p) rfl ?_)
  refine wpAny_bind (wpAny_seqItems hp rfl ?_)
  refine wpAny_bind (m := Builtin.SmallTypes.ownedTupleIsFree (.ref z)) (zh_free hz ho fun ha za sa => ?_)
  simp only [Bool.false_eq_true, if_false]
  refine wpAny_bind ?_
  rw [← Array.forIn_toList]
  simp only [List.forIn_cons, List.forIn_nil]
  refine wpAny_bind (wpAny_bind (wpAny_holding ?_))
  show wpAny _ _ (Builtin.SmallTypes.nextOrEnd (.ref i1)) _ _ _
  refine ne_item (s := { s with heap := ha }) (h1.extBut sa.extBut D.i1z) (hl1.extBut sa.extBut D.l1z) hx fun hb n1 sb => ?_
  refine wpAny_pure ?_
  refine wpAny_bind (wpAny_bind (wpAny_holding ?_))
  show wpAny _ _ (Builtin.SmallTypes.nextOrEnd (.ref i2)) _ _ _
  refine ne_item (s := { s with heap := hb }) ((h2.extBut sa.extBut D.i2z).extBut sb.extBut D.i12.symm) ((hl2.extBut sa.extBut D.l2z).extBut sb.extBut D.l2i1) hy fun hd n2 sd => ?_
  refine wpAny_pure (wpAny_pure ?_)
  refine wpAny_bind (m := newTuple [x, y]) (wpAny_newTuple ?_)
  have sz : hd.objs.size = s.heap.objs.size := by rw [sd.1, sb.1, sa.1]
  have zd : Zh hd z p q T true := sd.extBut _ _ D.i2z.symm (sb.extBut _ _ D.i1z.symm za)
  have kd : ∀ c o, c ≠ z → c ≠ i1 → c ≠ i2 → s.heap.get? c = some o → hd.get? c = some o := fun c o c1 c2 c3 g => sd.extBut _ _ c3 (sb.extBut _ _ c2 (sa.extBut _ _ c1 g))
  have d1 : hd.IsTupleIter i1 l1 (k1 + 1) := n1.extBut sd.extBut D.i12
  refine wpAny_pure ⟨_, rfl, ?_⟩
  show Q (.ref hd.objs.size) _
  have up : ∀ c o, hd.get? c = some o → (hd.push { cls := .type "tuple", data := .seq #[x, y] }).get? c = some o := fun c o g => Heap.get?_push_of_some _ g
  have tk : IsPair (hd.push { cls := .type "tuple", data := .seq #[x, y] }) hd.objs.size x y := Heap.get?_push_size _ rfl
  have nk : (hd.push { cls := .type "tuple", data := .seq #[x, y] }).objs.size = hd.objs.size + 1 := Heap.size_push ..
  rw [sz] at tk nk ⊢
  exact hQ _ (up _ _ zd) (d1.at fun o g => up _ o g) (n2.at fun o g => up _ o g) tk nk fun c o c1 c2 c3 g => up c o (kd c o c1 c2 c3 g)
theorem zh_end {z p q T i1 i2 l1 l2 : Addr} {f : Bool} {o : Obj} {k1 k2 : Nat} {xs ys : Array Value} {Q : Fin → Shared → Prop} (hh : A.handled = none) (D : ZipApart z p q i1 i2 l1 l2)
    (hz : Zh s.heap z p q T f) (ho : s.heap.get? T = some o) (hp : IsPair s.heap p (.ref i1) (.ref i2))
    (h1 : s.heap.IsTupleIter i1 l1 k1) (h2 : s.heap.IsTupleIter i2 l2 k2) (hl1 : s.heap.IsTuple l1 xs) (hl2 : s.heap.IsTuple l2 ys) (hx : xs[k1]? = none) (hy : ys[k2]? = none)
    (hE : ∀ h' e, (∀ c o, c ≠ z → c ≠ i1 → c ≠ i2 → s.heap.get? c = some o → h'.get? c = some o) → (∃ o, h'.get? e = some o ∧ o.cls = .type "StopIteration") → E (.ref e) { s with heap := h' }) :
    wpAny (model prog w) A (Builtin.«zip.__next__» ⟨[.ref z], []⟩) Q E s := by
  show wpAny _ _ (field (.ref z) 2 >>= _) _ _ _
  refine wpAny_bind (wpAny_field hz rfl (x := .bool true) rfl ?_)
  show wpAny _ _ (field (.ref z) 3 >>= _) _ _ _
  refine wpAny_bind (wpAny_field hz rfl (x := .ref p) rfl ?_)
  refine wpAny_bind (wpAny_seqItems hp rfl ?_)
  refine wpAny_bind (m := Builtin.SmallTypes.ownedTupleIsFree (.ref z)) (zh_free hz ho fun ha za sa => ?_)
  simp only [Bool.false_eq_true, if_false]
  refine wpAny_bind ?_
  rw [← Array.forIn_toList]
  simp only [List.forIn_cons, List.forIn_nil]
  refine wpAny_bind (wpAny_bind (wpAny_holding ?_))
  show wpAny _ _ (Builtin.SmallTypes.nextOrEnd (.ref i1)) _ _ _
  refine ne_end (s := { s with heap := ha }) hh (h1.extBut sa.extBut D.i1z) (hl1.extBut sa.extBut D.l1z) hx fun hb sb => ?_
  refine wpAny_bind ?_
  show wpAny _ _ (forIn [((Value.ref i2 : Value), 1)] PUnit.unit _ >>= _) _ _ _
  refine wpAny_bind ?_
  simp only [List.forIn_cons, List.forIn_nil]
  have ic : hb.IsTupleIter i2 l2 k2 := (h2.extBut sa.extBut D.i2z).extBut sb D.i12.symm
  have lc : hb.IsTuple l2 ys := (hl2.extBut sa.extBut D.l2z).extBut sb D.l2i1
  refine wpAny_bind (wpAny_bind (ne_end (s := { s with heap := hb }) hh ic lc hy fun hd sd => ?_))
  have kd : ∀ c o, c ≠ z → c ≠ i1 → c ≠ i2 → s.heap.get? c = some o → hd.get? c = some o := fun c o c1 c3 c4 g =>
    sd _ _ c4 (sb _ _ c3 (sa.extBut _ _ c1 g))
  simp only [Option.isSome_none, Bool.false_eq_true, if_false]
  refine wpAny_pure (wpAny_pure ?_)
  refine wpAny_bind (wpAny_rule ?_)
  show wpAny _ _ (newExc (.type "StopIteration") [] >>= _) _ _ _
  refine wpAny_bind ?_
  simp only [newExc, newTuple]
  refine wpAny_bind (wpAny_newObj_type ?_ (by size_fits))
  refine wpAny_bind (m := firstArgMember _ _) (wpAny_of_eq (a := Value.none) (by first | rfl | (simp only [firstArgMember]; rfl)) ?_)
  refine wpAny_newObj_type ?_ (by size_fits)
  simp only [raiseNew]
  refine wpAny_bind (wpAny_handled ?_)
  first | rw [show A.in1.handled = none from hh] | rw [hh]
  refine wpAny_bind (wpAny_pure (wpAny_throw ?_))
  exact hE _ _ (fun c o c1 c3 c4 g => Heap.get?_push_of_some _ (Heap.get?_push_of_some _ (kd c o c1 c3 c4 g))) ⟨_, Heap.get?_push_size _ rfl, rfl⟩
theorem zh_next {z p q T i1 i2 l1 l2 : Addr} {f : Bool} {o : Obj} {k1 k2 : Nat} {xs ys : Array Value} {x y : Value} {Q : Option Value → Shared → Prop} (D : ZipApart z p q i1 i2 l1 l2)
    (hz : Zh s.heap z p q T f) (ho : s.heap.get? T = some o) (hp : IsPair s.heap p (.ref i1) (.ref i2))
    (h1 : s.heap.IsTupleIter i1 l1 k1) (h2 : s.heap.IsTupleIter i2 l2 k2) (hl1 : s.heap.IsTuple l1 xs) (hl2 : s.heap.IsTuple l2 ys) (hx : xs[k1]? = some x) (hy : ys[k2]? = some y)
    (hQ : ∀ h', Zh h' z p q T true → h'.IsTupleIter i1 l1 (k1 + 1) → h'.IsTupleIter i2 l2 (k2 + 1) → IsPair h' s.heap.objs.size x y → h'.objs.size = s.heap.objs.size + 1 →
      (∀ c o, c ≠ z → c ≠ i1 → c ≠ i2 → s.heap.get? c = some o → h'.get? c = some o) → Q (some (.ref s.heap.objs.size)) { s with heap := h' }) :
    wpAny (model prog w) A (pyNext (.ref z)) Q E s := by
  have ty : s.TypeIs (.ref z) "zip" := ⟨_, hz, rfl⟩
  unfold pyNext
  have run := zh_item (prog := prog) (w := w) (A := A.in1) (s := s) (E := fun e s' => wpAny (model prog w) A (do if ← isInstance e (.type "StopIteration") then pure none else throw e) Q E s') (Q := fun v s' => wpAny (model prog w) A (pure (some v)) Q E s') D hz ho hp h1 h2 hl1 hl2 hx hy
    fun h' a1 a3 a4 a5 a6 a7 => wpAny_pure (hQ h' a1 a3 a4 a5 a6 a7)
  exact wpAny_bind (wpAny_attempt (wpAny_callSpecial?_slot (name := Str.ofString "__next__") ty F.slot_zip_next (wpAny_call_entry F.slot_zip_next ty F.entry_zip_next run (F.args_zip_next_1 _))))
theorem zh_stop {z p q T i1 i2 l1 l2 : Addr} {f : Bool} {o : Obj} {k1 k2 : Nat} {xs ys : Array Value} {Q : Option Value → Shared → Prop} (hh : A.handled = none) (D : ZipApart z p q i1 i2 l1 l2)
    (hz : Zh s.heap z p q T f) (ho : s.heap.get? T = some o) (hp : IsPair s.heap p (.ref i1) (.ref i2))
    (h1 : s.heap.IsTupleIter i1 l1 k1) (h2 : s.heap.IsTupleIter i2 l2 k2) (hl1 : s.heap.IsTuple l1 xs) (hl2 : s.heap.IsTuple l2 ys) (hx : xs[k1]? = none) (hy : ys[k2]? = none)
    (hQ : ∀ h', (∀ c o, c ≠ z → c ≠ i1 → c ≠ i2 → s.heap.get? c = some o → h'.get? c = some o) → Q none { s with heap := h' }) : wpAny (model prog w) A (pyNext (.ref z)) Q E s := by
  have ty : s.TypeIs (.ref z) "zip" := ⟨_, hz, rfl⟩
  unfold pyNext
  refine wpAny_bind (wpAny_attempt (wpAny_callSpecial?_slot (name := Str.ofString "__next__") ty F.slot_zip_next (wpAny_call_entry F.slot_zip_next ty F.entry_zip_next (zh_end hh D hz ho hp h1 h2 hl1 hl2 hx hy fun h' e hk he => ?_) (F.args_zip_next_1 _))))
  obtain ⟨o, ho, hc⟩ := he
  refine wpAny_bind (wpAny_isInstance (T := "StopIteration") (b := true) ⟨o, ho, hc⟩ isSubtype_stop ?_)
  exact wpAny_pure (hQ _ hk)
end
/-- new pairs laid, one behind the other -/
inductive Lz : Hp → List V → List V → Hp → List Addr → Prop where
  | nil (H : Hp) : Lz H [] [] H []
  | cons {H H' : Hp} {x y : V} {xs ys : List V} {as : List Addr} {T : Addr} {o : Obj} (h : H T = none) (ho : o.dict = none) (r : Lz (upd H T (.frz o (.tup [x, y]))) xs ys H' as) : Lz H (x :: xs) (y :: ys) H' (T :: as)
structure Zw (h : Heap) (z p q i1 i2 a b S : Addr) (i : Nat) (as : List Addr) (c : Nat) : Prop where
  zip : (Zs h z p q .none ∧ ∃ x y, IsPair h q x y) ∨ ∃ T f o, T ∉ [z, p, q, i1, i2, S] ∧ Zh h z p q T f ∧ h.get? T = some o
  pp : IsPair h p (.ref i1) (.ref i2)
  j1 : h.IsTupleIter i1 a i
  j2 : h.IsTupleIter i2 b i
  ls : h.get? S = some { cls := .type "list", dict := none, data := .seq (as.map Value.ref).toArray c, slots := #[] }
  lq : q < h.objs.size
theorem of6 {c z p q i j S : Addr} (h : c ∈ [z, p, q, i, j, S]) : c = z ∨ c = p ∨ c = q ∨ c = i ∨ c = j ∨ c = S := by simpa using h
section
variable {X : Cx} {pins : List (Addr × Obj)} {σ : L2.St} {A : Around}
theorem zw_next {z p q i1 i2 a b S : Addr} {i c : Nat} {as : List Addr} {s : Shared} {xs ys : Array Value} {x y : Value} {E : Value → Shared → Prop} {Q : Option Value → Shared → Prop} (D : ZipApart z p q i1 i2 a b) (hS : S ∉ [z, p, q, i1, i2]) (st : Zw s.heap z p q i1 i2 a b S i as c)
    (hl1 : s.heap.IsTuple a xs) (hl2 : s.heap.IsTuple b ys) (hx : xs[i]? = some x) (hy : ys[i]? = some y)
    (hQ : ∀ h', (∃ T f o, T ∉ [z, p, q, i1, i2, S] ∧ Zh h' z p q T f ∧ h'.get? T = some o) → IsPair h' p (.ref i1) (.ref i2) → h'.IsTupleIter i1 a (i + 1) → h'.IsTupleIter i2 b (i + 1) → IsPair h' s.heap.objs.size x y → h'.objs.size = s.heap.objs.size + 1 →
      h'.get? S = some { cls := .type "list", dict := none, data := .seq (as.map Value.ref).toArray c, slots := #[] } →
      (∀ d o, d ∉ [z, p, q, i1, i2] → s.heap.get? d = some o → h'.get? d = some o) → Q (some (.ref s.heap.objs.size)) { s with heap := h' }) :
    wpAny (model X.prog X.w) A (pyNext (.ref z)) Q E s := by
  have e1 : i1 < s.heap.objs.size := by obtain ⟨_, e, _⟩ := st.j1; exact Heap.lt_size e
  have e2 : i2 < s.heap.objs.size := by obtain ⟨_, e, _⟩ := st.j2; exact Heap.lt_size e
  have e3 : p < s.heap.objs.size := Heap.lt_size st.pp
  have e4 : S < s.heap.objs.size := Heap.lt_size st.ls
  have e5 := st.lq
  have e6 : z < s.heap.objs.size := by
    rcases st.zip with ⟨e, _⟩ | ⟨_, _, _, _, e, _⟩
    · exact Heap.lt_size e
    · exact Heap.lt_size e
  simp only [List.mem_cons, List.not_mem_nil, or_false, not_or] at hS
  have hn : s.heap.objs.size ∉ [z, p, q, i1, i2, S] := fun m => by
    rcases of6 m with e | e | e | e | e | e
    · exact absurd e (Nat.ne_of_gt e6)
    · exact absurd e (Nat.ne_of_gt e3)
    · exact absurd e (Nat.ne_of_gt e5)
    · exact absurd e (Nat.ne_of_gt e1)
    · exact absurd e (Nat.ne_of_gt e2)
    · exact absurd e (Nat.ne_of_gt e4)
  rcases st.zip with ⟨hz, u, v, hq⟩ | ⟨T, f, o, hT, hz, ho⟩
  · refine zs_next D hz st.pp hq st.j1 st.j2 hl1 hl2 hx hy fun h' t1 t2 t3 t4 t5 t6 hk => ?_
    refine hQ h' ⟨s.heap.objs.size, false, _, hn, t1, t5⟩ (hk _ _ D.TIz D.TITO D.TIi1 D.TIi2 st.pp) t3 t4 t5 t6 (hk _ _ hS.1 hS.2.2.1 hS.2.2.2.1 hS.2.2.2.2 st.ls) fun d o hd g => ?_
    simp only [List.mem_cons, List.not_mem_nil, or_false, not_or] at hd
    exact hk d o hd.1 hd.2.2.1 hd.2.2.2.1 hd.2.2.2.2 g
  · have hT2 := hT
    simp only [List.mem_cons, List.not_mem_nil, or_false, not_or] at hT2
    refine zh_next D hz ho st.pp st.j1 st.j2 hl1 hl2 hx hy fun h' t1 t3 t4 t5 t6 hk => ?_
    refine hQ h' ⟨T, true, o, hT, t1, hk _ _ hT2.1 hT2.2.2.2.1 hT2.2.2.2.2.1 ho⟩ (hk _ _ D.TIz D.TIi1 D.TIi2 st.pp) t3 t4 t5 t6 (hk _ _ hS.1 hS.2.2.2.1 hS.2.2.2.2 st.ls) fun d o hd g => ?_
    simp only [List.mem_cons, List.not_mem_nil, or_false, not_or] at hd
    exact hk d o hd.1 hd.2.2.2.1 hd.2.2.2.2 g
theorem zw_stop {z p q i1 i2 a b S : Addr} {i c : Nat} {as : List Addr} {s : Shared} {xs ys : Array Value} {E : Value → Shared → Prop} {Q : Option Value → Shared → Prop} (hh : A.handled = none) (D : ZipApart z p q i1 i2 a b) (st : Zw s.heap z p q i1 i2 a b S i as c)
    (hl1 : s.heap.IsTuple a xs) (hl2 : s.heap.IsTuple b ys) (hx : xs[i]? = none) (hy : ys[i]? = none)
    (hQ : ∀ h', (∀ d o, d ∉ [z, p, q, i1, i2] → s.heap.get? d = some o → h'.get? d = some o) → Q none { s with heap := h' }) :
    wpAny (model X.prog X.w) A (pyNext (.ref z)) Q E s := by
  rcases st.zip with ⟨hz, u, v, hq⟩ | ⟨T, f, o, hT, hz, ho⟩
  · refine zs_stop hh D hz st.pp hq st.j1 st.j2 hl1 hl2 hx hy fun h' hk => hQ h' fun d o hd g => ?_
    simp only [List.mem_cons, List.not_mem_nil, or_false, not_or] at hd
    exact hk d o hd.1 hd.2.2.1 hd.2.2.2.1 hd.2.2.2.2 g
  · refine zh_stop hh D hz ho st.pp st.j1 st.j2 hl1 hl2 hx hy fun h' hk => hQ h' fun d o hd g => ?_
    simp only [List.mem_cons, List.not_mem_nil, or_false, not_or] at hd
    exact hk d o hd.1 hd.2.2.2.1 hd.2.2.2.2 g
theorem tk_fresh {H : Hp} {T : Addr} {u : HO} (h : H T = none) : Dn.TK H (upd H T u) :=
  ⟨fun b xs e => by rw [upd_ne (fun z => by rw [z, h] at e; cases e)]; exact e, fun b o v e => by rw [upd_ne (fun z => by rw [z, h] at e; cases e)]; exact e, fun b e => by
    by_cases z : b = T
    · rw [z]; exact h
    · rw [upd_ne z] at e; exact e⟩
theorem zc_loop {z p q i1 i2 a b S : Addr} (hh : A.handled = none) (D : ZipApart z p q i1 i2 a b) (hS : S ∉ [z, p, q, i1, i2]) {xs ys : List V} (hn : xs.length ≤ sizeLine) (res : Value) {R : Result → Shared → Prop} :
    ∀ (xr yr : List V) (i : Nat) (s : Shared) (H : Hp) (as : List Addr) (c : Nat), xs.drop i = xr → ys.drop i = yr → xr.length = yr.length → as.length = i → Inv X pins σ H s → (∀ d ∈ [z, p, q, i1, i2, S], FpOk X pins H d) → SqT X.K H a xs → SqT X.K H b ys → Zw s.heap z p q i1 i2 a b S i as c →
    (∀ s' H' as2 c', Inv X pins σ H' s' → Lz H xr yr H' as2 → s'.heap.get? S = some { cls := .type "list", dict := none, data := .seq ((as ++ as2).map Value.ref).toArray c', slots := #[] } → R (.ok (.ret res)) s') →
    codeAny (model X.prog X.w) A (.builtin "list.extend.loop" ⟨[.ref S, .ref z, res], []⟩) R s := by
  intro xr
  induction xr with
  | nil =>
    intro yr i s H as c hx hy hl ha I hf qa qb st fin
    cases yr with
    | cons _ _ => cases hl
    | nil =>
      obtain ⟨its, rv, pa, _⟩ := I.tuple qa
      obtain ⟨its2, rv2, pb, _⟩ := I.tuple qb
      have l1 := rv.length
      have l2 := rv2.length
      have k1 := List.drop_eq_nil_iff.mp hx
      have k2 := List.drop_eq_nil_iff.mp hy
      refine codeAny_builtin F.entry_extend_loop ?_
      rw [Around.under_plainId F.plain_extend_loop _]
      refine wpAny_bind (m := pyNext (.ref z)) (zw_stop (X := X) (A := A.in1) hh D st pa pb (by simp; omega) (by simp; omega) fun h' hk => ?_)
      refine wpAny_pure (fin { s with heap := h' } H [] c (I.turnedL (t' := s.toks) (ch := [z, p, q, i1, i2]) hk fun d hd => hf d (by rcases of5 hd with rfl | rfl | rfl | rfl | rfl <;> simp)) (.nil H) ?_)
      rw [List.append_nil]
      exact hk S _ hS st.ls
  | cons x xr ih =>
    intro yr i s H as c hx hy hl ha I hf qa qb st fin
    cases yr with
    | nil => cases hl
    | cons y yr =>
      obtain ⟨its, rv, pa, _⟩ := I.tuple qa
      obtain ⟨its2, rv2, pb, _⟩ := I.tuple qb
      have gx : xs[i]? = some x := by
        have := List.getElem?_drop (xs := xs) (i := i) (j := 0)
        rw [hx] at this
        simpa using this.symm
      have gy : ys[i]? = some y := by
        have := List.getElem?_drop (xs := ys) (i := i) (j := 0)
        rw [hy] at this
        simpa using this.symm
      have hx2 : xs.drop (i + 1) = xr := by rw [← List.drop_drop, hx]; rfl
      have hy2 : ys.drop (i + 1) = yr := by rw [← List.drop_drop, hy]; rfl
      obtain ⟨u, hu, ru⟩ := rv.get gx
      obtain ⟨u2, hu2, ru2⟩ := rv2.get gy
      have hi : i < xs.length := (List.getElem?_eq_some_iff.mp gx).1
      refine codeAny_builtin F.entry_extend_loop ?_
      rw [Around.under_plainId F.plain_extend_loop _]
      refine wpAny_bind (m := pyNext (.ref z)) (zw_next (X := X) D hS st pa pb (x := u) (y := u2) (by simpa using hu) (by simpa using hu2) fun h' t1 t2 t3 t4 t5 t6 t7 hk => ?_)
      refine wpAny_bind (m := updateSeq S (·.push (.ref s.heap.objs.size))) ?_
      have hS2 := Heap.get?_update_self (Obj.mapSeq (·.push (Value.ref s.heap.objs.size))) t7 rfl
      have oth : ∀ d o, d ≠ S → h'.get? d = some o → (h'.update S (Obj.mapSeq (·.push (Value.ref s.heap.objs.size)))).get? d = some o := fun d o hd g => (Heap.get?_update_other _ _ (Ne.symm hd)).trans g
      have hSs : S < s.heap.objs.size := Heap.lt_size st.ls
      simp only [List.mem_cons, List.not_mem_nil, or_false, not_or] at hS
      have hT : (h'.update S (Obj.mapSeq (·.push (Value.ref s.heap.objs.size)))).get? s.heap.objs.size = some { cls := .type "tuple", data := .seq #[u, u2] } := oth _ _ (Nat.ne_of_gt hSs) t5
      have new : ObjOk X.prog X.w (upd H s.heap.objs.size (.frz { cls := .type "tuple", data := .seq #[u, u2] } (.tup [x, y]))) (h'.update S (Obj.mapSeq (·.push (Value.ref s.heap.objs.size)))) s.heap.objs.size (.frz { cls := .type "tuple", data := .seq #[u, u2] } (.tup [x, y])) :=
        ⟨hT, by show 2 ≤ sizeLine; decide, [u, u2], .cons ru (.cons ru2 .nil), ⟨_, hT, rfl, _, rfl⟩⟩
      have hfr : H s.heap.objs.size = none := I.hok.fresh (Nat.le_refl _)
      have I2 := I.turnedNew (t' := s.toks) (h' := h'.update S (Obj.mapSeq (·.push (Value.ref s.heap.objs.size)))) (ch := [z, p, q, i1, i2, S]) (fun d o hd g => by
        simp only [List.mem_cons, List.not_mem_nil, or_false, not_or] at hd
        exact oth d o hd.2.2.2.2.2 (hk d o (by simp only [List.mem_cons, List.not_mem_nil, or_false, not_or]; exact ⟨hd.1, hd.2.1, hd.2.2.1, hd.2.2.2.1, hd.2.2.2.2.1⟩) g)) hf (Nat.le_refl _) new
      obtain ⟨c2, hc2⟩ : ∃ c2, (h'.update S (Obj.mapSeq (·.push (Value.ref s.heap.objs.size)))).get? S = some { cls := .type "list", dict := none, data := .seq ((as ++ [s.heap.objs.size]).map Value.ref).toArray c2, slots := #[] } := by
        refine ⟨if ((as.map Value.ref).toArray.push (Value.ref s.heap.objs.size)).size == (as.map Value.ref).toArray.size then c else c + 1, ?_⟩
        have e : ((as ++ [s.heap.objs.size]).map Value.ref).toArray = (as.map Value.ref).toArray.push (Value.ref s.heap.objs.size) := by simp
        rw [hS2, e]
        rfl
      refine wpAny_updateSeq t7 rfl (wpAny_pure ⟨plainId_quiet F.plain_extend_loop _, ih yr (i + 1) _ _ (as ++ [s.heap.objs.size]) c2 hx2 hy2 (by simpa using hl) (by rw [List.length_append, ha]; rfl) I2 (fun d hd => ?_) (Dn.SqT.keep (tk_fresh hfr) qa) (Dn.SqT.keep (tk_fresh hfr) qb) ⟨.inr ?_, oth _ _ (Ne.symm hS.2.1) t2, t3.at fun o g => oth _ o (Ne.symm hS.2.2.2.1) g, t4.at fun o g => oth _ o (Ne.symm hS.2.2.2.2) g, ?_, ?_⟩ fun s' H' as2 c' I' lz g => ?_⟩)
        (by simp only [List.size_toArray, List.length_map, ha]; omega) (by simp only [Array.size_push, List.size_toArray, List.length_map, ha]; omega)
      · have f0 := hf d hd
        have lt : d ≠ s.heap.objs.size := fun e => by
          have e1 : i1 < s.heap.objs.size := by obtain ⟨_, e, _⟩ := st.j1; exact Heap.lt_size e
          have e2 : i2 < s.heap.objs.size := by obtain ⟨_, e, _⟩ := st.j2; exact Heap.lt_size e
          have e3 : p < s.heap.objs.size := Heap.lt_size st.pp
          have e5 := st.lq
          have e6 : z < s.heap.objs.size := by
            rcases st.zip with ⟨e, _⟩ | ⟨_, _, _, _, e, _⟩
            · exact Heap.lt_size e
            · exact Heap.lt_size e
          rcases of6 hd with e' | e' | e' | e' | e' | e'
          · exact absurd (e.symm.trans e') (Nat.ne_of_gt e6)
          · exact absurd (e.symm.trans e') (Nat.ne_of_gt e3)
          · exact absurd (e.symm.trans e') (Nat.ne_of_gt e5)
          · exact absurd (e.symm.trans e') (Nat.ne_of_gt e1)
          · exact absurd (e.symm.trans e') (Nat.ne_of_gt e2)
          · exact absurd (e.symm.trans e') (Nat.ne_of_gt hSs)
        exact ⟨by rw [upd_ne lt]; exact f0.1, f0.2⟩
      · obtain ⟨T, f, o, hT1, hT2, hT3⟩ := t1
        have hT4 := hT1
        simp only [List.mem_cons, List.not_mem_nil, or_false, not_or] at hT4
        exact ⟨T, f, o, hT1, oth _ _ (Ne.symm hS.1) hT2, oth _ _ hT4.2.2.2.2.2 hT3⟩
      · exact hc2
      · show q < (h'.update S _).objs.size
        rw [Heap.size_update, t6]
        exact Nat.lt_succ_of_lt st.lq
      · refine fin s' H' (s.heap.objs.size :: as2) c' I' (.cons hfr rfl lz) ?_
        rw [g]
        simp only [List.append_assoc, List.cons_append, List.nil_append]
/-! collecting -/
theorem nolen_z : typeLookup (.type "zip") "__len__" = pure none := by rw [typeLookup_type, builtinLookup_eq_fast]; kernel_rfl
theorem nohint_z : typeLookup (.type "zip") "__length_hint__" = pure none := by rw [typeLookup_type, builtinLookup_eq_fast]; kernel_rfl
theorem zc_collect {z p q i1 i2 a b : Addr} {s : Shared} {H : Hp} {E : Value → Shared → Prop} {Q : List Value → Shared → Prop} (hh : A.handled = none) (D : ZipApart z p q i1 i2 a b) {xs ys : List V} (hn : xs.length ≤ sizeLine) (hl : xs.length = ys.length)
    (I : Inv X pins σ H s) (hf : ∀ d ∈ [z, p, q, i1, i2], FpOk X pins H d) (qa : SqT X.K H a xs) (qb : SqT X.K H b ys)
    (hz : Zs s.heap z p q .none) (hp : IsPair s.heap p (.ref i1) (.ref i2)) (hq : ∃ x y, IsPair s.heap q x y) (h1 : s.heap.IsTupleIter i1 a 0) (h2 : s.heap.IsTupleIter i2 b 0)
    (hQ : ∀ s' H' as, Inv X pins σ H' s' → Lz H xs ys H' as → Q (as.map Value.ref) s') : wpAny (model X.prog X.w) A (collect (.ref z)) Q E s := by
  obtain ⟨x0, y0, hq⟩ := hq
  have ez : z < s.heap.objs.size := Heap.lt_size hz
  have e1 : i1 < s.heap.objs.size := by obtain ⟨_, e, _⟩ := h1; exact Heap.lt_size e
  have e2 : i2 < s.heap.objs.size := by obtain ⟨_, e, _⟩ := h2; exact Heap.lt_size e
  have e3 : p < s.heap.objs.size := Heap.lt_size hp
  have e5 : q < s.heap.objs.size := Heap.lt_size hq
  have hS : s.heap.objs.size ∉ [z, p, q, i1, i2] := fun m => by
    rcases of5 m with e | e | e | e | e
    · exact absurd e (Nat.ne_of_gt ez)
    · exact absurd e (Nat.ne_of_gt e3)
    · exact absurd e (Nat.ne_of_gt e5)
    · exact absurd e (Nat.ne_of_gt e1)
    · exact absurd e (Nat.ne_of_gt e2)
  unfold collect
  refine wpAny_bind (wpAny_runValue (codeAny_builtin F.entry_proto_collect ?_))
  rw [Around.under_plainId F.plain_proto_collect _]
  refine wpAny_bind (m := newList []) (wpAny_newObj_type ?_)
  refine wpAny_pure ⟨plainId_quiet F.plain_list_iadd _, codeAny_builtin F.entry_list_iadd ?_⟩
  rw [Around.under_plainId F.plain_list_iadd _]
  have up : ∀ d o, s.heap.get? d = some o → (s.heap.push { cls := .type "list", data := .seq ([] : List Value).toArray }).get? d = some o := fun d o g => Heap.get?_push_of_some _ g
  have hz2 := up _ _ hz
  have ty : ({ s with heap := s.heap.push { cls := .type "list", data := .seq ([] : List Value).toArray } } : Shared).TypeIs (.ref z) "zip" := ⟨_, hz2, rfl⟩
  have ns : Builtin.List.listSameRef (.ref s.heap.objs.size) (.ref z) = false := by simp [Builtin.List.listSameRef, Nat.ne_of_gt ez]
  show wpAny _ A.in1 (Builtin.List.listExtendWith (.ref s.heap.objs.size) (.ref z) (.ref s.heap.objs.size)) _ _ _
  unfold Builtin.List.listExtendWith
  refine wpAny_bind (wpAny_typeOf ty ?_)
  have n2 : (Value.type "zip" == Value.type "list") = false := by decide
  have n3 : (Value.type "zip" == Value.type "tuple") = false := by decide
  simp only [ns, n2, n3, Bool.or_false, Bool.false_eq_true, if_false]
  refine wpAny_bind (zs_iter hz2 ?_)
  refine wpAny_bind (wpAny_holding ?_)
  unfold Builtin.List.listLengthHint
  refine wpAny_bind (wpAny_specialOf ty nolen_z ?_)
  refine wpAny_bind (m := specialOf (Value.ref z) (Str.ofString "__length_hint__")) (wpAny_specialOf ty nohint_z ?_)
  refine wpAny_pure ?_
  refine wpAny_bind (m := rule "list.extend.makes-room") (wpAny_rule ?_)
  refine wpAny_bind (m := Builtin.List.listTouch (.ref s.heap.objs.size)) ?_
  refine wpAny_bind (m := updateSeq s.heap.objs.size (·.push .none)) ?_
  have hS1 : (s.heap.push { cls := .type "list", data := .seq ([] : List Value).toArray }).get? s.heap.objs.size = some { cls := .type "list", data := .seq ([] : List Value).toArray } := Heap.get?_push_size _ rfl
  refine wpAny_updateSeq hS1 rfl ?_
  have hS2 := Heap.get?_update_self (Obj.mapSeq (·.push Value.none)) hS1 rfl
  refine wpAny_updateSeq hS2 rfl ?_
  have hS3 := Heap.get?_update_self (Obj.mapSeq (·.pop)) hS2 rfl
  have oth : ∀ d o, s.heap.get? d = some o → (((s.heap.push { cls := .type "list", data := .seq ([] : List Value).toArray }).update s.heap.objs.size (Obj.mapSeq (·.push Value.none))).update s.heap.objs.size (Obj.mapSeq (·.pop))).get? d = some o := fun d o g => by
    have hd : s.heap.objs.size ≠ d := Nat.ne_of_gt (Heap.lt_size g)
    exact (Heap.get?_update_other _ _ hd).trans ((Heap.get?_update_other _ _ hd).trans (up d o g))
  have I2 : Inv X pins σ H { s with heap := ((s.heap.push { cls := .type "list", data := .seq ([] : List Value).toArray }).update s.heap.objs.size (Obj.mapSeq (·.push Value.none))).update s.heap.objs.size (Obj.mapSeq (·.pop)) } := I.kept (t' := s.toks) oth
  refine wpAny_pure ⟨plainId_quiet F.plain_extend_loop _, zc_loop (A := A) hh D hS hn _ xs ys 0 _ H [] _ rfl rfl hl rfl I2 (fun d hd => ?_) qa qb ⟨.inl ⟨oth _ _ hz, x0, y0, oth _ _ hq⟩, oth _ _ hp, h1.at fun o g => oth _ o g, h2.at fun o g => oth _ o g, hS3, ?_⟩ fun s' H' as c' I' lz g => ?_⟩
  · rcases of6 hd with e | e | e | e | e | e
    · exact hf d (by rw [e]; simp)
    · exact hf d (by rw [e]; simp)
    · exact hf d (by rw [e]; simp)
    · exact hf d (by rw [e]; simp)
    · exact hf d (by rw [e]; simp)
    · rw [e]
      exact I.fpOk (Nat.le_refl _) (I.hok.fresh (Nat.le_refl _))
  · show q < (((s.heap.push _).update _ _).update _ _).objs.size
    rw [Heap.size_update, Heap.size_update, Heap.size_push]
    exact Nat.lt_succ_of_lt e5
  · refine wpAny_bind (m := load s.heap.objs.size) (wpAny_load g ?_)
    refine wpAny_pure ?_
    have := hQ s' H' as I' lz
    simpa using this
theorem lz_len {H H' : Hp} {xs ys : List V} {as : List Addr} (h : Lz H xs ys H' as) : as.length = xs.length := by
  induction h with
  | nil H => rfl
  | cons _ _ _ ih => rw [List.length_cons, List.length_cons, ih]
theorem zt_new {z p q i1 i2 a b : Addr} {s : Shared} {H : Hp} {E : Value → Shared → Prop} {Q : Value → Shared → Prop} (hh : A.handled = none) (D : ZipApart z p q i1 i2 a b) {xs ys : List V} (hn : xs.length ≤ sizeLine) (hl : xs.length = ys.length)
    (I : Inv X pins σ H s) (hf : ∀ d ∈ [z, p, q, i1, i2], FpOk X pins H d) (qa : SqT X.K H a xs) (qb : SqT X.K H b ys)
    (hz : Zs s.heap z p q .none) (hp : IsPair s.heap p (.ref i1) (.ref i2)) (hq : ∃ x y, IsPair s.heap q x y) (h1 : s.heap.IsTupleIter i1 a 0) (h2 : s.heap.IsTupleIter i2 b 0)
    (hQ : ∀ s' H' as, Inv X pins σ H' s' → Lz H xs ys H' as → as.length = xs.length → Q (.ref s'.heap.objs.size) { s' with heap := s'.heap.push { cls := .type "tuple", data := .seq (as.map Value.ref).toArray } }) :
    codeAny (model X.prog X.w) A (.call (.builtin "tuple.__new__") ⟨[.type "tuple", .ref z], []⟩) (wants Q E) s := by
  refine codeAny_of_tree ?_
  refine wpAny_bind (m := checkBuiltinCall "tuple.__new__" ⟨[.type "tuple", .ref z], []⟩) (wpAny_of_eq (F.newCall_tuple_1 _) (wpAny_pure ⟨plainId_quiet F.plain_tuple_new _, codeAny_builtin F.entry_tuple_new ?_⟩))
  rw [Around.under_plainId F.plain_tuple_new _]
  have hsub := sub_tuple_self
  have hinit := init_tuple_lookup
  have hmh := madeHere_tuple
  have hTI : s.TypeIs (.ref z) "zip" := ⟨_, hz, rfl⟩
  have hh1 : A.in1.handled = none := hh
  wp_walk using wpAny_typeOf hTI, zc_collect (A := A.in1) hh1 D hn hl I hf qa qb hz hp hq h1 h2
  intro s' H' as I' lz
  have hlen := lz_len lz
  refine wpAny_bind (m := Builtin.Tuple.tupleExact (as.map Value.ref).toArray) ?_
  unfold Builtin.Tuple.tupleExact
  refine wpAny_newObj_type ?_ (by show (as.map Value.ref).toArray.size ≤ sizeLine; rw [List.size_toArray, List.length_map, hlen]; exact hn)
  exact wpAny_pure (hQ s' H' as I' lz hlen)
theorem zt_call {z p q i1 i2 a b : Addr} {s : Shared} {H : Hp} {E : Value → Shared → Prop} {Q : Value → Shared → Prop} (hh : A.handled = none) (D : ZipApart z p q i1 i2 a b) {xs ys : List V} (hn : xs.length ≤ sizeLine) (hl : xs.length = ys.length)
    (I : Inv X pins σ H s) (hf : ∀ d ∈ [z, p, q, i1, i2], FpOk X pins H d) (qa : SqT X.K H a xs) (qb : SqT X.K H b ys)
    (hz : Zs s.heap z p q .none) (hp : IsPair s.heap p (.ref i1) (.ref i2)) (hq : ∃ x y, IsPair s.heap q x y) (h1 : s.heap.IsTupleIter i1 a 0) (h2 : s.heap.IsTupleIter i2 b 0)
    (hQ : ∀ s' H' as, Inv X pins σ H' s' → Lz H xs ys H' as → as.length = xs.length → Q (.ref s'.heap.objs.size) { s' with heap := s'.heap.push { cls := .type "tuple", data := .seq (as.map Value.ref).toArray } }) :
    wpAny (model X.prog X.w) A (call (.type "tuple") [.ref z]) Q E s := by
  refine callType_codes (Q₁ := fun obj s₁ => s₁.TypeIs obj "tuple" ∧ Q obj s₁) F.called_tuple (F.typeCall_tuple_1 _) F.entry_object_init
    (zt_new (A := A.in1) hh D hn hl I hf qa qb hz hp hq h1 h2 fun s' H' as I' lz hlen => ⟨⟨_, Heap.get?_push_size _ rfl, rfl⟩, hQ s' H' as I' lz hlen⟩) fun obj s₁ h₁ => ?_
  exact ⟨h₁.1, F.args_object_init_2 obj _, object_init_meets F.called_tuple.init.lookup F.called_tuple.made (by decide) X.prog X.w A.in1 _ s₁ ⟨h₁.1, rfl, h₁.2⟩⟩
end
/-- tuple(zip(x, y, strict=True)) -/
def tTz (K : PySem.W.Frag) (ta : TA) : TE := fun σ H Q => ta σ H fun vs H1 => ∃ a b xs ys, vs = [.ref a, .ref b] ∧ SqT K H1 a xs ∧ SqT K H1 b ys ∧ xs.length = ys.length ∧ xs.length ≤ sizeLine ∧
  ∀ H2 as T o, Lz H1 xs ys H2 as → H2 T = none → o.dict = none → Q (.ref T) (upd H2 T (.frz o (.tup (as.map V.ref))))
theorem vals_refs : ∀ as : List Addr, Vals (as.map V.ref) (as.map Value.ref)
  | [] => .nil
  | a :: r => .cons rfl (vals_refs r)
theorem pe_tz {X : Cx} {e e2 : Expr} {ta : TA} {p pos p0 pos0 kp cp : Pos} {j : Nat} (hcalm : X.calm = true) (hg0 : Gl X "tuple") (hm0 : X.mg "tuple" = none) (hg : Gl X "zip") (hm : X.mg "zip" = none) (ha : PA X [e, e2] ta)
    (he : backTo pos (starEach [e, e2] X.env) = (false, eval e X.env) :: backTo pos (starEach [e2] X.env) := by rfl) (hpl : (backTo pos (starEach [e, e2] X.env)).any (·.1) = false := by rfl)
    (na : starEach [.Call (.Name "zip" p) [e, e2] [⟨some "strict", .Constant (.bool true) j cp, kp⟩] pos] X.env = (false, eval (.Call (.Name "zip" p) [e, e2] [⟨some "strict", .Constant (.bool true) j cp, kp⟩] pos) X.env) :: starEach [] X.env := by rfl) :
    PE X (.Call (.Name "tuple" p0) [.Call (.Name "zip" p) [e, e2] [⟨some "strict", .Constant (.bool true) j cp, kp⟩] pos] [] pos0) (tTz X.K ta) := by
  refine ⟨fun pins s σ H Q I h => ?_⟩
  refine Call_ (ld_blt I hg0 hm0 boot_tuple (PyProof.Rows.callWith_type1 (args_cons (wpAny_mono (Q := fun v s1 => ∃ z p q i1 i2 a b xs ys H1, v = .ref z ∧ ZipApart z p q i1 i2 a b ∧ Inv X pins σ H1 s1 ∧ (∀ d ∈ [z, p, q, i1, i2], FpOk X pins H1 d) ∧ SqT X.K H1 a xs ∧ SqT X.K H1 b ys ∧ xs.length = ys.length ∧ xs.length ≤ sizeLine ∧ Zs s1.heap z p q .none ∧ IsPair s1.heap p (.ref i1) (.ref i2) ∧ (∃ x y, IsPair s1.heap q x y) ∧ s1.heap.IsTupleIter i1 a 0 ∧ s1.heap.IsTupleIter i2 b 0 ∧
      ∀ H2 as T o, Lz H1 xs ys H2 as → H2 T = none → o.dict = none → Q (.ref T) (upd H2 T (.frz o (.tup (as.map V.ref))))) ?_ (fun v s1 hv => args_nil ?_) fun _ _ x => x) na) na))
  · show wpAny _ _ (eval (.Name "zip" p) X.env >>= fun f => callWith pos f [] (backTo pos (starEach [e, e2] X.env)) (backToKw pos (keywordEach [⟨some "strict", .Constant (.bool true) j cp, kp⟩] X.env))) _ _ _
    refine wpAny_bind (ld_blt I hg hm PyProof.Rows.boot_zip ?_)
    refine cw_type hpl (by rfl) ?_
    have run := ha.run pos pins s σ H _ I h
    rw [he] at run ⊢
    refine evalArgs_kwB (by rfl) (thn run fun us s1 ⟨vs, H1, I1, r1, q1⟩ => ?_)
    refine kws_cons (wpAny_pure (kws_nil ?_))
    obtain ⟨a, b, xs, ys, ex, qa, qb, hl, hn, q1⟩ := q1
    subst ex
    cases r1 with
    | cons r rr =>
      cases rr with
      | cons r' rr =>
        cases rr
        cases r
        cases r'
        obtain ⟨its, rv, pa, _⟩ := I1.tuple qa
        obtain ⟨its2, rv2, pb, _⟩ := I1.tuple qb
        obtain ⟨o1, ho1, _⟩ := id pa
        obtain ⟨o2, ho2, _⟩ := id pb
        show wpAny _ _ (call (.type "zip") [.ref a, .ref b] [(Str.ofString "strict", .bool true)]) _ _ _
        refine zs_call (xs := its.toArray) (ys := its2.toArray) pa pb fun h' g1 g2 g3 g4 g5 hk => ?_
        refine ⟨s1.heap.objs.size + 4, s1.heap.objs.size + 2, s1.heap.objs.size + 3, s1.heap.objs.size, s1.heap.objs.size + 1, a, b, xs, ys, H1, rfl, PySem.W.ktu_apart s1.heap.objs.size a b (Heap.lt_size ho1) (Heap.lt_size ho2), I1.kept (t' := s1.toks) hk, fun d hd => ?_, qa, qb, hl, hn, g1, g2, ⟨_, _, g3⟩, g4, g5, q1⟩
        have hle : s1.heap.objs.size ≤ d := by
          rcases of5 hd with rfl | rfl | rfl | rfl | rfl <;> omega
        exact I1.fpOk hle (I1.hok.fresh hle)
  · obtain ⟨z, p, q, i1, i2, a, b, xs, ys, H1, ev, D, I1, hf, qa, qb, hl, hn, k1, k2, k3, k4, k5, q⟩ := hv
    subst ev
    refine zt_call (I1.ok.hd hcalm) D hn hl I1 hf qa qb k1 k2 k3 k4 k5 fun s' H' as I' lz hlen => ?_
    refine ⟨.ref s'.heap.objs.size, upd H' s'.heap.objs.size (.frz { cls := .type "tuple", data := .seq (as.map Value.ref).toArray } (.tup (as.map V.ref))), I'.laid (t' := s'.toks) (fun c o g => Heap.get?_push_of_some _ g) (Nat.le_refl _) ?_, rfl, q H' as _ _ lz (I'.hok.fresh (Nat.le_refl _)) rfl⟩
    exact ⟨Heap.get?_push_size _ rfl, by rw [List.length_map, hlen]; exact hn, as.map Value.ref, vals_refs as, ⟨_, Heap.get?_push_size _ rfl, rfl, _, rfl⟩⟩
end Dz
namespace Dn
open PySem PySem.Spec PyProof.Rows L2 Dz
theorem lz_rel {Z : Zx} {m : List Addr} {M : Mh} {xs ys : List V} {H H' : Hp} {as : List Addr} (h : Lz H xs ys H' as) : ∀ (ds es : List D), HRel Z H m M → RelDs Z H m ds xs → RelDs Z H m es ys → Stp H m H' m ∧ HRel Z H' m M ∧ RelDs Z H' m (zprD ds es) (as.map V.ref) := by
  induction h with
  | nil H =>
    intro ds es hM ra rb
    cases ds with
    | nil => exact ⟨Stp.refl H m, hM, rfl⟩
    | cons _ _ => obtain ⟨_, _, e, _⟩ := ra; cases e
  | cons hT ho lz ih =>
    intro ds es hM ra rb
    cases ds with
    | nil => cases (show _ = [] from ra)
    | cons d ds =>
      cases es with
      | nil => cases (show _ = [] from rb)
      | cons e es =>
        obtain ⟨v1, r1, e1, k1, k2⟩ := ra
        obtain ⟨v2, r2, e2, k3, k4⟩ := rb
        cases e1
        cases e2
        rename_i H H' x y xs ys as T o
        have stl : Stp H m (upd H T (.frz o (.tup [x, y]))) m := stp_laid hT
        obtain ⟨st2, hM2, r⟩ := ih ds es (hrel_laid hM hT) (stl.rels k2) (stl.rels k4)
        refine ⟨stl.trans st2, hM2, ⟨.ref T, as.map V.ref, rfl, st2.rel ⟨T, [x, y], rfl, TupN.of ho, ⟨x, [y], rfl, stl.rel k1, ⟨y, [], rfl, stl.rel k3, rfl⟩⟩⟩, r⟩⟩
def tupZ (ds : List D) : C D := (zipW ds).bind fun w => newT w.items
theorem me_tz {X : Cx} {W : XK} {e e2 : Expr} {t : AD} {p pos p0 pos0 kp cp : Pos} {j : Nat} (hcalm : X.calm = true) (hg0 : Gl X "tuple") (hm0 : X.mg "tuple" = none) (hg : Gl X "zip") (hm : X.mg "zip" = none) (ha : MA X W [e, e2] t)
    (he : backTo pos (starEach [e, e2] X.env) = (false, eval e X.env) :: backTo pos (starEach [e2] X.env) := by rfl) (hpl : (backTo pos (starEach [e, e2] X.env)).any (·.1) = false := by rfl)
    (na : starEach [.Call (.Name "zip" p) [e, e2] [⟨some "strict", .Constant (.bool true) j cp, kp⟩] pos] X.env = (false, eval (.Call (.Name "zip" p) [e, e2] [⟨some "strict", .Constant (.bool true) j cp, kp⟩] pos) X.env) :: starEach [] X.env := by rfl) :
    ME X W (.Call (.Name "tuple" p0) [.Call (.Name "zip" p) [e, e2] [⟨some "strict", .Constant (.bool true) j cp, kp⟩] pos] [] pos0) (eCb tupZ t) := by
  refine pe_mono (pe_tz hcalm hg0 hm0 hg hm ha he hpl na) fun σ H Q h => ?_
  obtain ⟨m, s, M, hs, hM, q⟩ := h
  refine ⟨m, s, M, hs, hM, q.bind.mono fun ds H1 m1 M1 st1 hM1 p1 vs rv => ?_⟩
  cases ds with
  | nil => exact (show False from p1).elim
  | cons d r =>
    cases r with
    | nil => exact (show False from p1).elim
    | cons d' r =>
      cases r with
      | cons _ _ => exact (show False from p1).elim
      | nil =>
        have p3 : Post (zOf X) W H1 m1 ((zip2W d d').bind (fun w => newT w.items) M1) fun d' H' m' _ => ∀ v, RelD (zOf X) H' m' d' v → Q v H' := p1
        unfold zip2W at p3
        cases h1 : tupOf d with
        | none => simp only [h1] at p3; exact (show False from p3).elim
        | some xs =>
          cases h2 : tupOf d' with
          | none => simp only [h1, h2] at p3; exact (show False from p3).elim
          | some ys =>
            simp only [h1, h2] at p3
            split at p3
            · rename_i hl
              have z1 := tupOf_some h1
              have z2 := tupOf_some h2
              subst z1 z2
              obtain ⟨v, u, rfl, r1, r2⟩ := rels2 rv
              obtain ⟨a, as, rfl, qa, ra⟩ := r1
              obtain ⟨b, bs, rfl, qb, rb⟩ := r2
              have p4 : Post (zOf X) W H1 m1 (newT (zprD xs ys) M1) fun d' H' m' _ => ∀ v, RelD (zOf X) H' m' d' v → Q v H' := p3
              have hzl : (zprD xs ys).length = xs.length := by unfold zprD; rw [List.length_zipWith, hl, Nat.min_self]
              have hn : xs.length ≤ sizeLine := by
                by_cases z : (zprD xs ys).length ≤ sizeLine
                · rw [← hzl]; exact z
                · unfold Dn.newT at p4
                  rw [if_neg z] at p4
                  exact (show False from p4).elim
              refine ⟨a, b, as, bs, rfl, qa.sq, qb.sq, by rw [ra.length, rb.length]; exact hl, by rw [ra.length]; exact hn, fun H2 bs2 T o lz hT ho => ?_⟩
              obtain ⟨st2, hM2, r⟩ := lz_rel lz xs ys hM1 ra rb
              exact (Post.newT (Post.from st2 p4) hM2 r).2 T o hT ho
            · exact (show False from p3).elim
/-! two clauses -/
noncomputable def compB (w : Wk) (g : GD) (tt : TD) (te : ED) (s0 : Sl) : List D → List D → C (List D)
  | [], acc => fun M => if Stays w M then .ok acc M else .bad
  | d :: ds, acc => fun M => if Stays w M then ((g d s0).noX.bind fun s1 => (tt s1).noX.bind fun b => if b = true then (te s1).noX.bind fun y => if acc.length < sizeLine then compB w g tt te s0 ds (acc ++ [y]) else C.bad else compB w g tt te s0 ds acc) M else .bad
noncomputable def compO (w : Wk) (g : GD) (tt : TD) (tw1 : WD) (g1 : GD) (tt1 : TD) (te : ED) (vs1 : List Nat) (s0 : Sl) : List D → List D → C (List D)
  | [], acc => fun M => if Stays w M then .ok acc M else .bad
  | d :: ds, acc => fun M => if Stays w M then ((g d s0).noX.bind fun s1 => (tt s1).noX.bind fun b => if b = true then (tw1 s1).noX.bind fun w1 => (compB w1 g1 tt1 te (wipeD s1 vs1) w1.items acc).bind fun acc' => compO w g tt tw1 g1 tt1 te vs1 s0 ds acc' else compO w g tt tw1 g1 tt1 te vs1 s0 ds acc) M else .bad
abbrev endL : List D → C D := fun xs => fun M => .ok (.ref M.length) (M ++ [.lst xs])
noncomputable def eComp2 (vs vs1 : List Nat) (tw : WD) (g : GD) (tt : TD) (tw1 : WD) (g1 : GD) (tt1 : TD) (te : ED) : ED := fun s => (tw s).bind fun w => (compO w g tt tw1 g1 tt1 te vs1 (wipeD s vs) w.items []).bind endL
theorem compB_cons {w : Wk} {g : GD} {tt : TD} {te : ED} {s0 : Sl} {d : D} {ds acc : List D} {M : Mh} : compB w g tt te s0 (d :: ds) acc M = if Stays w M then ((g d s0).noX.bind fun s1 => (tt s1).noX.bind fun b => if b = true then (te s1).noX.bind fun y => if acc.length < sizeLine then compB w g tt te s0 ds (acc ++ [y]) else C.bad else compB w g tt te s0 ds acc) M else .bad := rfl
theorem compB_nil {w : Wk} {g : GD} {tt : TD} {te : ED} {s0 : Sl} {acc : List D} {M : Mh} : compB w g tt te s0 [] acc M = if Stays w M then .ok acc M else .bad := rfl
theorem compO_cons {w : Wk} {g : GD} {tt : TD} {tw1 : WD} {g1 : GD} {tt1 : TD} {te : ED} {vs1 : List Nat} {s0 : Sl} {d : D} {ds acc : List D} {M : Mh} : compO w g tt tw1 g1 tt1 te vs1 s0 (d :: ds) acc M = if Stays w M then ((g d s0).noX.bind fun s1 => (tt s1).noX.bind fun b => if b = true then (tw1 s1).noX.bind fun w1 => (compB w1 g1 tt1 te (wipeD s1 vs1) w1.items acc).bind fun acc' => compO w g tt tw1 g1 tt1 te vs1 s0 ds acc' else compO w g tt tw1 g1 tt1 te vs1 s0 ds acc) M else .bad := rfl
theorem compO_nil {w : Wk} {g : GD} {tt : TD} {tw1 : WD} {g1 : GD} {tt1 : TD} {te : ED} {vs1 : List Nat} {s0 : Sl} {acc : List D} {M : Mh} : compO w g tt tw1 g1 tt1 te vs1 s0 [] acc M = if Stays w M then .ok acc M else .bad := rfl
section
variable {X : Cx} {W : XK}
theorem lc2_imp {vs vs1 : List Nat} {tw tw1 : WD} {g g1 : GD} {tt tt1 : TD} {te : ED} (σ : L2.St) (H : Hp) (Q : VK) (h : tD (zOf X) W (eComp2 vs vs1 tw g tt tw1 g1 tt1 te) σ H Q) :
    tLc2 (tDI (zOf X) W tw) (gD (zOf X) E0 (some vs) g) (tDT (zOf X) E0 tt) (tDI (zOf X) E0 tw1) (gD (zOf X) E0 (some vs1) g1) (tDT (zOf X) E0 tt1) (tD (zOf X) E0 te) vs vs1 σ H Q := by
  obtain ⟨m, s, M, hs, hM, p⟩ := h
  refine ⟨m, s, M, hs, hM, p.bind.mono fun w H1 m1 M1 st1 hM1 p1 J hJ Dl hD => ?_⟩
  have hDm : Dl ∉ m1 := hM1.new hD
  have stl : Stp H1 m1 (upd H1 Dl (.lst [])) m1 := stp_laid hD
  have rs1 : RelS (zOf X) H1 m1 (wipeD s vs) (L2.wipe σ vs) := (hs.mono st1).wipe vs
  have nt : ∀ (l : List V) xs, HO.lst l ≠ HO.tup xs := fun _ _ z => by cases z
  have nf : ∀ (l : List V) a b, HO.lst l ≠ HO.frz a b := fun _ _ _ z => by cases z
  refine ⟨fun i k H => k = w.items.length - i ∧ i ≤ w.items.length ∧ ∃ m M acc av, Stp H1 m1 H m ∧ H Dl = some (.lst av) ∧ Dl ∉ m ∧ RelDs (zOf X) H m acc av ∧ HRel (zOf X) H m M ∧
      Post (zOf X) W H1 m1 ((compO w g tt tw1 g1 tt1 te vs1 (wipeD s vs) (w.items.drop i) acc).bind endL M) (fun d' H' m' _ => ∀ v, RelD (zOf X) H' m' d' v → Q v H'),
    ⟨w.items.length, by omega, by omega, m1, M1, [], [], stl, upd_same, hDm, rfl, hrel_laid hM1 hD, by rw [List.drop_zero]; exact p1⟩, ?_⟩
  rintro i k H2 ⟨rfl, hi, m2, M2, acc, av, st2, hDl, hDm2, racc, hM2, p2⟩
  by_cases hlt : i < w.items.length
  · rw [List.drop_eq_getElem_cons hlt] at p2
    have hsy : Stays w M2 := by
      by_cases z : Stays w M2
      · exact z
      · unfold C.bind at p2
        rw [compO_cons, if_neg z] at p2
        exact p2.elim
    rw [bind_at (g := endL) (M := M2) (f' := (g w.items[i] (wipeD s vs)).noX.bind fun s1 => (tt s1).noX.bind fun b => if b = true then (tw1 s1).noX.bind fun w1 => (compB w1 g1 tt1 te (wipeD s1 vs1) w1.items acc).bind fun acc' => compO w g tt tw1 g1 tt1 te vs1 (wipeD s vs) (w.items.drop (i + 1)) acc' else compO w g tt tw1 g1 tt1 te vs1 (wipeD s vs) (w.items.drop (i + 1)) acc) (by rw [compO_cons, if_pos hsy]), bind_bind] at p2
    obtain ⟨hgo, hy⟩ := hJ.go H2 m2 M2 i _ st2.w hM2 hsy (List.getElem?_eq_getElem hlt)
    refine .inr ⟨hgo, fun H' => ∃ m M acc av, Stp H1 m1 H' m ∧ H' Dl = some (.lst av) ∧ Dl ∉ m ∧ RelDs (zOf X) H' m acc av ∧ HRel (zOf X) H' m M ∧
        Post (zOf X) W H1 m1 ((compO w g tt tw1 g1 tt1 te vs1 (wipeD s vs) (w.items.drop (i + 1)) acc).bind endL M) (fun d' H' m' _ => ∀ v, RelD (zOf X) H' m' d' v → Q v H'),
      fun H' hN => ⟨w.items.length - (i + 1), by omega, rfl, hlt, hN⟩, fun x H' y => ?_⟩
    obtain ⟨st3, hM3, r3, k3⟩ := hy x H' y
    obtain ⟨hD3, hm3⟩ := keep_out st3 hDl hDm2
    have rs3 : RelS (zOf X) H' m2 (wipeD s vs) (L2.wipe σ vs) := rs1.mono (st2.trans st3)
    refine ⟨m2, _, _, M2, r3, rs3, hM3, (Post.atX p2).mono fun s4 H4 m4 M4 st4 hM4 p4 σ4 rs4 w4 => ?_⟩
    obtain ⟨hD4, hm4⟩ := keep_out st4 hD3 hm3
    rw [bind_bind] at p4
    refine ⟨by
      have w4 : L2.wipe σ4 vs = L2.wipe (L2.wipe σ vs) vs := w4
      rw [w4]
      exact wipe_wipe σ vs, m4, s4, M4, rs4, hM4, (Post.atX p4).mono fun b H5 m5 M5 st5 hM5 p5 => ?_⟩
    obtain ⟨hD5, hm5⟩ := keep_out st5 hD4 hm4
    have ra5 : RelDs (zOf X) H5 m5 acc av := st5.rels (st4.rels (st3.rels racc))
    have st15 : Stp H1 m1 H5 m5 := ((st2.trans st3).trans st4).trans st5
    cases b with
    | false =>
      rw [if_neg (by decide)]
      rw [if_neg (by decide)] at p5
      exact ⟨m5, M5, acc, av, st15, hD5, hm5, ra5, hM5, p5⟩
    | true =>
      rw [if_pos rfl]
      rw [if_pos rfl, bind_bind] at p5
      refine ⟨m5, s4, M5, rs4.mono st5, hM5, (Post.atX p5).mono fun w1 H6 m6 M6 st6 hM6 p6 J1 hJ1 => ?_⟩
      obtain ⟨hD6, hm6⟩ := keep_out st6 hD5 hm5
      rw [bind_bind] at p6
      have rs6 : RelS (zOf X) H6 m6 (wipeD s4 vs1) (L2.wipe σ4 vs1) := ((rs4.mono st5).mono st6).wipe vs1
      refine ⟨fun j k H => k = w1.items.length - j ∧ j ≤ w1.items.length ∧ ∃ m M acc av, Stp H1 m1 H m ∧ Stw H6 m6 H m ∧ H Dl = some (.lst av) ∧ Dl ∉ m ∧ RelDs (zOf X) H m acc av ∧ HRel (zOf X) H m M ∧
          Post (zOf X) W H1 m1 ((compB w1 g1 tt1 te (wipeD s4 vs1) (w1.items.drop j) acc).bind (fun acc' => (compO w g tt tw1 g1 tt1 te vs1 (wipeD s vs) (w.items.drop (i + 1)) acc').bind endL) M) (fun d' H' m' _ => ∀ v, RelD (zOf X) H' m' d' v → Q v H'),
        ⟨w1.items.length, by omega, by omega, m6, M6, acc, av, st15.trans st6, (Stp.refl _ _).w, hD6, hm6, st6.rels ra5, hM6, by rw [List.drop_zero]; exact p6⟩, ?_⟩
      rintro j k HA ⟨rfl, hj, mA, MA', accA, avA, stA1, stA, hDA, hmA, raA, hMA, pA⟩
      by_cases hltj : j < w1.items.length
      · rw [List.drop_eq_getElem_cons hltj] at pA
        have hsyA : Stays w1 MA' := by
          by_cases z : Stays w1 MA'
          · exact z
          · unfold C.bind at pA
            rw [compB_cons, if_neg z] at pA
            exact pA.elim
        rw [bind_at (M := MA') (f' := (g1 w1.items[j] (wipeD s4 vs1)).noX.bind fun s1 => (tt1 s1).noX.bind fun b => if b = true then (te s1).noX.bind fun y => if accA.length < sizeLine then compB w1 g1 tt1 te (wipeD s4 vs1) (w1.items.drop (j + 1)) (accA ++ [y]) else C.bad else compB w1 g1 tt1 te (wipeD s4 vs1) (w1.items.drop (j + 1)) accA) (by rw [compB_cons, if_pos hsyA]), bind_bind] at pA
        obtain ⟨hgoA, hyA⟩ := hJ1.go HA mA MA' j _ stA hMA hsyA (List.getElem?_eq_getElem hltj)
        refine .inr ⟨hgoA, fun H => ∃ m M acc av, Stp H1 m1 H m ∧ Stw H6 m6 H m ∧ H Dl = some (.lst av) ∧ Dl ∉ m ∧ RelDs (zOf X) H m acc av ∧ HRel (zOf X) H m M ∧
          Post (zOf X) W H1 m1 ((compB w1 g1 tt1 te (wipeD s4 vs1) (w1.items.drop (j + 1)) acc).bind (fun acc' => (compO w g tt tw1 g1 tt1 te vs1 (wipeD s vs) (w.items.drop (i + 1)) acc').bind endL) M) (fun d' H' m' _ => ∀ v, RelD (zOf X) H' m' d' v → Q v H'),
          fun H' hN => ⟨w1.items.length - (j + 1), by omega, rfl, hltj, hN⟩, fun x HB yB => ?_⟩
        obtain ⟨stB, hMB, rB, kB⟩ := hyA x HB yB
        obtain ⟨hDB, hmB⟩ := keep_out stB hDA hmA
        have rsB : RelS (zOf X) HB mA (wipeD s4 vs1) (L2.wipe σ4 vs1) := rs6.monoW (stA.trans stB.w)
        refine ⟨mA, _, _, MA', rB, rsB, hMB, (Post.atX pA).mono fun sC HC mC MC stC hMC pC σC rsC wC => ?_⟩
        obtain ⟨hDC, hmC⟩ := keep_out stC hDB hmB
        rw [bind_bind] at pC
        refine ⟨by
          have wC : L2.wipe σC vs1 = L2.wipe (L2.wipe σ4 vs1) vs1 := wC
          rw [wC]
          exact wipe_wipe σ4 vs1, mC, sC, MC, rsC, hMC, (Post.atX pC).mono fun b HE mE ME' stE hME pE => ?_⟩
        obtain ⟨hDE, hmE⟩ := keep_out stE hDC hmC
        have raE : RelDs (zOf X) HE mE accA avA := stE.rels (stC.rels (stB.rels raA))
        have stE6 : Stw H6 m6 HE mE := ((stA.trans stB.w).trans stC.w).trans stE.w
        have stE1 : Stp H1 m1 HE mE := ((stA1.trans stB).trans stC).trans stE
        cases b with
        | false =>
          rw [if_neg (by decide)]
          rw [if_neg (by decide)] at pE
          exact ⟨mE, ME', accA, avA, stE1, stE6, hDE, hmE, raE, hME, pE⟩
        | true =>
          rw [if_pos rfl]
          rw [if_pos rfl, bind_bind] at pE
          refine ⟨mE, sC, ME', rsC.mono stE, hME, (Post.atX pE).mono fun y HF mF MF stF hMF pF yv ry => ?_⟩
          obtain ⟨hDF, hmF⟩ := keep_out stF hDE hmE
          have raF := stF.rels raE
          by_cases hz : accA.length < sizeLine
          · rw [if_pos hz] at pF
            have tkF : TK HF (upd HF Dl (.lst (avA ++ [yv]))) := tk_upd hDF (nt _) (nf _)
            have hz2 : avA.length < sizeLine := by rw [raF.length]; exact hz
            refine ⟨avA, hDF, hz2, mF, MF, accA ++ [y], avA ++ [yv], stp_out (stE1.trans stF) hD hDF (nt _) (nf _), ?_, upd_same, hmF, RelDs.keep tkF (fun _ _ z => z) _ _ (raF.append (.one ry)), hrel_out hMF hDF (nt _) (nf _) hmF, pF⟩
            exact ⟨(stE6.tk.trans stF.tk).trans tkF, fun n c e => stF.ix n c (stE6.ix n c e)⟩
          · rw [if_neg hz] at pF
            exact (show False from pF).elim
      · have e : j = w1.items.length := by omega
        subst e
        rw [List.drop_length] at pA
        have hsyA : Stays w1 MA' := by
          by_cases z : Stays w1 MA'
          · exact z
          · unfold C.bind at pA
            rw [compB_nil, if_neg z] at pA
            exact pA.elim
        unfold C.bind at pA
        rw [compB_nil, if_pos hsyA] at pA
        exact .inl ⟨hJ1.stop HA mA MA' stA hMA hsyA, mA, MA', accA, avA, stA1, hDA, hmA, raA, hMA, pA⟩
  · have e : i = w.items.length := by omega
    subst e
    rw [List.drop_length] at p2
    have hsy : Stays w M2 := by
      by_cases z : Stays w M2
      · exact z
      · unfold C.bind at p2
        rw [compO_nil, if_neg z] at p2
        exact p2.elim
    unfold C.bind at p2
    rw [compO_nil, if_pos hsy] at p2
    exact .inl ⟨hJ.stop H2 m2 M2 st2.w hM2 hsy, p2 H2 (m2 ++ [Dl]) (stp_add st2 hD) (hrel_add hM2 hDl hDm2 racc) _ ⟨Dl, rfl, len_new hM2⟩⟩
end
end Dn

/-! DnV: isinstance, max, comprehensions of two clauses, defs as values -/
namespace Dn
open PySem PySem.Spec PyProof.Rows L2
/-! ### isinstance -/
inductive Ty where
  | non | bool | int | str | tuple | list | dict
deriving DecidableEq
def Ty.nm : Ty → String
  | .non => "NoneType"
  | .bool => "bool"
  | .int => "int"
  | .str => "str"
  | .tuple => "tuple"
  | .list => "list"
  | .dict => "dict"
/-- a thing of kind t is one of T -/
def Ty.sub (t T : Ty) : Bool := decide (t = T) || (decide (t = .bool) && decide (T = .int))
def tyD (M : Mh) : D → Option Ty
  | .non => some .non
  | .bl _ => some .bool
  | .int _ => some .int
  | .str _ => some .str
  | .tup _ => some .tuple
  | .ls _ => some .list
  | .rod _ => some .dict
  | .glo _ => none
  | .ref n => match M[n]? with
    | some (.lst _) => some .list
    | some (.dct _) => some .dict
    | _ => none
def isiD (T : Ty) (d : D) : C D := fun M => match tyD M d with
  | some t => .ok (.bl (t.sub T)) M
  | none => .bad
theorem kit_sub (t T : Ty) : kitB t.nm T.nm = some (t.sub T) := by
  cases t <;> cases T <;> decide +kernel
section
variable {X : Cx} {W : XK} {a b e : Expr} {ta tb te : ED} {pos p p2 : Pos}
theorem tyD_v {H : Hp} {m : List Addr} {M : Mh} {d : D} {v : V} {t : Ty} (r : RelD (zOf X) H m d v) (hM : HRel (zOf X) H m M) (h : tyD M d = some t) : TyX X.K H v (.type t.nm) := by
  cases d with
  | non => have r : v = .non := r; subst r; cases h; exact .base .non
  | bl b => have r : v = .bl b := r; subst r; cases h; exact .base (.bl b)
  | int b => have r : v = .int b := r; subst r; cases h; exact .base (.int b)
  | str b => have r : v = .str b := r; subst r; cases h; exact .base (.str b)
  | tup xs =>
    cases h
    obtain ⟨q, vs, rfl, hq, _⟩ := r
    rcases hq with ⟨o, _, hq⟩ | ⟨o, its, n, _, hk, hc, _⟩
    · exact .fTuple hq
    · exact .kTuple hk hc
  | ls xs =>
    cases h
    obtain ⟨q, vs, rfl, hq, _⟩ := r
    rcases hq with ⟨o, hq⟩ | ⟨o, its, n, hk, hc, _⟩
    · exact .base (.frz hq)
    · exact .kList hk hc
  | rod kvs =>
    cases h
    obtain ⟨q, rfl, es, n, hk, _⟩ := r
    exact .kDict hk rfl
  | glo x => cases h
  | ref n =>
    obtain ⟨q, rfl, hm⟩ := r
    unfold tyD at h
    cases he : M[n]? with
    | none => simp only [he] at h; cases h
    | some o =>
      simp only [he] at h
      cases o with
      | lst xs =>
        cases h
        obtain ⟨vs, h1, _⟩ := hM.at hm he
        exact .base (.lst h1)
      | dct kvs =>
        cases h
        obtain ⟨vs, h1, _⟩ := hM.at hm he
        exact .base (.dK h1)
      | ins _ _ => cases h
/-- isinstance(e, T), T a built-in class by its name -/
theorem me_isi {T : Ty} {x y : Str} (hg : Gl X x) (hm : X.mg x = none) (hv : bootBuiltins x = some (.builtin "isinstance")) (he : ME X W e te) (hg2 : Gl X y) (hm2 : X.mg y = none) (hv2 : bootBuiltins y = some (.type T.nm))
    (hn : x ≠ "__name__" := by decide) (hd : (x == ("__debug__" : Str)) = false := by decide) (hn2 : y ≠ "__name__" := by decide) (hd2 : (y == ("__debug__" : Str)) = false := by decide)
    (hs : starEach [e, .Name y p2] X.env = (false, eval e X.env) :: starEach [.Name y p2] X.env := by rfl) (hs2 : starEach [.Name y p2] X.env = (false, eval (.Name y p2) X.env) :: starEach [] X.env := by rfl) (hpl : (backTo pos (starEach [.Name y p2] X.env)).any (·.1) = false := by rfl) :
    ME X W (.Call (.Name x p) [e, .Name y p2] [] pos) (eUn (isiD T) te) := by
  refine pe_mono (pe_callB call_isi hg hm hv (pa_cons he (pa_cons (pe_bltn hg2 hm2 hv2 (v := .ty T.nm) rfl hn2 hd2) pa_nil hs2) hs) hn hd hs hpl) fun σ H Q h => ?_
  obtain ⟨m, s, M, rs, hM, q⟩ := h
  refine ⟨m, s, M, rs, hM, q.bind.mono fun d H1 m1 M1 st1 hM1 p1 v rv => ?_⟩
  unfold isiD at p1
  cases ht : tyD M1 d with
  | none => simp only [ht] at p1; exact p1.elim
  | some t =>
    simp only [ht] at p1
    exact ⟨v, .ty T.nm, .type t.nm, .type T.nm, t.sub T, rfl, .ty _, tyD_v rv hM1 ht, kit_ty (kit_sub t T), p1.ok hM1 _ rfl⟩

/-! ### max of a list of numbers -/
def intsOf : List D → Option (List Int)
  | [] => some []
  | .int b :: r => (intsOf r).map (b :: ·)
  | _ :: _ => none
theorem ints_v {Z : Zx} {H : Hp} {m : List Addr} : ∀ {ds : List D} {vs : List V} {bs : List Int}, RelDs Z H m ds vs → intsOf ds = some bs → vs = bs.map V.int
  | [], vs, bs, r, e => by
    have r : vs = [] := r
    subst r; cases e; rfl
  | d :: ds, vs, bs, r, e => by
    obtain ⟨v, rest, rfl, r1, r2⟩ := r
    cases d with
    | int b =>
      simp only [intsOf, Option.map_eq_some_iff] at e
      obtain ⟨bs', e1, rfl⟩ := e
      have r1 : v = .int b := r1
      rw [r1, ints_v r2 e1]
      rfl
    | _ => cases e
def maxI : Int → List Int → Int
  | m, [] => m
  | m, k :: r => maxI (if m < k then k else m) r
theorem maxI_ge : ∀ (l : List Int) (m : Int), m ≤ maxI m l ∧ ∀ k, k ∈ l → k ≤ maxI m l
  | [], m => ⟨Int.le_refl _, fun k h => by cases h⟩
  | x :: r, m => by
    have ih := maxI_ge r (if m < x then x else m)
    show m ≤ maxI (if m < x then x else m) r ∧ _
    refine ⟨?_, fun k h => ?_⟩
    · have := ih.1; split at this <;> omega
    · rcases List.mem_cons.mp h with rfl | h
      · have := ih.1
        show k ≤ maxI (if m < k then k else m) r
        split at this <;> omega
      · exact ih.2 k h
theorem maxI_mem : ∀ (l : List Int) (m : Int), maxI m l = m ∨ maxI m l ∈ l
  | [], m => .inl rfl
  | x :: r, m => by
    show maxI (if m < x then x else m) r = m ∨ maxI (if m < x then x else m) r ∈ x :: r
    rcases maxI_mem r (if m < x then x else m) with h | h
    · rw [h]
      split
      · exact .inr (List.mem_cons_self ..)
      · exact .inl rfl
    · exact .inr (List.mem_cons_of_mem _ h)
def maxD (d : D) : C D := fun M => match (getL M d).bind intsOf with
  | some (m :: r) => .ok (.int (maxI m r)) M
  | _ => .bad
theorem cd_max (hc : X.calm = true) : CallR X (.builtin "max") (rDn (zOf X) W (one1 maxD)) := call_one (cr_max hc) fun H m d v M Q r hM p => by
  unfold maxD at p
  cases hb : (getL M d).bind intsOf with
  | none => simp only [hb] at p; exact p.elim
  | some ns =>
    cases ns with
    | nil => simp only [hb] at p; exact p.elim
    | cons k ns =>
      simp only [hb] at p
      rw [Option.bind_eq_some_iff] at hb
      obtain ⟨ds, h1, h2⟩ := hb
      obtain ⟨a, xs, e1, hq, hr⟩ := getL_sq hM r h1
      subst e1
      rw [ints_v hr h2] at hq
      refine ⟨a, k :: ns, rfl, hq, by simp, fun z hz hle => ?_⟩
      have e : z = maxI k ns := by
        have a1 := maxI_ge ns k
        have a2 : maxI k ns ∈ k :: ns := by
          rcases maxI_mem ns k with h | h
          · rw [h]; exact List.mem_cons_self ..
          · exact List.mem_cons_of_mem _ h
        have a3 := hle _ a2
        rcases List.mem_cons.mp hz with rfl | hz
        · omega
        · have := a1.2 z hz; omega
      subst e
      exact p.ok hM _ rfl

/-! ### [e for .. in .. for .. in ..] -/
variable {tg iter tg1 iter1 elt : Expr} {ifs ifs1 : List Expr} {scope : Scope} {own : List (Str × Nat)}
theorem me_lc2 {vs1 : List Nat} {tw tw1 : WD} {g g1 : GD} {tt tt1 : TD} {te : ED} (hc : X.calm = true) (hN : X.N.Nodup) (hi : MI X W tg iter tw) (ok : BlkOk X.N X.env.scope scope own) (hv : ∀ i ∈ vs1, i ∈ own.map (·.2))
    (hg : ∀ (s : Shared) (H : Hp) (C : Addr) (cl : List (Str × Addr)) (fp : List Addr), MG (X.blk s H scope (compEnvC scope cl C X.env) fp) E0 (some (own.map (·.2))) tg g)
    (ht : ∀ (s : Shared) (H : Hp) (C : Addr) (cl : List (Str × Addr)) (fp : List Addr), PTs (X.blk s H scope (compEnvC scope cl C X.env) fp) ifs (tDT (zOf X) E0 tt))
    (hi1 : ∀ (s : Shared) (H : Hp) (C : Addr) (cl : List (Str × Addr)) (fp : List Addr), MI (X.blk s H scope (compEnvC scope cl C X.env) fp) E0 tg1 iter1 tw1)
    (hg1 : ∀ (s : Shared) (H : Hp) (C : Addr) (cl : List (Str × Addr)) (fp : List Addr), MG (X.blk s H scope (compEnvC scope cl C X.env) fp) E0 (some vs1) tg1 g1)
    (ht1 : ∀ (s : Shared) (H : Hp) (C : Addr) (cl : List (Str × Addr)) (fp : List Addr), PTs (X.blk s H scope (compEnvC scope cl C X.env) fp) ifs1 (tDT (zOf X) E0 tt1))
    (he : ∀ (s : Shared) (H : Hp) (C : Addr) (cl : List (Str × Addr)) (fp : List Addr), ME (X.blk s H scope (compEnvC scope cl C X.env) fp) E0 elt te) (hs : ∀ x, foldedSetIterable iter X.env x = pure x := by intro _; rfl) (hs1 : ∀ env x, foldedSetIterable iter1 env x = pure x := by intro _ _; rfl) :
    ME X W (.ListComp elt [⟨tg, iter, ifs, 0⟩, ⟨tg1, iter1, ifs1, 0⟩] scope pos) (eComp2 (own.map (·.2)) vs1 tw g tt tw1 g1 tt1 te) := by
  refine pe_mono (pe_lc2 (vs1 := vs1) hc hN hi ok hv hg ht hi1 hg1 ht1 he hs hs1) lc2_imp
end
end Dn

/-! DnC: a def that a slot holds is called; a name set to a comprehension of two clauses -/
namespace Dn
open PySem PySem.Spec PyProof.Rows L2
section
variable {X : Cx} {W : XK} {k : Nat} {g : Nat → Fn} {n : Nat} {tb : List (Str × Nat)}
/-- these defs may be called by a slot's name -/
def HvOk (X : Cx) (k : Nat) (g : Nat → Fn) (n : Nat) (tb : List (Str × Nat)) : Prop := ∀ x j, tb.lookup x = some j →
  ∃ (f : Addr) (fd : FuncData) (ps : List Str), FnG X.prog X.w X.K X.mg X.base CX0 k f fd ps (spD (zOf X) ps.length (g j)) ∧ X.mg x = some (.ref f) ∧ PySem.W.keepIn X.K (.ref f) = true ∧ Binds X.K fd ps [] ∧ n = ps.length
theorem hv_nil : HvOk X k g n [] := fun x j h => nomatch h
theorem hv_cons {f : Addr} {fd : FuncData} {ps : List Str} {x : Str} {j : Nat} (G : FnG X.prog X.w X.K X.mg X.base CX0 k f fd ps (spD (zOf X) ps.length (g j))) (hm : X.mg x = some (.ref f)) (hk : PySem.W.keepIn X.K (.ref f) = true) (hb : Binds X.K fd ps []) (hn : n = ps.length) (r : HvOk X k g n tb) : HvOk X k g n ((x, j) :: tb) := by
  intro y i h
  rw [List.lookup_cons] at h
  by_cases e : y = x
  · subst e
    rw [beq_self_eq_true] at h
    have h : some j = some i := h
    cases h
    exact ⟨f, fd, ps, G, hm, hk, hb, hn⟩
  · have : (y == x) = false := by simpa using e
    rw [this] at h
    exact r y i h
def eCallV (g : Nat → Fn) (tb : List (Str × Nat)) (i : Nat) (t : AD) : ED := fun s => match s[i]? with
  | some (some (.glo x)) => match tb.lookup x with
    | some j => (t s).bind (g j)
    | none => C.bad
  | _ => C.bad
theorem eCallV_run {s : Sl} {M : Mh} (i : Nat) (t : AD) : eCallV g tb i t s M = match s[i]? with
  | some (some (.glo x)) => (match tb.lookup x with
    | some j => (match t s M with
      | .bad => .bad
      | .ok ds M1 => g j ds M1
      | .exc c fs M1 => .exc c fs M1)
    | none => .bad)
  | _ => .bad := by
  unfold eCallV
  cases s[i]? with
  | none => rfl
  | some o =>
    cases o with
    | none => rfl
    | some d =>
      cases d with
      | glo x =>
        simp only
        cases tb.lookup x with
        | none => rfl
        | some j =>
          simp only [bind_run]
          cases t s M <;> rfl
      | _ => rfl
theorem me_callV {i : Nat} {x : Str} {pp pos : Pos} {e : Expr} {es : List Expr} {t : AD} (hv : HvOk X k g (e :: es).length tb) (hr : RoomG k X.A) (hN : X.N[i]? = some x) (ha : MA X W (e :: es) t) (hlen : ∀ s M ds M', t s M = .ok ds M' → ds.length = (e :: es).length)
    (vis : Vis X.env.scope x := by first | exact Or.inl rfl | exact Or.inr (Or.inl rfl) | exact Or.inr (Or.inr rfl)) (hdb : (x == ("__debug__" : Str)) = false := by decide) (hcd : (x == ("__classdict__" : Str)) = false := by decide)
    (he : starEach (e :: es) X.env = (false, eval e X.env) :: starEach es X.env := by rfl) (hpl : (backTo pos (starEach es X.env)).any (·.1) = false := by rfl) : ME X W (.Call (.Name x pp) (e :: es) [] pos) (eCallV g tb i t) := by
  refine ⟨fun pins s σ H Q I h => ?_⟩
  obtain ⟨m, sl, M, hs, hM, p⟩ := h
  unfold eCallV at p
  cases e0 : sl[i]? with
  | none => rw [e0] at p; exact p.elim
  | some o =>
    cases o with
    | none => rw [e0] at p; exact p.elim
    | some d =>
      rw [e0] at p
      cases d with
      | glo y =>
        simp only at p
        cases el : tb.lookup y with
        | none => rw [el] at p; exact p.elim
        | some j =>
          rw [el] at p
          simp only at p
          obtain ⟨f, fd, ps, G, hm, hk, hb, hn⟩ := hv y j el
          obtain ⟨v, e1, a, rfl, ha2⟩ := hs.val i _ e0
          have ha2 : X.mg y = some (.ref a) := ha2
          rw [hm] at ha2
          cases ha2
          refine wpAny_Call_Name_kw (thn ((pe_var (pos := pp) hN vis hdb hcd).run pins s σ H (fun v H1 => v = .ref f ∧ H1 = H) I ⟨.ref f, e1, rfl, rfl⟩) fun u s1 ⟨v, H1, I1, r1, q1⟩ => ?_)
          obtain ⟨rfl, rfl⟩ := q1
          cases r1
          refine PySem.W.callWith_K (h₀ := X.base) I.ok.mod.kin hk (thn (ha.run pos pins s1 σ _ (fun vs H1 => spD (zOf X) ps.length (g j) vs H1 Q W) I1 ⟨m, sl, M, hs, hM, ?_⟩) fun us s2 ⟨vs, H2, I2, r, q⟩ => ⟨I2.kIn, run_g G hr hb I2 r q⟩) he hpl
          have pb := Post.bind (show Post _ _ _ _ (C.bind (t sl) (g j) M) _ from p)
          cases et : t sl M with
          | bad => rw [et] at pb; exact pb
          | exc c fs M1 => rw [et] at pb; exact pb
          | ok ds M1 =>
            rw [et] at pb
            intro H1 m1 st1 hM1 vs rv
            exact ⟨by rw [rv.length, hlen _ _ _ _ et, hn], m1, ds, M1, rv, hM1, pb H1 m1 st1 hM1⟩
      | _ => exact p.elim
variable {tg iter tg1 iter1 elt : Expr} {ifs ifs1 : List Expr} {scope : Scope} {own : List (Str × Nat)} {pos : Pos}
/-- name = [e for .. in .. for .. in ..] -/
theorem ms_setLc2 {i : Nat} {y : Str} {py spos : Pos} {vs1 : List Nat} {tw tw1 : WD} {g g1 : GD} {tt tt1 : TD} {te : ED} (hc : X.calm = true) (hN : X.N.Nodup) (hy : X.N[i]? = some y) (hyl : X.env.scope.names.lookup y = some .local)
    (hsw : swapsWith (.ListComp elt [⟨tg, iter, ifs, 0⟩, ⟨tg1, iter1, ifs1, 0⟩] scope pos) (some (.Name y py)) spos.line X.env = pure true) (hi : MI X W tg iter tw) (ok : BlkOk X.N X.env.scope scope own) (hv : ∀ i ∈ vs1, i ∈ own.map (·.2))
    (hg : ∀ (s : Shared) (H : Hp) (C : Addr) (cl : List (Str × Addr)) (fp : List Addr), MG (X.blk s H scope (compEnvC scope cl C X.env) fp) E0 (some (own.map (·.2))) tg g)
    (ht : ∀ (s : Shared) (H : Hp) (C : Addr) (cl : List (Str × Addr)) (fp : List Addr), PTs (X.blk s H scope (compEnvC scope cl C X.env) fp) ifs (tDT (zOf X) E0 tt))
    (hi1 : ∀ (s : Shared) (H : Hp) (C : Addr) (cl : List (Str × Addr)) (fp : List Addr), MI (X.blk s H scope (compEnvC scope cl C X.env) fp) E0 tg1 iter1 tw1)
    (hg1 : ∀ (s : Shared) (H : Hp) (C : Addr) (cl : List (Str × Addr)) (fp : List Addr), MG (X.blk s H scope (compEnvC scope cl C X.env) fp) E0 (some vs1) tg1 g1)
    (ht1 : ∀ (s : Shared) (H : Hp) (C : Addr) (cl : List (Str × Addr)) (fp : List Addr), PTs (X.blk s H scope (compEnvC scope cl C X.env) fp) ifs1 (tDT (zOf X) E0 tt1))
    (he : ∀ (s : Shared) (H : Hp) (C : Addr) (cl : List (Str × Addr)) (fp : List Addr), ME (X.blk s H scope (compEnvC scope cl C X.env) fp) E0 elt te) (hs : ∀ x, foldedSetIterable iter X.env x = pure x := by intro _; rfl) (hs1 : ∀ env x, foldedSetIterable iter1 env x = pure x := by intro _ _; rfl) :
    MS X W (.Assign [.Name y py] (.ListComp elt [⟨tg, iter, ifs, 0⟩, ⟨tg1, iter1, ifs1, 0⟩] scope pos) spos) (sAsg (eComp2 (own.map (·.2)) vs1 tw g tt tw1 g1 tt1 te) (gNm i)) := ps_mono (ps_setLc2 (vs1 := vs1) hc hN hy hyl hsw hi ok hv hg ht hi1 hg1 ht1 he hs hs1) fun E σ H h => by
  obtain ⟨m, s, M, hs, hM, p⟩ := h
  refine lc2_imp (X := X) (W := W) σ H _ ⟨m, s, M, hs, hM, p.bind.mono fun d H1 m1 M1 st1 hM1 p1 v rv => ?_⟩
  exact p1.ok hM1 _ ((hs.mono st1).set i rv)
end
end Dn

/-! DnR: sets of texts, as far as sorted() of them -/
namespace Sx
open PySem PySem.Spec PyProof.Rows L2
def txt (e : Int × Value) : Str := match e.2 with
  | .str k _ => k
  | _ => ⟨#[]⟩
def Tx (w : World) (e : Int × Value) : Prop := ∃ k tk, e.2 = Value.str k tk ∧ e.1 = hashStr w k
def addS (l : List Str) (k : Str) : List Str := if k ∈ l then l else l ++ [k]
theorem addS_nodup {l : List Str} (k : Str) (h : l.Nodup) : (addS l k).Nodup := by
  unfold addS
  split
  · exact h
  · rename_i hk
    rw [List.nodup_append]
    refine ⟨h, by simp, fun a ha b hb e => ?_⟩
    have : b = k := by simpa using hb
    exact hk (by rw [← this, ← e]; exact ha)
theorem addS_len (l : List Str) (k : Str) : (addS l k).length ≤ l.length + 1 := by
  unfold addS
  split
  · exact Nat.le_succ _
  · rw [List.length_append]; exact Nat.le_refl _
/-- what a set's entries and its table are like -/
structure Good (w : World) (es : Array (Int × Value)) (t : SetTable) (l : List Str) : Prop where
  all : ∀ e ∈ es.toList, Tx w e
  perm : (es.toList.map txt).Perm l
  few : es.size < scanBound
  fits : t.fits es.size = true
  ris : Ris t.place.toList
  led : w.params.followText "set-order" = true ∨ t.led = true
/-- the set of the texts l stands at a -/
def SetT (w : World) (h : Heap) (a : Addr) (l : List Str) : Prop := l.Nodup ∧ ∃ o es ep t, h.get? a = some o ∧ o.ExactSet ∧ o.data = .set es ep t ∧ Good w es t l
section
variable {P : Program} {w : World} {h h' : Heap} {a : Addr} {l : List Str}
theorem SetT.keep (R : SetT w h a l) (k : ∀ o, h.get? a = some o → h'.get? a = some o) : SetT w h' a l := by
  obtain ⟨nd, o, es, ep, t, ho, r⟩ := R
  exact ⟨nd, o, es, ep, t, k o ho, r⟩
theorem tx_is {e : Int × Value} (g : Tx w e) (k : Str) : (strKind P w).is k e.2 = true ↔ txt e = k := by
  obtain ⟨k0, tk, h1, _⟩ := g
  unfold txt
  rw [h1]
  constructor
  · intro z
    obtain ⟨u, z⟩ := Value.isStrOf_shape (show Value.isStrOf k (.str k0 tk) = true from z)
    injection z
  · rintro rfl
    exact strKind_is P w k0 tk
theorem tx_elems {l : List (Int × Value)} (g : ∀ e ∈ l, Tx w e) : ElemsOf (strKind P w) l := fun e he => by
  obtain ⟨k, tk, h1, h2⟩ := g e he
  exact ⟨⟨k, by rw [h1]; exact strKind_is P w k tk, h2⟩, by rw [h1]; rfl⟩
theorem tx_mem {l : List (Int × Value)} (g : ∀ e ∈ l, Tx w e) (k : Str) : k ∈ l.map txt ↔ ∃ e ∈ l, (strKind P w).is k e.2 = true := by
  rw [List.mem_map]
  exact ⟨fun ⟨e, he, q⟩ => ⟨e, he, (tx_is (g e he) k).2 q⟩, fun ⟨e, he, q⟩ => ⟨e, he, (tx_is (g e he) k).1 q⟩⟩
end
section
variable {P : Program} {w : World} {A : Around} {E : Value → Shared → Prop} {s : Shared} {a : Addr} {l : List Str}
theorem tx_tail {g : Bool → Sem Unit} (hg : ∀ (b : Bool) (s₁ : Shared) (Q' : Unit → Shared → Prop), Q' () s₁ → wpAny (model P w) A (g b) Q' E s₁) {o : Obj} {es : Array (Int × Value)} {ep : Nat} {t : SetTable} (ho : s.heap.get? a = some o) (hex : o.ExactSet) (hd : o.data = .set es ep t)
    {es1 : Array (Int × Value)} {t2 : SetTable} (G : Good w es1 t2 l) (nd : l.Nodup) {wd : Bool} {R : Option Bool → Shared → Prop}
    (hR : ∀ h', Heap.SameBut a s.heap h' → SetT w h' a l → R (some true) { s with heap := h' }) :
    wpAny (model P w) A (do
        storeSet a es1 t2
        if (!wd && t2.tooFull) = true then do
            g (relayAll t2 es1 (SetTable.grown es1.size)).2.2
            storeSet a (relayAll t2 es1 (SetTable.grown es1.size)).1 (relayAll t2 es1 (SetTable.grown es1.size)).2.1
            pure (some true)
          else pure (some true)) R E s := by
  refine wpAny_bind (wpAny_storeSet_of ho hd ?_ (fits_of_scanBound G.few))
  have k1 := store_at (es' := es1) (t' := t2) ho hd
  have b1 := Heap.SameBut.update s.heap a (Obj.putSet es1 t2)
  by_cases hc : (!wd && t2.tooFull) = true
  · rw [if_pos hc]
    have z1 := relayAll_perm t2 es1 (SetTable.grown es1.size)
    have z2 := relayAll_fits t2 es1 (SetTable.grown es1.size)
    have z3 := relayAll_ris t2 es1 (SetTable.grown es1.size)
    have z4 := relayAll_led t2 es1 (SetTable.grown es1.size)
    generalize relayAll t2 es1 (SetTable.grown es1.size) = Z at z1 z2 z3 z4 ⊢
    obtain ⟨es2, t3, gave⟩ := Z
    dsimp only at z1 z2 z3 z4 ⊢
    have sz : es2.size = es1.size := by rw [← Array.length_toList, z1.length_eq, Array.length_toList]
    have few2 : es2.size < scanBound := sz ▸ G.few
    refine wpAny_bind (hg _ _ _ (wpAny_bind (wpAny_storeSet_of k1 rfl ?_ (fits_of_scanBound few2))))
    refine wpAny_pure (hR _ (b1.trans (Heap.SameBut.update _ a _)) ⟨nd, _, es2, _, t3, store_at (es' := es2) (t' := t3) k1 rfl, hex, rfl, ?_⟩)
    exact ⟨fun e he => G.all e (z1.mem_iff.mp he), (z1.map txt).trans G.perm, few2, z2, z3, G.led.imp id fun q => by rw [z4]; exact q⟩
  · rw [if_neg hc]
    exact wpAny_pure (hR _ b1 ⟨nd, _, es1, _, t2, k1, hex, rfl, G⟩)
theorem tx_hashed {k : Str} {tk : Tok} {Q : Bool → Shared → Prop} (R : SetT w s.heap a l) (room : l.length + 1 < scanBound)
    (hQ : ∀ b h', Heap.SameBut a s.heap h' → SetT w h' a (addS l k) → Q b { s with heap := h' }) : wpAny (model P w) A (setAddHashed a (.str k tk) ((strKind P w).hash k)) Q E s := by
  obtain ⟨nd, o, es, ep, t, ho, hex, hd, G⟩ := R
  have key : (strKind P w).is k (.str k tk) = true := strKind_is P w k tk
  have sc : (Value.str k tk).scannable = true := rfl
  have el : ElemsOf (strKind P w) es.toList := tx_elems G.all
  have esz : es.size = l.length := by rw [← Array.length_toList, ← G.perm.length_eq, List.length_map]
  unfold setAddHashed setAddHashedIn
  refine wpAny_holding (wpAny_bind (wpAny_setState_of ho hd G.fits ?_))
  dsimp only
  rw [byScan_of sc G.few el]
  simp only [↓reduceIte]
  unfold setAddByScan
  refine wpAny_bind (wpAny_bind (wpAny_rule (wpAny_bind (wpAny_setScan_of key ho hd G.fits el ?_))))
  have inL : k ∈ l ↔ ∃ e ∈ es.toList, (strKind P w).is k e.2 = true := by rw [← tx_mem G.all k, G.perm.mem_iff]
  cases met : List.findIdx? (fun e => (strKind P w).is k e.2) es.toList with
  | some j =>
    dsimp only
    obtain ⟨hj, pj, _⟩ := List.findIdx?_eq_some_iff_getElem.mp met
    have hk : k ∈ l := inL.mpr ⟨es.toList[j], List.getElem_mem hj, pj⟩
    have e2 : addS l k = l := if_pos hk
    exact wpAny_pure (wpAny_pure (hQ _ s.heap (Heap.SameBut.refl a s.heap) (by rw [e2]; exact ⟨nd, o, es, ep, t, ho, hex, hd, G⟩)))
  | none =>
    dsimp only
    have hk : k ∉ l := fun z => by
      obtain ⟨e, he, q⟩ := inL.mp z
      have := List.findIdx?_eq_none_iff.mp met e he
      rw [q] at this; cases this
    have e2 : addS l k = l ++ [k] := if_neg hk
    have z1 := layNew_perm t es ((strKind P w).hash k) (.str k tk)
    have z2 := layNew_fits t es ((strKind P w).hash k) (.str k tk)
    have z3 := layNew_ris t es ((strKind P w).hash k) (.str k tk) G.ris
    have z4 := layNew_led t es ((strKind P w).hash k) (.str k tk)
    generalize layNew t es ((strKind P w).hash k) (.str k tk) = Z at z1 z2 z3 z4 ⊢
    obtain ⟨es1, t1, wd, gave⟩ := Z
    dsimp only at z1 z2 z3 z4 ⊢
    rw [Array.toList_push] at z1
    have sz : es1.size = l.length + 1 := by rw [← Array.length_toList, z1.length_eq, List.length_append, Array.length_toList, esz]; rfl
    have G1 : ∀ t', t'.fits es1.size = true → Ris t'.place.toList → t'.led = t1.led → Good w es1 t' (addS l k) := fun t' f1 f2 f3 => by
      refine ⟨fun e he => ?_, ?_, by omega, f1, f2, G.led.imp id fun q => by rw [f3, z4]; exact q⟩
      · rcases List.mem_append.mp (z1.mem_iff.mp he) with q | q
        · exact G.all e q
        · have : e = ((strKind P w).hash k, .str k tk) := by simpa using q
          rw [this]; exact ⟨k, tk, rfl, rfl⟩
      · rw [e2]
        have := z1.map txt
        rw [List.map_append] at this
        exact this.trans (G.perm.append_right _)
    have nd1 := addS_nodup k nd
    have give : ∀ (b : Bool) {s₁ : Shared} {Q' : Unit → Shared → Prop}, Q' () s₁ → wpAny (model P w) A (match b with | true => rule "set.scan.the-table-gave-way" | false => pure ()) Q' E s₁ := by
      intro b s₁ Q' q
      cases b
      · exact wpAny_pure q
      · exact wpAny_rule q
    refine wpAny_bind (give _ ?_)
    split
    · refine wpAny_bind ?_
      rw [hashByValue_scannable 8 sc]
      refine wpAny_pure ?_
      refine tx_tail (l := addS l k) (fun b s₁ Q' q => ?_) ho hex hd (G1 _ ?_ ?_ ?_) nd1 fun h' sb r => ?_
      · cases b <;> first | exact wpAny_pure q | exact wpAny_rule q
      · first | (split <;> first | exact z2 | exact SetTable.fits_plain_off z2) | exact z2
      · first | (split <;> exact z3) | exact z3
      · first | (split <;> rfl) | rfl
      · dsimp only
        exact wpAny_pure (hQ _ h' sb r)
    · refine wpAny_bind (wpAny_pure ?_)
      simp only [↓reduceIte]
      refine tx_tail (l := addS l k) (fun b s₁ Q' q => ?_) ho hex hd (G1 t1 z2 z3 rfl) nd1 fun h' sb r => ?_
      · cases b <;> first | exact wpAny_pure q | exact wpAny_rule q
      · dsimp only
        exact wpAny_pure (hQ _ h' sb r)
theorem SetT.typ (R : SetT w s.heap a l) : s.TypeIs (.ref a) "set" := by
  obtain ⟨_, o, es, ep, t, ho, hex, _⟩ := R
  exact ⟨o, ho, hex.1⟩
theorem tx_add {k : Str} {tk : Tok} {Q : Value → Shared → Prop} (R : SetT w s.heap a l) (room : l.length + 1 < scanBound)
    (hQ : ∀ h', Heap.SameBut a s.heap h' → SetT w h' a (addS l k) → Q .none { s with heap := h', toks := s.toks + 1 }) : wpAny (model P w) A (call (.builtin "set.add") [.ref a, .str k tk]) Q E s := by
  refine wpAny_call_entry F.slot_set_add R.typ F.entry_set_add ?_ (F.args_set_add_2 _ _)
  unfold Builtin.«set.add» Builtin.Frozenset.oneOther
  simp only [List.isEmpty_nil, bind_assoc]
  unfold Builtin.Frozenset.addrOf setAdd
  refine wpAny_bind (wpAny_pure (wpAny_bind (wpAny_pure (wpAny_bind (wpAny_holding (wpAny_bind ((strKind P w).pyHash (strKind_is P w k tk) ?_)))))))
  refine tx_hashed (s := { s with toks := s.toks + 1 }) R room fun b h' sb r => ?_
  exact wpAny_pure ⟨_, rfl, hQ h' sb r⟩
theorem tx_fresh {h : Heap} (w : World) : SetT w (h.push { cls := .type "set", dict := none, data := .set #[] 0 (.fresh 0 0 (!w.params.followText "set-order")) }) h.objs.size [] := by
  refine ⟨.nil, _, #[], 0, _, Heap.get?_push_size _ rfl, ⟨rfl, rfl, rfl⟩, rfl, fun e he => by simp at he, .refl _, by decide, by rfl, List.Pairwise.nil, ?_⟩
  show _ ∨ (!w.params.followText "set-order") = true
  cases w.params.followText "set-order"
  · exact .inr rfl
  · exact .inl rfl
end
/-! sorted of it -/
def srtT (l : List Str) : List Str := l.mergeSort fun a b => decide (a.cps.toList ≤ b.cps.toList)
theorem str_ext {a b : Str} (h : a.cps.toList = b.cps.toList) : a = b := by
  obtain ⟨x⟩ := a
  obtain ⟨y⟩ := b
  have : x = y := Array.toList_inj.mp h
  rw [this]
theorem le_tot : PySem.W.TotalLe (fun a b : Str => decide (a.cps.toList ≤ b.cps.toList)) := by
  have := PySem.W.sortLe_total (listOrd itemOrd) false (fun b : Str => PySem.W.keyToks (.str b))
  have e := PySem.W.dataLe_str (fun b : Str => b)
  unfold PySem.W.dataLe at e
  rw [e] at this
  exact this
theorem srtT_perm (l : List Str) : (srtT l).Perm l := List.mergeSort_perm _ _
theorem srtT_same {l m : List Str} (h : l.Perm m) : srtT l = srtT m := by
  refine List.Perm.eq_of_pairwise (le := fun a b : Str => decide (a.cps.toList ≤ b.cps.toList) = true) (fun a b _ _ h1 h2 => ?_) (PySem.W.sort_pairwise le_tot l) (PySem.W.sort_pairwise le_tot m) ((srtT_perm l).trans (h.trans (srtT_perm m).symm))
  exact str_ext (List.le_antisymm (of_decide_eq_true h1) (of_decide_eq_true h2))
section
variable {P : Program} {w : World} {A : Around} {E : Value → Shared → Prop} {s : Shared} {a : Addr} {l : List Str}
theorem each_txt {vs : List Value} (h : ∀ v ∈ vs, ∃ k tk, v = Value.str k tk) : ∃ ks : List Str, PySem.W.EachIs (fun v k => ∃ tk, v = Value.str k tk) vs ks := by
  induction vs with
  | nil => exact ⟨[], .nil⟩
  | cons v vs ih =>
    obtain ⟨k, tk, e⟩ := h v (List.mem_cons_self ..)
    obtain ⟨ks, r⟩ := ih fun u hu => h u (List.mem_cons_of_mem _ hu)
    exact ⟨k :: ks, .cons ⟨tk, e⟩ r⟩
theorem each_map {vs : List Value} {ks : List Str} (r : PySem.W.EachIs (fun v k => ∃ tk, v = Value.str k tk) vs ks) {es : List (Int × Value)} (h : ∀ e ∈ es, Tx w e) (e : es.map (·.2) = vs) : es.map txt = ks := by
  induction r generalizing es with
  | nil => cases es with
    | nil => rfl
    | cons _ _ => cases e
  | cons x t ih =>
    cases es with
    | nil => cases e
    | cons y es =>
      obtain ⟨tk, x⟩ := x
      rw [List.map_cons] at e
      obtain ⟨e1, e2⟩ := List.cons.inj e
      rw [List.map_cons, ih (fun z hz => h z (List.mem_cons_of_mem _ hz)) e2]
      congr 1
      unfold txt
      rw [e1, x]
theorem each_vals {vs : List Value} {ks : List Str} (r : PySem.W.EachIs (fun v k => ∃ tk, v = Value.str k tk) vs ks) : Vals (ks.map V.str) vs := by
  induction r with
  | nil => exact .nil
  | cons x t ih => exact .cons x ih
theorem perm_txt {es : List (Int × Value)} (g : ∀ e ∈ es, Tx w e) {vs : List Value} (p : vs.Perm (es.map (·.2))) : ∃ fs : List (Int × Value), fs.Perm es ∧ fs.map (·.2) = vs := by
  induction es generalizing vs with
  | nil => exact ⟨[], .refl _, (List.perm_nil.mp p).symm⟩
  | cons e es ih =>
    rw [List.map_cons] at p
    obtain ⟨x, y, rfl, p2⟩ : ∃ x y, vs = x ++ e.2 :: y ∧ (x ++ y).Perm (es.map (·.2)) := by
      have hm : e.2 ∈ vs := p.mem_iff.mpr (List.mem_cons_self ..)
      obtain ⟨x, y, rfl⟩ := List.append_of_mem hm
      exact ⟨x, y, rfl, (List.perm_middle.symm.trans p).cons_inv⟩
    obtain ⟨fs, q1, q2⟩ := ih (fun z hz => g z (List.mem_cons_of_mem _ hz)) p2
    refine ⟨fs.take x.length ++ e :: fs.drop x.length, List.perm_middle.trans ((List.take_append_drop x.length fs).symm ▸ q1.cons e), ?_⟩
    rw [List.map_append, List.map_cons, List.map_take, List.map_drop, q2, List.take_left' rfl, List.drop_left' rfl]
/-- sorted(a set of texts): a new list -/
theorem tx_sorted {Q : Value → Shared → Prop} (R : SetT w s.heap a l) (hh : A.handled = none) (hu : A.units + 66 < cLine)
    (hQ : ∀ s' p out c, (∀ b o, s.heap.get? b = some o → s'.heap.get? b = some o) → s'.gens = s.gens → s'.os = s.os → s.heap.objs.size ≤ p → s'.heap.get? p = some (seqObj "list" out c) → Vals ((srtT l).map V.str) out.toList → l.length ≤ sizeLine → Q (.ref p) s') :
    wpAny (model P w) A (call (.builtin "sorted") [.ref a]) Q E s := by
  obtain ⟨nd, o, es, ep, t, ho, hex, hd, G⟩ := R
  have esz : es.size = l.length := by rw [← Array.length_toList, ← G.perm.length_eq, List.length_map]
  have hls : l.length ≤ sizeLine := by rw [← esz]; exact fits_of_scanBound G.few
  refine Calls.call_function_entry kind_sorted plain_sorted entry_sorted (args_sorted1 _) ?_
  unfold Builtin.«sorted»
  refine wpAny_bind (m := checkCount "sorted" 1 1 _) (wpAny_pure (wpAny_bind (collect_set (A := A.in1) hh ⟨o, ho, hex.1, hd⟩ G.fits G.few G.ris G.led fun s1 vs k1 hz g1 o1 pm => ?_)))
  obtain ⟨fs, q1, q2⟩ := perm_txt G.all pm
  have gf : ∀ e ∈ fs, Tx w e := fun e he => G.all e (q1.mem_iff.mp he)
  obtain ⟨ks, ek⟩ := each_txt (vs := vs) fun v hv => by
    rw [← q2] at hv
    obtain ⟨e, he, rfl⟩ := List.mem_map.mp hv
    obtain ⟨k, tk, h1, _⟩ := gf e he
    exact ⟨k, tk, h1⟩
  have kp : ks.Perm l := by rw [← each_map ek gf q2]; exact (q1.map txt).trans G.perm
  have kl : ks.length = l.length := kp.length_eq
  have vl : vs.length = l.length := by rw [← kl]; exact ek.length
  refine wpAny_bind (wpAny_newList ?_ (by rw [vl]; exact hls))
  have hoL : (s1.heap.push (seqObj "list" vs.toArray 0)).get? s1.heap.objs.size = some (seqObj "list" vs.toArray 0) := Heap.get?_push_size _ rfl
  refine wpAny_bind (wpAny_holding (PySem.W.list_sort_data (enc := fun k : Str => PyData.str k) (R := fun v k => ∃ tk, v = Value.str k tk) (bs := ks) hoL ek (ek.mono fun v k ⟨tk, e⟩ => ⟨[], by rw [e]; exact .str k tk, by simp⟩)
    (PySem.W.AllAlike.of fun _ _ => rfl) (PySem.W.Sortable.others fun _ => ⟨by simp, by simp⟩) (by rw [kl]; exact hls) (fun k _ => ?_) fun out ol er => ?_))
  · show A.units + 1 + 1 + (PyData.str k).depth < cLine
    simp only [PyData.depth]
    omega
  · obtain ⟨c, hc⟩ := sortedHeap_at (vs := vs) (out := out.toArray) hoL
    rw [PySem.W.dataLe_str (fun k : Str => k)] at er
    refine wpAny_pure ⟨_, rfl, hQ _ s1.heap.objs.size out.toArray c (fun b u e => ?_) g1 o1 hz hc ?_ hls⟩
    · have q := k1 b u e
      have hlt := Heap.lt_size q
      show (sortedHeap (s1.heap.push (seqObj "list" vs.toArray 0)) s1.heap.objs.size vs out.toArray).get? b = some u
      rw [sortedHeap_old (Nat.ne_of_lt hlt) (by rw [size_push']; exact Nat.lt_succ_of_lt hlt)]
      exact Heap.get?_push_of_some _ q
    · rw [← srtT_same kp]
      exact each_vals er
end
end Sx

/-! DnR2: sets of texts from a list -/
namespace Sx
open PySem PySem.Spec PyProof.Rows L2
section
variable {P : Program} {w : World} {A : Around} {R : Result → Shared → Prop} {I : Addr} {fp wr : List Addr} {G : Array GenState → Array GenState → Prop} {n : Nat} {Pv : Nat → Value → Prop} {St : Nat → Shared → Prop}
def upTo (val : Nat → Str) (i : Nat) : List Str := ((List.range i).map val).foldl addS []
theorem upTo_succ (val : Nat → Str) (i : Nat) : upTo val (i + 1) = addS (upTo val i) (val i) := by
  unfold upTo
  rw [List.range_succ, List.map_append, List.foldl_append]
  rfl
theorem upTo_len (val : Nat → Str) : ∀ i, (upTo val i).length ≤ i
  | 0 => Nat.le_refl _
  | i + 1 => by
    rw [upTo_succ]
    exact Nat.le_trans (addS_len _ _) (Nat.succ_le_succ (upTo_len val i))
theorem tx_loop (W : WalksS P w A.in1 I fp wr G n Pv St) (S : Addr) (hSf : S ∉ fp) (val : Nat → Str) (hval : ∀ i v, Pv i v → ∃ t, v = .str (val i) t) (hb : n + 1 < scanBound) :
    ∀ (k i : Nat) (s : Shared), n - i = k → i ≤ n → St i s → SetT w s.heap S (upTo val i) → (∀ s', Moved (S :: wr) G s s' → SetT w s'.heap S (upTo val n) → R (.ok (.ret .none)) s') → codeAny (model P w) A (.builtin "set.update.loop" ⟨[.ref S, .ref I], []⟩) R s := by
  have nW : S ∉ wr := fun h => hSf (W.sub _ h)
  have sub : ∀ b ∈ wr, b ∈ S :: wr := fun b hb => List.mem_cons_of_mem _ hb
  intro k
  induction k with
  | zero =>
    intro i s hk hi st hS hR
    obtain rfl : i = n := by omega
    refine codeAny_builtin F.entry_set_update_loop ?_
    rw [Around.under_plainId F.plain_set_update_loop _]
    show wpAny _ A.in1 (pyNext (.ref I) >>= _) _ _ s
    exact wpAny_bind (W.done s _ _ st fun s' hm => wpAny_pure (hR s' (hm.mono sub) (hS.keep fun o e => hm.heap S o nW e)))
  | succ k ih =>
    intro i s hk hi st hS hR
    have lt : i < n := by omega
    refine codeAny_builtin F.entry_set_update_loop ?_
    rw [Around.under_plainId F.plain_set_update_loop _]
    show wpAny _ A.in1 (pyNext (.ref I) >>= _) _ _ s
    refine wpAny_bind (W.item i s _ _ lt st fun v s' hP st' hm => ?_)
    obtain ⟨t, rfl⟩ := hval i v hP
    have hS' : SetT w s'.heap S (upTo val i) := hS.keep fun o e => hm.heap S o nW e
    show wpAny _ A.in1 (holding [Value.str (val i) t] (setAdd S (.str (val i) t)) >>= _) _ _ s'
    refine wpAny_bind (wpAny_holding ?_)
    unfold setAdd
    refine wpAny_holding (wpAny_bind ((strKind P w).pyHash (k := val i) (strKind_is _ _ _ _) ?_))
    refine tx_hashed (s := { s' with toks := s'.toks + 1 }) hS' (by have := upTo_len val i; omega) fun b h' hsb hS2 => ?_
    refine wpAny_pure ⟨plainId_quiet F.plain_set_update_loop _, ih (i + 1) _ (by omega) lt (W.frame _ s' _ _ st' (Nat.le_succ _) fun b hb o e => ?_) (by rw [upTo_succ]; exact hS2) fun s'' hm'' hS'' => ?_⟩
    · rw [hsb.2 b (fun z : b = S => hSf (by rw [← z]; exact hb))]; exact e
    · refine hR s'' (Moved.trans W.gtrans ((hm.mono sub).then_heap (Nat.le_succ _) fun b o hb e => ?_) hm'') hS''
      rw [hsb.2 b (fun z : b = S => hb (by rw [z]; exact List.mem_cons_self))]; exact e
end
section
variable {P : Program} {w : World} {A : Around} {E : Value → Shared → Prop} {s : Shared}
abbrev fr0 (w : World) : Obj := { cls := .type "set", dict := none, data := .set #[] 0 (.fresh 0 0 (!w.params.followText "set-order")) }
theorem code_led1 (a : Value) {Q₁ : Value → Shared → Prop} (h : Q₁ (.ref s.heap.objs.size) { s with heap := s.heap.push (fr0 w) }) :
    codeAny (model P w) A (.call (.builtin "set.__new__") ⟨[.type "set", a], []⟩) (wants Q₁ E) s := by
  refine codeAny_of_tree ?_
  show wpAny _ A.in1 (do checkBuiltinCall "set.__new__" ⟨[.type "set", a], []⟩; again (.builtin "set.__new__" ⟨[.type "set", a], []⟩)) _ _ s
  refine wpAny_bind (wpAny_of_eq (F.newCall_set_1 a) (wpAny_pure ⟨plainId_quiet F.plain_set_new _, codeAny_builtin F.entry_set_new ?_⟩))
  rw [Around.under_plainId F.plain_set_new _]
  unfold Builtin.«set.__new__» Builtin.Frozenset.newClass
  have hsub := sub_set_self
  obtain ⟨hp, g, d, tk, os⟩ := s
  dsimp only
  wp_walk
  refine wpAny_askSetting (wpAny_pure ?_)
  dsimp only
  simp only [newObj]
  exact wpAny_bind (wpAny_alloc (wpAny_pure (wpAny_pure h)))
/-- set(a list of texts) -/
theorem tx_set {l : Addr} {items : Array Value} {ks : List Str} {Q : Value → Shared → Prop} (hh : A.handled = none) (hl : s.heap.IsList l items) (hi : Vals (ks.map V.str) items.toList) (hb : items.size + 1 < scanBound)
    (h : ∀ (h' : Heap) (tk : Nat), SetT w h' s.heap.objs.size (ks.foldl addS []) → (∀ b o, b < s.heap.objs.size → s.heap.get? b = some o → h'.get? b = some o) → Q (.ref s.heap.objs.size) { s with heap := h', toks := tk }) :
    wpAny (model P w) A (call (.type "set") [.ref l]) Q E s := by
  have ilen : items.size = ks.length := by rw [← Array.length_toList, ← hi.length, List.length_map]
  have eks : upTo (fun i => ks.getD i ⟨#[]⟩) items.size = ks.foldl addS [] := by
    unfold upTo
    congr 1
    rw [ilen]
    refine List.ext_getElem (by simp) fun i h1 h2 => ?_
    simp [List.getD_eq_getElem?_getD, List.getElem?_eq_getElem h2]
  have hval : ∀ (i : Nat) (v : Value), items[i]? = some v → ∃ t, v = .str (ks.getD i ⟨#[]⟩) t := fun i v hv => by
    rw [← Array.getElem?_toList] at hv
    have hlt : i < ks.length := by
      have := (List.getElem?_eq_some_iff.mp hv).1
      rw [Array.length_toList] at this; omega
    obtain ⟨u, e1, e2⟩ := hi.get (i := i) (x := .str ks[i]) (by rw [List.getElem?_map, List.getElem?_eq_getElem hlt]; rfl)
    have e3 : ks.getD i ⟨#[]⟩ = ks[i] := by rw [List.getD_eq_getElem?_getD, List.getElem?_eq_getElem hlt]; rfl
    rw [e3]
    rw [hv] at e1
    cases e1
    exact e2
  obtain ⟨c, tl, hmro⟩ := F.called_set.mro
  have hmade := F.called_set.made
  have hsub := F.called_set.sub
  refine wpAny_call (codeAny_of_tree ?_)
  show wpAny _ _ (callAny (.type "set") _) _ _ _
  refine wpAny_pure ⟨Code.quiet_builtin _ (by decide +kernel), codeAny_builtin F.entry_type_call ?_⟩
  rw [Around.under_plain (weight_type_call_type "set" [.ref l] []) rfl]
  have h1 := F.called_set.notType
  have h2 := F.called_set.canCreate
  have hct := F.typeCall_set_1 (.ref l)
  repeat (any_goals (first | assumption | wp_step))
  refine codeAny_mono (code_led1 (P := P) (w := w) (.ref l) (E := E) (Q₁ := fun obj s₁ => obj = .ref s.heap.objs.size ∧ s₁ = { s with heap := s.heap.push (fr0 w) }) ⟨rfl, rfl⟩) fun r s₁ hr => ?_
  cases r with
  | error e => exact hr
  | ok fl =>
    cases fl with
    | ret obj =>
      obtain ⟨rfl, rfl⟩ := hr
      have hS : (s.heap.push (fr0 w)).get? s.heap.objs.size = some (fr0 w) := Heap.get?_push_size _ rfl
      have hT : Shared.TypeIs { s with heap := s.heap.push (fr0 w) } (.ref s.heap.objs.size) "set" := ⟨_, hS, rfl⟩
      have hli := F.called_set.init.lookup
      have hbi := F.called_set.init.bind (.ref s.heap.objs.size)
      repeat (any_goals (first | assumption | wp_step))
      refine codeAny_mono (codeAny_call_builtin (R := wants (fun r s₂ => r = .none ∧ ∃ h' tk, s₂ = { s with heap := h', toks := tk } ∧ SetT w h' s.heap.objs.size (ks.foldl addS []) ∧ (∀ b o, b < s.heap.objs.size → s.heap.get? b = some o → h'.get? b = some o)) E) F.called_set.init.plain F.entry_set_init (check_set_init_1 hT ?_)) fun r₂ s₂ hr₂ => ?_
      · obtain ⟨⟨ocls, odict, odata, oslots⟩, hol, hcl, nl, hdl⟩ := hl
        obtain rfl : ocls = _ := hcl
        obtain rfl : odata = _ := hdl
        have hol' : (s.heap.push (fr0 w)).get? l = some { cls := .type "list", dict := odict, data := .seq items nl, slots := oslots } := Heap.get?_push_of_some _ hol
        have hsls := F.sub_list_set
        have hslf := F.sub_list_frozenset
        have hne : (Value.type "list" == Value.type "dict") = false := by decide
        have hl1 : (s.heap.push (fr0 w)).IsList l items := ⟨_, hol', rfl, nl, rfl⟩
        unfold Builtin.«set.__init__» noKeywords Builtin.Frozenset.updateFrom
        generalize hPI : pyIter = PI
        wp_walk
        subst hPI
        refine wpAny_pyIter_list hl1 (wpAny_bind (wpAny_runValue ?_))
        have hlS : l < s.heap.objs.size := Heap.lt_size hol
        have hh3 : A.in1.in1.in1.handled = none := by simp [hh]
        have neI : l ≠ (s.heap.push (fr0 w)).objs.size := by
          rw [Heap.size_push]; exact Nat.ne_of_lt (Nat.lt_succ_of_lt hlS)
        have hSf : s.heap.objs.size ∉ [(s.heap.push (fr0 w)).objs.size, l] := by
          rw [Heap.size_push]
          intro z
          rcases List.mem_cons.mp z with z | z
          · exact absurd z (Nat.ne_of_lt (Nat.lt_succ_self _))
          · exact absurd (List.mem_singleton.mp z) (Nat.ne_of_gt hlS)
        refine tx_loop ((Walks.list hh3 _ l neI items).toS) s.heap.objs.size hSf (fun i => ks.getD i ⟨#[]⟩) hval hb (items.size - 0) 0 _ (by omega) (Nat.zero_le _) ⟨⟨_, Heap.get?_push_size _ rfl, rfl, rfl⟩, (hl1.push _)⟩ ?hS0 ?hR
        case hS0 => exact (tx_fresh (h := s.heap) w).keep fun o e => Heap.get?_push_of_some _ e
        case hR =>
          rintro ⟨h', g', d', tk', os'⟩ hm hS'
          obtain rfl : g' = s.gens := hm.gens
          obtain rfl : d' = s.drawn := hm.drawn
          obtain rfl : os' = s.os := hm.os
          show wpAny _ _ _ _ _ _
          refine wpAny_pure ?_
          show wpAny _ _ (ret Value.none) _ _ _
          refine wpAny_pure ⟨rfl, h', tk', rfl, by rw [← eks]; exact hS', fun b o hb e => hm.heap b o ?_ (Heap.get?_push_of_some _ (Heap.get?_push_of_some _ e))⟩
          intro z
          rcases List.mem_cons.mp z with z | z
          · exact absurd z (Nat.ne_of_lt hb)
          · have z := List.mem_singleton.mp z
            rw [Heap.size_push] at z
            exact absurd z (Nat.ne_of_lt (Nat.lt_succ_of_lt hb))
      · cases r₂ with
        | error e => exact hr₂
        | ok fl₂ =>
          cases fl₂ with
          | ret r =>
            obtain ⟨rfl, h', tk, rfl, hS', hk'⟩ := hr₂
            repeat (any_goals (first | assumption | wp_step))
            exact h _ _ hS' hk'
          | _ => exact hr₂.elim
    | _ => exact hr.elim
end
/-! as tracked things -/
def SetW (w : World) (a : Addr) (l : List Str) : HO := .ext fun h => SetT w h a l
theorem setW_new {w : World} {P : Program} {H : Hp} {h : Heap} {a : Addr} {l : List Str} (R : SetT w h a l) : ObjOk P w H h a (SetW w a l) := by
  obtain ⟨_, o, _, _, _, ho, _⟩ := id R
  exact ⟨R, ⟨o, ho⟩, fun h1 h2 p k => SetT.keep p k⟩
section
variable {X : Cx}
theorem setW_get {pins : List (Addr × Obj)} {σ : L2.St} {H : Hp} {s : Shared} {a : Addr} {l : List Str} (I : L2.Inv X pins σ H s) (ha : H a = some (SetW X.w a l)) : SetT X.w s.heap a l := (I.hok a _ ha).1
/-- sorted(a set of texts) -/
def rSortX (w : World) : List V → Hp → VK → Prop := fun xs H Q => ∃ a l, xs = [.ref a] ∧ H a = some (SetW w a l) ∧ (l.length ≤ sizeLine → ∀ p, H p = none → Q (.ref p) (upd H p (.lst ((srtT l).map V.str))))
theorem cr_sortX (hc : X.calm = true) (hu : X.A.units + 66 < cLine) : CallR X (.builtin "sorted") (rSortX X.w) := by
  intro pins s σ H xs us Q I r h
  obtain ⟨a, l, rfl, ha, q⟩ := h
  obtain ⟨u, rfl, ru⟩ := vals1 r
  obtain rfl : u = Value.ref a := ru
  refine tx_sorted (setW_get I ha) (I.ok.hd hc) hu fun s' p out c k g o hp hg hv hl => ?_
  have hn : H p = none := I.hok.fresh hp
  have J : L2.Inv X pins σ (upd H p (.lst ((srtT l).map V.str))) { s with heap := s'.heap, gens := s'.gens, drawn := s'.drawn, toks := s'.toks } :=
    I.call (ch := []) (Un.laid k hp hn) (I.hok.laid k hp ⟨by rw [List.length_map, (srtT_perm l).length_eq]; exact hl, out.toList, c, hv, hg⟩) (by rw [g]; exact I.bare) (fun _ z => nomatch z)
  have e : s' = { s with heap := s'.heap, gens := s'.gens, drawn := s'.drawn, toks := s'.toks } := by
    cases s'
    cases s
    cases o
    rfl
  rw [e]
  exact ⟨.ref p, _, J, rfl, q hl p hn⟩
/-- set(a list of texts) -/
def rSetX (K : PySem.W.Frag) (w : World) : List V → Hp → VK → Prop := fun xs H Q => ∃ (a : Addr) (ks : List Str), xs = [.ref a] ∧ SqL K H a (ks.map V.str) ∧ ks.length + 1 < scanBound ∧ ∀ p, H p = none → Q (.ref p) (upd H p (SetW w p (ks.foldl addS [])))
theorem cr_setX (hc : X.calm = true) : CallR X (.type "set") (rSetX X.K X.w) := by
  intro pins s σ H xs us Q I r h
  obtain ⟨a, ks, rfl, hs, hb, q⟩ := h
  obtain ⟨u, rfl, ru⟩ := vals1 r
  obtain rfl : u = Value.ref a := ru
  obtain ⟨its, rits, hl, hz⟩ := I.list hs
  have e1 := rits.length
  rw [List.length_map] at e1
  refine tx_set (I.ok.hd hc) hl.isList (ks := ks) (by simpa using rits) (by rw [List.size_toArray, ← e1]; exact hb) fun h' tk hS k => ?_
  exact ⟨.ref s.heap.objs.size, upd H s.heap.objs.size (SetW X.w s.heap.objs.size (ks.foldl addS [])), I.laid (t' := tk) (fun b o e => k b o (Heap.lt_size e) e) (Nat.le_refl _) (setW_new hS), rfl, q _ (I.hok.fresh (Nat.le_refl _))⟩
end
end Sx

/-! DnR3: set comprehensions of texts; sorted of sets, by content -/
namespace Sx
open PySem PySem.Spec PyProof.Rows L2 PpSet
section
variable {X : Cx}
/-- {elt for tg in iter if ..}, elt a text: D the new set -/
def tSx (w : World) (wi : TI) (g : TG) (tt : TT) (te : TE) (vs : List Nat) : TE := fun σ H Q => wi σ H fun J H1 => ∀ D, H1 D = none → ∃ W : Nat → Nat → Hp → Prop, (∃ m, W 0 m (upd H1 D (SetW w D []))) ∧ ∀ i m H, W i m H →
  (J.stop i H ∧ Q (.ref D) H) ∨ (J.go i H ∧ ∃ Nx : Hp → Prop, (∀ H', Nx H' → ∃ m', m' < m ∧ W (i + 1) m' H') ∧ ∀ x H', J.yld i H x H' → g x (wipe σ vs) H' fun σ2 H2 => wipe σ2 vs = wipe σ vs ∧ tt σ2 H2 fun b H3 =>
    if b = true then te σ2 H3 fun y H4 => ∃ (k : Str) (l : List Str), y = .str k ∧ H4 D = some (SetW w D l) ∧ l.length + 1 < scanBound ∧ Nx (upd H4 D (SetW w D (addS l k))) else Nx H3)
theorem addX {pins : List (Addr × Obj)} {σ : L2.St} {H : Hp} {s : Shared} {E : Value → Shared → Prop} {D : Addr} {l : List Str} {y : Str} {tk : Tok} {Q : Value → Shared → Prop} (I : L2.Inv X pins σ H s) (hD : H D = some (SetW X.w D l)) (room : l.length + 1 < scanBound)
    (h : ∀ s', L2.Inv X pins σ (upd H D (SetW X.w D (addS l y))) s' → Q .none s') : wpAny (model X.prog X.w) X.A (call (.builtin "set.add") [.ref D, .str y tk]) Q E s := by
  refine tx_add (setW_get I hD) room fun h' sb new => ?_
  obtain ⟨_, o, _, _, _, ho, _⟩ := id new
  exact h _ (I.write (e := D) (t' := s.toks + 1) (by rw [hD]; trivial) (.inl rfl) (fun b u hb hu => (sb.2 b hb).trans hu) ⟨o, ho⟩ (setW_new new))
theorem sx_core {pins : List (Addr × Obj)} {s : Shared} {σ : L2.St} {H : Hp} {Q : VK} {elt tg iter : Expr} {ifs : List Expr} {scope : Scope} {own : List (PySem.Str × Nat)} {pos pos' : Pos} {wi : TI} {g : TG} {tt : TT} {te : TE} {use : Option (Value → Sem Unit)} {Qf : Value → Shared → Prop}
    (hc : X.calm = true) (hN : X.N.Nodup) (I : L2.Inv X pins σ H s) (hi : PI X tg iter wi) (ok : BlkOk X.N X.env.scope scope own)
    (hg : ∀ (s : Shared) (H : Hp) (C : Addr) (cl : List (PySem.Str × Addr)) (fp : List Addr), PG (X.blk s H scope (compEnvC scope cl C X.env) fp) tg g)
    (ht : ∀ (s : Shared) (H : Hp) (C : Addr) (cl : List (PySem.Str × Addr)) (fp : List Addr), PTs (X.blk s H scope (compEnvC scope cl C X.env) fp) ifs tt)
    (he : ∀ (s : Shared) (H : Hp) (C : Addr) (cl : List (PySem.Str × Addr)) (fp : List Addr), PE (X.blk s H scope (compEnvC scope cl C X.env) fp) elt te) (hs : ∀ x, foldedSetIterable iter X.env x = pure x)
    (h : tSx X.w wi g tt te (own.map (·.2)) σ H Q)
    (hRR : ∀ D C s' m H', L2.Inv X pins σ H' s' → Q (.ref D) H' → s'.heap.Ns C m → FpOk X pins H' C → compPost (model X.prog X.w) X.A X.xe use Qf (.ref D) C (.ok .next) s') :
    wpAny (model X.prog X.w) X.A (comprehension (.SetComp elt [⟨tg, iter, ifs, 0⟩] scope pos) scope X.env pos' (newSet (.type "set")) false (eval iter X.env) use) Qf X.xe s := by
  have free : ∀ y ∈ scope.names, y.2 = .free → ∃ c, X.env.cells.lookup y.1 = some c := fun y hy e => (ok.free y hy e).elim (fun k => I.ok.has _ (.inl k)) fun k => I.ok.has _ (.inr k)
  refine wpAny_comprehension_free (use := use) rfl hs (closure_ok free) ok.kind (fun y hy e => by rw [ok.uniq y hy, e]) (thn (hi.run pins s σ H _ I h) fun xv s1 hx => thn hx fun itv s2 h2 => ?_)
  obtain ⟨it, fp, tn, J, H2, e, I2, T, st2, f2, q⟩ := h2
  subst e
  refine newSet_ok (newEnv_comp ?_)
  generalize hD : s2.heap.objs.size = D
  obtain ⟨W, ⟨m0, w0⟩, turn⟩ := q D (I2.hok.fresh (Nat.le_of_eq hD))
  generalize hs3 : ({ s2 with heap := s2.heap.push { cls := .type "set", dict := none, data := .set #[] 0 (.fresh 0 0 (!X.w.params.followText "set-order")) } } : Shared) = s3
  have I3 : L2.Inv X pins σ (upd H2 D (SetW X.w D [])) s3 := by
    rw [← hs3]
    exact I2.laid (t' := s2.toks) (fun b o e => Heap.get?_push_of_some _ e) (Nat.le_of_eq hD) (by rw [← hD]; exact setW_new (tx_fresh X.w))
  have h3 : s3.heap = s2.heap.push { cls := .type "set", dict := none, data := .set #[] 0 (.fresh 0 0 (!X.w.params.followText "set-order")) } := by rw [← hs3]
  have f3 : ∀ b ∈ fp, FpOk X pins (upd H2 D (SetW X.w D [])) b ∧ b < s3.heap.objs.size := fun b hb => by
    obtain ⟨o, e, _⟩ := T.obj _ _ st2 b hb
    have lt := Heap.lt_size e
    refine ⟨⟨?_, (f2 b hb).2⟩, by rw [h3, Heap.size_push]; exact Nat.lt_succ_of_lt lt⟩
    rw [upd_ne (by rw [← hD]; exact Nat.ne_of_lt lt)]
    exact (f2 b hb).1
  have st3 : tn 0 s3.heap := T.keep _ _ _ st2 fun b _ o e => by rw [h3]; exact Heap.get?_push_of_some _ e
  have I4 := block_start I3 ok hN f3
  have pg := hg s3 (upd H2 D (SetW X.w D [])) s3.heap.objs.size (cellsFrom (s3.heap.objs.size + 1) scope.names (cloFrom X.env.cells scope.names [])) fp
  have pt := ht s3 (upd H2 D (SetW X.w D [])) s3.heap.objs.size (cellsFrom (s3.heap.objs.size + 1) scope.names (cloFrom X.env.cells scope.names [])) fp
  have pe := he s3 (upd H2 D (SetW X.w D [])) s3.heap.objs.size (cellsFrom (s3.heap.objs.size + 1) scope.names (cloFrom X.env.cells scope.names [])) fp
  show codeAny _ _ (.compStart (.SetComp elt [⟨tg, iter, ifs, 0⟩] scope pos) 0 (.ref it) (.ref D) (compEnvC scope (cellsFrom (s3.heap.objs.size + 1) scope.names (cloFrom X.env.cells scope.names [])) s3.heap.objs.size X.env)) (compPost (model X.prog X.w) X.A X.xe use Qf (.ref D) s3.heap.objs.size) { s3 with heap := pushCells (s3.heap.push { cls := .type "dict", data := .dict #[] }) scope.names }
  have nfp : ∀ b ∈ fp, (upd H2 D (SetW X.w D [])) b = none := fun b hb => (f3 b hb).1.1
  generalize hce : compEnvC scope (cellsFrom (s3.heap.objs.size + 1) scope.names (cloFrom X.env.cells scope.names [])) s3.heap.objs.size X.env = ce at I4 pg pt pe ⊢
  have cL : ce.locals = s3.heap.objs.size := by rw [← hce]; rfl
  generalize hH3 : upd H2 D (SetW X.w D []) = H3 at I3 I4 pg pt pe w0 nfp f3
  generalize hs4 : ({ s3 with heap := pushCells (s3.heap.push { cls := .type "dict", data := .dict #[] }) scope.names } : Shared) = s4 at I4 ⊢
  have st4 : tn 0 s4.heap := T.keep _ _ _ st3 fun b _ o e => by rw [← hs4]; exact pushCells_keeps _ _ _ _ (Heap.get?_push_of_some _ e)
  have stat : ∀ {σ' : L2.St} {H' : Hp} {s' : Shared}, L2.Inv (X.blk s3 H3 scope ce fp) [] σ' H' s' → (∀ b ∈ fp, H' b = none) → ∀ b ∈ fp, FpOk (X.blk s3 H3 scope ce fp) [] H' b := fun {_ H' _} I' hn b hb =>
    ⟨hn b hb, (I'.ok.exf b hb).1, I'.ok.exfs b hb, .inl hb, fun x c e => (I'.ok.exf b hb).2 x c e, fun p hp => absurd (show p ∈ ([] : List (Addr × Obj)) ++ [] from hp) (by simp)⟩
  have loop : codeAny (model X.prog X.w) X.A (.compLoop (.SetComp elt [⟨tg, iter, ifs, 0⟩] scope pos) 0 (.ref it) (.ref D) ce) (compPost (model X.prog X.w) X.A X.xe use Qf (.ref D) s3.heap.objs.size) s4 := by
    refine compLoopS_any (fun n s' => ∃ i H', L2.Inv (X.blk s3 H3 scope ce fp) [] (wipe σ (own.map (·.2))) H' s' ∧ tn i s'.heap ∧ (∀ b ∈ fp, H' b = none) ∧ W i n H') (fun n s5 hI => ?_) m0 ⟨0, H3, I4, st4, nfp, w0⟩
    obtain ⟨i, H5, I5, st5, n5, w5⟩ := hI
    rcases turn i n H5 w5 with ⟨stop, qq⟩ | ⟨go, Nx, hNx, step⟩
    · refine thnF (T.done (X.blk s3 H3 scope ce fp) rfl rfl rfl hc i [] s5 _ H5 (fun _ _ => False) I5 (stat I5 n5) st5 stop) fun r s6 ⟨hr, I6⟩ => ?_
      subst hr
      have I7 : L2.Inv X pins σ H5 s6 := I3.call' (ch := fp) I6.os I6.base I6.hok I6.bare fun b hb => ⟨(f3 b hb).1.2.2.2.1, (f3 b hb).1.2.1, (f3 b hb).1.2.2.2.2.1, (f3 b hb).1.2.2.2.2.2⟩
      have nC : H5 s3.heap.objs.size = none := by
        rw [← cL]
        exact I6.free
      obtain ⟨m, hn, _⟩ := I6.loc
      have hn : s6.heap.Ns ce.locals m := hn
      rw [cL] at hn
      exact hRR D s3.heap.objs.size s6 m H5 I7 qq hn (I3.fpOk (Nat.le_refl _) nC)
    · refine thnF (T.item (X.blk s3 H3 scope ce fp) rfl rfl rfl hc i [] s5 _ H5 (fun _ _ => False) I5 (stat I5 n5) st5 go) fun r s6 ⟨u, hr, h6⟩ => ?_
      subst hr
      refine thnF h6 fun _ s7 ⟨x, H7, I7, r7, y7, st7, n7⟩ => ?_
      refine thnF (pg.run _ s7 _ H7 x u _ (I7.pinned (stat I7 n7) (T.obj _ _ st7)) r7 (step x H7 y7)) fun _ s8 ⟨σ8, H8, I8, hw8, q8⟩ => ?_
      refine thnF (pt.run _ s8 σ8 H8 _ I8 q8) fun b s9 ⟨H9, I9, q9⟩ => ?_
      have fin : ∀ {s' : Shared} {H' : Hp}, L2.Inv (X.blk s3 H3 scope ce fp) ([] ++ pinsAt fp s7.heap) σ8 H' s' → Nx H' → ∃ m, m < n ∧ ∃ i H', L2.Inv (X.blk s3 H3 scope ce fp) [] (wipe σ (own.map (·.2))) H' s' ∧ tn i s'.heap ∧ (∀ b ∈ fp, H' b = none) ∧ W i m H' := fun {s' H'} I' nx => by
        obtain ⟨m', hm, w'⟩ := hNx H' nx
        have pin' : ∀ b ∈ fp, ∀ o, s7.heap.get? b = some o → s'.heap.get? b = some o ∧ H' b = none := fun b hb o e => by
          have z := I'.pin (b, o) (List.mem_append_right _ (List.mem_append_right _ (mem_pinsAt hb e)))
          exact ⟨z.1, z.2.1⟩
        have hl : (wipe σ (own.map (·.2))).length = σ8.length := by rw [← hw8, wipe_length]
        refine ⟨m', hm, i + 1, H', (I'.unpinned (pins := [])).weak hl (fun j v e => (wipe_some (by rw [hw8]; exact e)).1), T.keep _ _ _ st7 fun b hb o e => (pin' b hb o e).1, fun b hb => ?_, w'⟩
        obtain ⟨o, e, _⟩ := T.obj _ _ st7 b hb
        exact (pin' b hb o e).2
      cases b with
      | false =>
        rw [if_neg (by decide)] at q9 ⊢
        exact fin I9 q9
      | true =>
        rw [if_pos rfl] at q9 ⊢
        refine thnF (pe.run _ s9 σ8 H9 _ I9 q9) fun z s10 ⟨yv, H10, I10, r10, k, l, ey, hD10, hz10, nx⟩ => ?_
        subst ey
        obtain ⟨tk, rfl⟩ := r10
        exact addX (X := X.blk s3 H3 scope ce fp) I10 hD10 hz10 fun s11 I11 => fin I11 nx
  exact codeAny_compStart_set loop (T.self X.A 0 _ _ _ st4 loop)
theorem pe_sx {elt tg iter : Expr} {ifs : List Expr} {scope : Scope} {own : List (PySem.Str × Nat)} {pos : Pos} {wi : TI} {g : TG} {tt : TT} {te : TE} (hc : X.calm = true) (hN : X.N.Nodup) (hi : PI X tg iter wi) (ok : BlkOk X.N X.env.scope scope own)
    (hg : ∀ (s : Shared) (H : Hp) (C : Addr) (cl : List (PySem.Str × Addr)) (fp : List Addr), PG (X.blk s H scope (compEnvC scope cl C X.env) fp) tg g)
    (ht : ∀ (s : Shared) (H : Hp) (C : Addr) (cl : List (PySem.Str × Addr)) (fp : List Addr), PTs (X.blk s H scope (compEnvC scope cl C X.env) fp) ifs tt)
    (he : ∀ (s : Shared) (H : Hp) (C : Addr) (cl : List (PySem.Str × Addr)) (fp : List Addr), PE (X.blk s H scope (compEnvC scope cl C X.env) fp) elt te) (hs : ∀ x, foldedSetIterable iter X.env x = pure x := by intro _; rfl) :
    PE X (.SetComp elt [⟨tg, iter, ifs, 0⟩] scope pos) (tSx X.w wi g tt te (own.map (·.2))) := by
  refine ⟨fun pins s σ H Q I h => ?_⟩
  rw [eval_SetComp]
  refine sx_core hc hN I hi ok hg ht he hs h fun D C s' m H' I' q hn f => ⟨m, hn, fun h'' sb => ?_⟩
  exact ⟨.ref D, H', I'.turned (t' := s'.toks) (fun b o hb e => (sb.2 b hb).trans e) f.1 f.2.1 f.2.2.2.1 f.2.2.2.2.1 f.2.2.2.2.2, rfl, q⟩
end
end Sx
namespace Dn
open PySem PySem.Spec PyProof.Rows L2 Sx
/-- the texts of a set comprehension, each once, as they come -/
noncomputable def compX (w : Wk) (g : GD) (tt : TD) (te : ED) (s0 : Sl) : List D → List Str → C (List Str)
  | [], acc => fun M => if Stays w M then .ok acc M else .bad
  | d :: ds, acc => fun M => if Stays w M then ((g d s0).noX.bind fun s1 => (tt s1).noX.bind fun b => if b = true then (te s1).noX.bind fun y => match y with
    | .str k => if acc.length < 4000 then compX w g tt te s0 ds (addS acc k) else C.bad
    | _ => C.bad else compX w g tt te s0 ds acc) M else .bad
abbrev endX : List Str → C D := fun l => newL ((srtT l).map D.str)
/-- sorted({..}) -/
noncomputable def eSortC (vs : List Nat) (tw : WD) (g : GD) (tt : TD) (te : ED) : ED := fun s => (tw s).bind fun w => (compX w g tt te (wipeD s vs) w.items []).bind endX
theorem compX_cons {w : Wk} {g : GD} {tt : TD} {te : ED} {s0 : Sl} {d : D} {ds : List D} {acc : List Str} {M : Mh} : compX w g tt te s0 (d :: ds) acc M = if Stays w M then ((g d s0).noX.bind fun s1 => (tt s1).noX.bind fun b => if b = true then (te s1).noX.bind fun y => match y with
    | .str k => if acc.length < 4000 then compX w g tt te s0 ds (addS acc k) else C.bad
    | _ => C.bad else compX w g tt te s0 ds acc) M else .bad := rfl
theorem compX_nil {w : Wk} {g : GD} {tt : TD} {te : ED} {s0 : Sl} {acc : List Str} {M : Mh} : compX w g tt te s0 [] acc M = if Stays w M then .ok acc M else .bad := rfl
theorem rel_strs {Z : Zx} {H : Hp} {m : List Addr} : ∀ l : List Str, RelDs Z H m (l.map D.str) (l.map V.str)
  | [] => rfl
  | k :: l => ⟨_, _, rfl, rfl, rel_strs l⟩
section
variable {X : Cx} {W : XK}
theorem sx_imp {vs : List Nat} {tw : WD} {g : GD} {tt : TD} {te : ED} (σ : L2.St) (H : Hp) (Q : VK) (h : tD (zOf X) W (eSortC vs tw g tt te) σ H Q) :
    tSx X.w (tDI (zOf X) W tw) (gD (zOf X) E0 (some vs) g) (tDT (zOf X) E0 tt) (tD (zOf X) E0 te) vs σ H fun v H' => rSortX X.w [v] H' Q := by
  obtain ⟨m, s, M, hs, hM, p⟩ := h
  refine ⟨m, s, M, hs, hM, p.bind.mono fun w H1 m1 M1 st1 hM1 p1 J hJ Dl hD => ?_⟩
  have hDm : Dl ∉ m1 := hM1.new hD
  have stl : Stp H1 m1 (upd H1 Dl (SetW X.w Dl [])) m1 := stp_laid hD
  have rs1 : RelS (zOf X) H1 m1 (wipeD s vs) (L2.wipe σ vs) := (hs.mono st1).wipe vs
  refine ⟨fun i k H => k = w.items.length - i ∧ i ≤ w.items.length ∧ ∃ m M acc, Stp H1 m1 H m ∧ H Dl = some (SetW X.w Dl acc) ∧ Dl ∉ m ∧ HRel (zOf X) H m M ∧
      Post (zOf X) W H1 m1 ((compX w g tt te (wipeD s vs) (w.items.drop i) acc).bind endX M) (fun d' H' m' _ => ∀ v, RelD (zOf X) H' m' d' v → Q v H'),
    ⟨w.items.length, by omega, by omega, m1, M1, [], stl, upd_same, hDm, hrel_laid hM1 hD, by rw [List.drop_zero]; exact p1⟩, ?_⟩
  rintro i k H2 ⟨rfl, hi, m2, M2, acc, st2, hDl, hDm2, hM2, p2⟩
  have nt : ∀ (l : List Str) xs, SetW X.w Dl l ≠ HO.tup xs := fun _ _ z => by cases z
  have nf : ∀ (l : List Str) a b, SetW X.w Dl l ≠ HO.frz a b := fun _ _ _ z => by cases z
  by_cases hlt : i < w.items.length
  · rw [List.drop_eq_getElem_cons hlt] at p2
    have hsy : Stays w M2 := by
      by_cases z : Stays w M2
      · exact z
      · unfold C.bind at p2
        rw [compX_cons, if_neg z] at p2
        exact p2.elim
    rw [bind_at (g := endX) (M := M2) (f' := (g w.items[i] (wipeD s vs)).noX.bind fun s1 => (tt s1).noX.bind fun b => if b = true then (te s1).noX.bind fun y => match y with
      | .str k => if acc.length < 4000 then compX w g tt te (wipeD s vs) (w.items.drop (i + 1)) (addS acc k) else C.bad
      | _ => C.bad else compX w g tt te (wipeD s vs) (w.items.drop (i + 1)) acc) (by rw [compX_cons, if_pos hsy]), bind_bind] at p2
    obtain ⟨hgo, hy⟩ := hJ.go H2 m2 M2 i _ st2.w hM2 hsy (List.getElem?_eq_getElem hlt)
    refine .inr ⟨hgo, fun H' => ∃ m M acc, Stp H1 m1 H' m ∧ H' Dl = some (SetW X.w Dl acc) ∧ Dl ∉ m ∧ HRel (zOf X) H' m M ∧
        Post (zOf X) W H1 m1 ((compX w g tt te (wipeD s vs) (w.items.drop (i + 1)) acc).bind endX M) (fun d' H' m' _ => ∀ v, RelD (zOf X) H' m' d' v → Q v H'),
      fun H' hN => ⟨w.items.length - (i + 1), by omega, rfl, hlt, hN⟩, fun x H' y => ?_⟩
    obtain ⟨st3, hM3, r3, k3⟩ := hy x H' y
    obtain ⟨hD3, hm3⟩ := keep_out st3 hDl hDm2
    have rs3 : RelS (zOf X) H' m2 (wipeD s vs) (L2.wipe σ vs) := rs1.mono (st2.trans st3)
    refine ⟨m2, _, _, M2, r3, rs3, hM3, (Post.atX p2).mono fun s4 H4 m4 M4 st4 hM4 p4 σ4 rs4 w4 => ?_⟩
    obtain ⟨hD4, hm4⟩ := keep_out st4 hD3 hm3
    rw [bind_bind] at p4
    refine ⟨by
      have w4 : L2.wipe σ4 vs = L2.wipe (L2.wipe σ vs) vs := w4
      rw [w4]
      exact wipe_wipe σ vs, m4, s4, M4, rs4, hM4, (Post.atX p4).mono fun b H5 m5 M5 st5 hM5 p5 => ?_⟩
    obtain ⟨hD5, hm5⟩ := keep_out st5 hD4 hm4
    have st15 : Stp H1 m1 H5 m5 := ((st2.trans st3).trans st4).trans st5
    cases b with
    | false =>
      rw [if_neg (by decide)]
      rw [if_neg (by decide)] at p5
      exact ⟨m5, M5, acc, st15, hD5, hm5, hM5, p5⟩
    | true =>
      rw [if_pos rfl]
      rw [if_pos rfl, bind_bind] at p5
      refine ⟨m5, s4, M5, rs4.mono st5, hM5, (Post.atX p5).mono fun y H6 m6 M6 st6 hM6 p6 yv ry => ?_⟩
      obtain ⟨hD6, hm6⟩ := keep_out st6 hD5 hm5
      cases y with
      | str k =>
        have ry : yv = .str k := ry
        subst ry
        simp only at p6
        by_cases hz : acc.length < 4000
        · rw [if_pos hz] at p6
          have sb : scanBound = 4096 := rfl
          exact ⟨k, acc, rfl, hD6, by omega, m6, M6, addS acc k, stp_out (st15.trans st6) hD hD6 (nt _) (nf _), upd_same, hm6, hrel_out hM6 hD6 (nt _) (nf _) hm6, p6⟩
        · rw [if_neg hz] at p6
          exact (show False from p6).elim
      | _ => exact (show False from p6).elim
  · have e : i = w.items.length := by omega
    subst e
    rw [List.drop_length] at p2
    have hsy : Stays w M2 := by
      by_cases z : Stays w M2
      · exact z
      · unfold C.bind at p2
        rw [compX_nil, if_neg z] at p2
        exact p2.elim
    unfold C.bind at p2
    rw [compX_nil, if_pos hsy] at p2
    have p3 : Post (zOf X) W H1 m1 (newL ((srtT acc).map D.str) M2) (fun d' H' m' _ => ∀ v, RelD (zOf X) H' m' d' v → Q v H') := p2
    exact .inl ⟨hJ.stop H2 m2 M2 st2.w hM2 hsy, Dl, acc, rfl, hDl, fun _ p hp => (Post.newL (Post.from st2 p3) hM2 (rel_strs _)).2 p hp⟩
variable {tg iter elt e : Expr} {ifs : List Expr} {scope : Scope} {own : List (Str × Nat)} {pos p p2 pos2 : Pos}
/-- sorted({elt for .. in .. if ..}) -/
theorem me_sortC {tw : WD} {g : GD} {tt : TD} {te : ED} (hc : X.calm = true) (hu : X.A.units + 66 < cLine) (hgl : Gl X "sorted") (hm : X.mg "sorted" = none) (hN : X.N.Nodup) (hi : MI X W tg iter tw) (ok : BlkOk X.N X.env.scope scope own)
    (hg : ∀ (s : Shared) (H : Hp) (C : Addr) (cl : List (Str × Addr)) (fp : List Addr), MG (X.blk s H scope (compEnvC scope cl C X.env) fp) E0 (some (own.map (·.2))) tg g)
    (ht : ∀ (s : Shared) (H : Hp) (C : Addr) (cl : List (Str × Addr)) (fp : List Addr), PTs (X.blk s H scope (compEnvC scope cl C X.env) fp) ifs (tDT (zOf X) E0 tt))
    (he : ∀ (s : Shared) (H : Hp) (C : Addr) (cl : List (Str × Addr)) (fp : List Addr), ME (X.blk s H scope (compEnvC scope cl C X.env) fp) E0 elt te) (hs : ∀ x, foldedSetIterable iter X.env x = pure x := by intro _; rfl)
    (hs1 : starEach [.SetComp elt [⟨tg, iter, ifs, 0⟩] scope pos2] X.env = (false, eval (.SetComp elt [⟨tg, iter, ifs, 0⟩] scope pos2) X.env) :: starEach [] X.env := by rfl) (hpl : (backTo pos (starEach [] X.env)).any (·.1) = false := by rfl) :
    ME X W (.Call (.Name "sorted" p) [.SetComp elt [⟨tg, iter, ifs, 0⟩] scope pos2] [] pos) (eSortC (own.map (·.2)) tw g tt te) :=
  pe_mono (pe_callB (cr_sortX hc hu) hgl hm (by decide +kernel) (pa_cons (pe_sx hc hN hi ok hg ht he hs) pa_nil hs1) (by decide) (by decide) hs1 hpl) sx_imp
/-- sorted(set(xs)), xs a list of texts -/
def sortSetD (d : D) : C D := fun M => match (getL M d).bind strsOf with
  | some ks => if ks.length < 4000 then newL ((srtT (ks.foldl addS [])).map D.str) M else .bad
  | none => .bad
theorem me_sortS {te : ED} (hc : X.calm = true) (hu : X.A.units + 66 < cLine) (hgl : Gl X "sorted") (hm : X.mg "sorted" = none) (hgl2 : Gl X "set") (hm2 : X.mg "set" = none) (he : ME X W e te)
    (hs0 : starEach [e] X.env = (false, eval e X.env) :: starEach [] X.env := by rfl) (hs1 : starEach [.Call (.Name "set" p2) [e] [] pos2] X.env = (false, eval (.Call (.Name "set" p2) [e] [] pos2) X.env) :: starEach [] X.env := by rfl)
    (hpl : (backTo pos (starEach [] X.env)).any (·.1) = false := by rfl) (hpl2 : (backTo pos2 (starEach [] X.env)).any (·.1) = false := by rfl) :
    ME X W (.Call (.Name "sorted" p) [.Call (.Name "set" p2) [e] [] pos2] [] pos) (eUn sortSetD te) := by
  refine pe_mono (pe_callB (cr_sortX hc hu) hgl hm (by decide +kernel) (pa_cons (pe_callTy (cr_setX hc) hgl2 hm2 (by decide +kernel) (pa_cons he pa_nil hs0) (by decide) (by decide) hs0 hpl2) pa_nil hs1) (by decide) (by decide) hs1 hpl) fun σ H Q h => ?_
  obtain ⟨m, s, M, rs, hM, q⟩ := h
  refine ⟨m, s, M, rs, hM, q.bind.mono fun d H1 m1 M1 st1 hM1 p1 v rv => ?_⟩
  unfold sortSetD at p1
  cases hd : (getL M1 d).bind strsOf with
  | none => simp only [hd] at p1; exact p1.elim
  | some ks =>
    simp only [hd] at p1
    rw [Option.bind_eq_some_iff] at hd
    obtain ⟨ds, h1, h2⟩ := hd
    split at p1
    · rename_i hk
      obtain ⟨a, xs, e1, hq, hr⟩ := getL_sq hM1 rv h1
      subst e1
      rw [strs_v hr h2] at hq
      have sb : scanBound = 4096 := rfl
      refine ⟨a, ks, rfl, hq, by omega, fun b hb => ⟨b, ks.foldl addS [], rfl, upd_same, fun _ q' hq' => ?_⟩⟩
      exact (Post.newL (Post.from (stp_laid hb) p1) (hrel_laid hM1 hb) (rel_strs _)).2 q' hq'
    · exact p1.elim
end
end Dn

/-! DnK: t[::-1] of a tuple -/
namespace HT
open PySem PySem.Spec PyProof.Rows
theorem places_rev (n : Nat) : Builtin.Slice.slicePlaces ((n : Int) - 1) (-1) (-1) = n := by
  unfold Builtin.Slice.slicePlaces
  have h1 : ¬ ((-1 : Int) > 0) := by omega
  simp only [h1, if_false]
  split
  · have : ((n : Int) - 1 - -1 - 1) / (- -1) = (n : Int) - 1 := by
      rw [show (- -1 : Int) = 1 from rfl, Int.ediv_one]; omega
    rw [this]; omega
  · omega
theorem adjust_rev (n : Nat) : Builtin.Slice.sliceAdjust none none (-1) (n : Int) = ((n : Int) - 1, -1) := by
  unfold Builtin.Slice.sliceAdjust
  have h1 : ((-1 : Int) < 0) := by omega
  simp only [h1, if_true]
section
variable {prog : Program} {w : World} {A : Around} {E : Value → Shared → Prop} {s : Shared}
theorem sliceApplied_rev {sl : Addr} {t : Tok} {n : Nat} {Q : Int × Int × Nat → Shared → Prop} (hs : s.heap.IsSliceOf sl .none .none (.int (-1) t)) (h : Q ((n : Int) - 1, -1, n) s) : wpAny (model prog w) A (Builtin.Slice.sliceApplied (.ref sl) (pure (n : Int))) Q E s := by
  obtain ⟨os, hos, hcs, hds⟩ := id hs
  unfold Builtin.Slice.sliceApplied Builtin.Slice.sliceFields
  refine wpAny_bind (wpAny_bind (wpAny_field hos hds (x := .none) rfl (wpAny_bind (wpAny_field hos hds (x := .none) rfl (wpAny_bind (wpAny_field hos hds (x := .int (-1) t) rfl (wpAny_pure ?_)))))))
  refine wpAny_bind (slicePart_int ?_)
  show wpAny _ _ (if ((-1 : Int) == 0) = true then _ else _) _ _ s
  rw [if_neg (by decide)]
  refine wpAny_bind (slicePart_none (wpAny_bind (slicePart_none (wpAny_bind (wpAny_pure ?_)))))
  show wpAny _ _ (match Builtin.Slice.sliceAdjust none none (-1) (n : Int) with | (lo, hi) => pure (lo, (-1 : Int), Builtin.Slice.slicePlaces lo hi (-1))) _ _ s
  rw [adjust_rev n]
  show wpAny _ _ (pure ((n : Int) - 1, (-1 : Int), Builtin.Slice.slicePlaces ((n : Int) - 1) (-1) (-1))) _ _ s
  rw [places_rev]
  exact wpAny_pure h
theorem fm_map {α β : Type} {f : α → Option β} {g : α → β} : ∀ l : List α, (∀ m, m ∈ l → f m = some (g m)) → l.filterMap f = l.map g
  | [], _ => rfl
  | a :: l, h => by rw [List.filterMap_cons, h a (List.mem_cons_self ..), List.map_cons, fm_map l fun m hm => h m (List.mem_cons_of_mem _ hm)]
theorem pick_rev (xs : Array Value) : ((List.range xs.size).filterMap fun (m : Nat) => xs[(((xs.size : Int) - 1) + (m : Int) * -1).toNat]?).toArray = xs.toList.reverse.toArray := by
  congr 1
  have e : ∀ m, m ∈ List.range xs.size → xs[(((xs.size : Int) - 1) + (m : Int) * -1).toNat]? = some (xs[xs.size - 1 - m]?.getD .none) := fun m hm => by
    have hm := List.mem_range.mp hm
    have e1 : (((xs.size : Int) - 1) + (m : Int) * -1).toNat = xs.size - 1 - m := by omega
    rw [e1, Array.getElem?_eq_getElem (by omega)]
    rfl
  rw [fm_map (g := fun m => xs[xs.size - 1 - m]?.getD Value.none) _ e]
  refine List.ext_getElem? fun j => ?_
  rw [List.getElem?_map]
  by_cases hj : j < xs.size
  · rw [List.getElem?_range hj, List.getElem?_reverse (by rw [Array.length_toList]; exact hj), Array.length_toList, Array.getElem?_toList, Option.map_some, Array.getElem?_eq_getElem (by omega)]
    rfl
  · rw [List.getElem?_eq_none (by rw [List.length_range]; omega), List.getElem?_eq_none (by rw [List.length_reverse, Array.length_toList]; omega)]
    rfl
theorem getItem_tuple_rev {t sl : Addr} {items : Array Value} {k : Tok} {Q : Value → Shared → Prop} (ht : IsTup s.heap t items) (hs : s.heap.IsSliceOf sl .none .none (.int (-1) k))
    (h : Q (.ref s.heap.objs.size) { s with heap := s.heap.push { cls := .type "tuple", data := .seq items.toList.reverse.toArray } })
    (hsz : items.size ≤ sizeLine) : wpAny (model prog w) A (getItem (.ref t) (.ref sl)) Q E s := by
  have htake : sizeOk (.seq items.toList.reverse.toArray) := by
    show items.toList.reverse.toArray.size ≤ sizeLine
    rw [List.size_toArray, List.length_reverse, Array.length_toList]
    omega
  obtain ⟨os, hos, hcs, hds⟩ := id hs
  have hTs : s.TypeIs (.ref sl) "slice" := ⟨os, hos, hcs⟩
  unfold getItem
  try with_reducible refine wpAny_holding ?_
  first | refine wpAny_bind (wpAny_pure ?_) | skip
  refine wpAny_bind (wpAny_sequenceKey ht.typeIs (by decide) ?_)
  refine wpAny_bind (wpAny_callSpecial?_slot (name := Str.ofString "__getitem__") ht.typeIs PyProof.Rows.slot_tuple_getitem
    (wpAny_call_entry PyProof.Rows.slot_tuple_getitem ht.typeIs entry_tuple_getitem ?_ (args_tuple_getitem _ _)))
  show wpAny _ _ (Builtin.Tuple.tupleItemsOf (.ref t) >>= _) _ _ s
  refine wpAny_bind (tupleItemsOf_ ht ?_)
  refine wpAny_bind (wpAny_typeOf hTs ?_)
  rw [if_pos (by decide)]
  refine wpAny_bind (sliceApplied_rev hs ?_)
  show wpAny _ _ (if ((((items.size : Int) - 1) == 0 && (-1 : Int) == 1 && items.size == items.size) = true) then _ else _) _ _ s
  rw [if_neg (by simp), pick_rev]
  first
    | exact wpAny_bind (m := Builtin.Tuple.tupleExact _) (wpAny_newObj_type (wpAny_pure ⟨_, rfl, wpAny_pure h⟩) htake)
    | exact wpAny_bind (m := Builtin.Tuple.tupleExact _) (wpAny_newObj_type (wpAny_bind (wpAny_pure (wpAny_pure ⟨_, rfl, wpAny_pure h⟩))) htake)
    | exact wpAny_bind (wpAny_bind (m := Builtin.Tuple.tupleExact _) (wpAny_newObj_type (wpAny_pure (wpAny_pure ⟨_, rfl, wpAny_pure h⟩)) htake))
    | exact wpAny_bind (wpAny_bind (m := Builtin.Tuple.tupleExact _) (wpAny_newObj_type (wpAny_pure ⟨_, rfl, wpAny_pure h⟩) htake))
end
end HT
namespace Dn
open PySem PySem.Spec PyProof.Rows L2
section
variable {X : Cx} {W : XK} {e st : Expr} {te ts : ED} {pos p2 : Pos}
def tRev (K : PySem.W.Frag) (te ts : TE) : TE := fun σ H Q => te σ H fun x H1 => ts σ H1 fun y H2 => ∃ a xs, x = .ref a ∧ y = .int (-1) ∧ SqT K H2 a xs ∧ ∀ p o, H2 p = none → o.dict = none → Q (.ref p) (upd H2 p (.frz o (.tup xs.reverse)))
theorem Vals.rev {xs : List V} {us : List Value} (r : Vals xs us) : Vals xs.reverse us.reverse := by
  induction r with
  | nil => exact .nil
  | cons h r ih => rw [List.reverse_cons, List.reverse_cons]; exact ih.append (.cons h .nil)
theorem pe_rev {te ts : TE} (he : PE X e te) (hs : PE X st ts) : PE X (.Subscript e (.Slice none none (some st) p2) pos) (tRev X.K te ts) := by
  refine ⟨fun pins s σ H Q I h => ?_⟩
  refine Subscript_ (thn (he.run pins s σ H _ I h) fun v s1 ⟨x, H1, I1, r1, q1⟩ => ?_)
  refine wpAny_Slice ?_
  rw [evalPart_none]
  refine wpAny_pure ?_
  refine wpAny_pure ?_
  rw [evalPart_some]
  refine thn (hs.run pins s1 σ H1 _ I1 q1) fun u s3 ⟨y, H3, I3, ry, q3⟩ => ?_
  obtain ⟨a, xs, rfl, rfl, hx, q⟩ := q3
  obtain ⟨t, rfl⟩ := ry
  cases r1
  have I4 : L2.Inv X pins σ H3 { s3 with heap := s3.heap.push { cls := .type "slice", data := .fields #[.none, .none, .int (-1) t] } } := I3.kept (t' := s3.toks) fun b ob q => Heap.get?_push_of_some _ q
  obtain ⟨its, r, ht, hz⟩ := I4.tuple hx
  have hlen : its.toArray.size = xs.length := by rw [List.size_toArray]; exact r.length.symm
  show wpAny (model X.prog X.w) X.A (subscriptTail e (.Slice none none (some st) p2) (.ref a) (.ref s3.heap.objs.size)) (EP X pins σ Q) X.xe { s3 with heap := s3.heap.push { cls := .type "slice", data := .fields #[.none, .none, .int (-1) t] } }
  refine tail_any (ops := [.ref a, .ref s3.heap.objs.size]) ht.typeIs PyProof.Rows.slot_tuple_getitem.lookup (HT.getItem_tuple_rev ht (Heap.IsSliceOf.new ..) ?_ (by rw [hlen]; exact hz)) (by with_unfolding_all rfl)
  exact lay_tup (s := { s3 with heap := s3.heap.push { cls := .type "slice", data := .fields #[.none, .none, .int (-1) t] } }) (hp := s3.heap.push { cls := .type "slice", data := .fields #[.none, .none, .int (-1) t] }) I4 (Vals.rev r) (by rw [List.length_reverse]; exact hz) q
def revD (x y : D) : C D := match x, y with
  | .tup xs, .int i => if i = -1 then C.ret (.tup xs.reverse) else C.bad
  | _, _ => C.bad
def eRev (te ts : ED) : ED := fun s => (te s).bind fun x => (ts s).bind fun y => revD x y
theorem RelDs.rev {Z : Zx} {H : Hp} {m : List Addr} : ∀ {ds : List D} {vs : List V}, RelDs Z H m ds vs → RelDs Z H m ds.reverse vs.reverse
  | [], vs, r => by
    have r : vs = [] := r
    subst r; rfl
  | d :: ds, vs, r => by
    obtain ⟨v, us, rfl, r1, r2⟩ := r
    rw [List.reverse_cons, List.reverse_cons]
    exact RelDs.append (RelDs.rev r2) ⟨v, [], rfl, r1, rfl⟩
theorem me_rev (he : ME X W e te) (hs : ME X W st ts) : ME X W (.Subscript e (.Slice none none (some st) p2) pos) (eRev te ts) := by
  refine pe_mono (pe_rev he hs) fun σ H Q h => ?_
  obtain ⟨m, s, M, hs, hM, p⟩ := h
  refine ⟨m, s, M, hs, hM, p.bind.mono fun dx H1 m1 M1 st1 hM1 p1 x rx => ?_⟩
  refine ⟨m1, s, M1, hs.mono st1, hM1, p1.bind.mono fun dy H2 m2 M2 st2 hM2 p2 y ry => ?_⟩
  have rx2 := st2.rel rx
  cases dx with
  | tup xs =>
    cases dy with
    | int i =>
      unfold revD at p2
      simp only at p2
      split at p2
      · rename_i hi
        subst hi
        obtain ⟨a, vs, rfl, hq, hr⟩ := rx2
        have ry : y = .int (-1) := ry
        subst ry
        refine ⟨a, vs, rfl, rfl, hq.sq, fun q o hn hd => ?_⟩
        have st := stp_laid (m := m2) (o := .frz o (.tup vs.reverse)) hn
        exact p2 _ _ st (hrel_laid hM2 hn) _ ⟨q, _, rfl, TupN.of hd, st.rels (RelDs.rev hr)⟩
      · exact p2.elim
    | _ => exact p2.elim
  | _ => exact p2.elim
end
end Dn

/-! Cor: cores, parts, atoms, what a core comes to (plain) -/
namespace Dn
open PySem PySem.Spec PyProof.Rows L2 PySem.W Srt2
mutual
def core : Sy → Sy
  | .letter w => .letter w
  | .neg s => .neg (core s)
  | .conj l => .conj (cores l)
  | .disj l => .disj (cores l)
  | .so s t => .so (core s) (core t)
  | .must h s => .must h (core s)
  | .may h s => .neg (.must h (.neg (core s)))
  | .told s t => .told (core s) (core t)
def cores : List Sy → List Sy
  | [] => []
  | s :: l => core s :: cores l
end
theorem cores_map : ∀ l : List Sy, cores l = l.map core
  | [] => rfl
  | s :: l => by rw [cores, cores_map l]; rfl
mutual
theorem core_sz : ∀ s : Sy, (core s).sz ≤ 3 * s.sz
  | .letter _ => by simp only [core, Sy.sz]; omega
  | .neg s => by have := core_sz s; simp only [core, Sy.sz]; omega
  | .conj l => by have := cores_sz l; simp only [core, Sy.sz]; omega
  | .disj l => by have := cores_sz l; simp only [core, Sy.sz]; omega
  | .so s t => by have := core_sz s; have := core_sz t; simp only [core, Sy.sz]; omega
  | .must _ s => by have := core_sz s; simp only [core, Sy.sz]; omega
  | .may _ s => by have := core_sz s; simp only [core, Sy.sz]; omega
  | .told s t => by have := core_sz s; have := core_sz t; simp only [core, Sy.sz]; omega
theorem cores_sz : ∀ l : List Sy, szs (cores l) ≤ 3 * szs l
  | [] => by simp only [cores, szs]; omega
  | s :: l => by have := core_sz s; have := cores_sz l; simp only [cores, szs]; omega
end
mutual
theorem core_dep : ∀ s : Sy, (core s).dep ≤ 3 * s.dep
  | .letter _ => by simp only [core, Sy.dep]; omega
  | .neg s => by have := core_dep s; simp only [core, Sy.dep]; omega
  | .conj l => by have := cores_dep l; simp only [core, Sy.dep]; omega
  | .disj l => by have := cores_dep l; simp only [core, Sy.dep]; omega
  | .so s t => by have := core_dep s; have := core_dep t; simp only [core, Sy.dep]; omega
  | .must _ s => by have := core_dep s; simp only [core, Sy.dep]; omega
  | .may _ s => by have := core_dep s; simp only [core, Sy.dep]; omega
  | .told s t => by have := core_dep s; have := core_dep t; simp only [core, Sy.dep]; omega
theorem cores_dep : ∀ l : List Sy, deps (cores l) ≤ 3 * deps l
  | [] => by simp only [cores, deps]; omega
  | s :: l => by have := core_dep s; have := cores_dep l; simp only [cores, deps]; omega
end
mutual
theorem core_okw {P : Str → Prop} : ∀ s : Sy, s.okw P → (core s).okw P
  | .letter _, h => h
  | .neg s, h => core_okw s h
  | .conj l, h => cores_okw l h
  | .disj l, h => cores_okw l h
  | .so s t, h => ⟨core_okw s h.1, core_okw t h.2⟩
  | .must _ s, h => ⟨h.1, core_okw s h.2⟩
  | .may _ s, h => ⟨h.1, core_okw s h.2⟩
  | .told s t, h => ⟨core_okw s h.1, core_okw t h.2⟩
theorem cores_okw {P : Str → Prop} : ∀ l : List Sy, okws P l → okws P (cores l)
  | [], _ => trivial
  | s :: l, h => ⟨core_okw s h.1, cores_okw l h.2⟩
end
/-! parts -/
mutual
def parts : Sy → List Sy
  | .letter w => [.letter w]
  | .neg s => .neg s :: parts s
  | .conj l => .conj l :: partss l
  | .disj l => .disj l :: partss l
  | .so s t => .so s t :: (parts s ++ parts t)
  | .must h s => .must h s :: parts s
  | .may h s => .may h s :: parts s
  | .told s t => .told s t :: (parts s ++ parts t)
def partss : List Sy → List Sy
  | [] => []
  | s :: l => parts s ++ partss l
end
theorem parts_inn (s : Sy) : parts s = s :: partss (inn s) := by
  cases s <;> simp only [parts, inn, partss, List.append_nil]
theorem partss_app : ∀ a b : List Sy, partss (a ++ b) = partss a ++ partss b
  | [], b => rfl
  | s :: a, b => by rw [List.cons_append, partss, partss, partss_app a b, List.append_assoc]
mutual
theorem parts_len : ∀ s : Sy, (parts s).length = s.sz
  | .letter _ => rfl
  | .neg s => by simp only [parts, List.length_cons, parts_len s, Sy.sz]
  | .conj l => by simp only [parts, List.length_cons, partss_len l, Sy.sz]
  | .disj l => by simp only [parts, List.length_cons, partss_len l, Sy.sz]
  | .so s t => by simp only [parts, List.length_cons, List.length_append, parts_len s, parts_len t, Sy.sz]
  | .must _ s => by simp only [parts, List.length_cons, parts_len s, Sy.sz]
  | .may _ s => by simp only [parts, List.length_cons, parts_len s, Sy.sz]
  | .told s t => by simp only [parts, List.length_cons, List.length_append, parts_len s, parts_len t, Sy.sz]
theorem partss_len : ∀ l : List Sy, (partss l).length = szs l
  | [] => rfl
  | s :: l => by simp only [partss, List.length_append, parts_len s, partss_len l, szs]
end
theorem mem_partss {t : Sy} : ∀ {l : List Sy}, t ∈ partss l → ∃ u, u ∈ l ∧ t ∈ parts u
  | [], h => by cases h
  | s :: l, h => by
    rw [partss] at h
    rcases List.mem_append.mp h with h | h
    · exact ⟨s, List.mem_cons_self .., h⟩
    · obtain ⟨u, hu, ht⟩ := mem_partss h
      exact ⟨u, List.mem_cons_of_mem _ hu, ht⟩
theorem partss_mem {t u : Sy} : ∀ {l : List Sy}, u ∈ l → t ∈ parts u → t ∈ partss l
  | [], h, _ => by cases h
  | s :: l, h, k => by
    rw [partss]
    rcases List.mem_cons.mp h with rfl | h
    · exact List.mem_append.mpr (.inl k)
    · exact List.mem_append.mpr (.inr (partss_mem h k))
theorem parts_all {P : Sy → Prop} (h : ∀ s, P s → ∀ t, t ∈ inn s → P t) : ∀ (n : Nat) (s : Sy), s.dep ≤ n → P s → ∀ t, t ∈ parts s → P t
  | 0, s, hd, _, _, _ => by have := dep_pos s; omega
  | n + 1, s, hd, hp, t, ht => by
    rw [parts_inn] at ht
    rcases List.mem_cons.mp ht with rfl | ht
    · exact hp
    · obtain ⟨u, hu, ht⟩ := mem_partss ht
      have := inn_mem hu
      exact parts_all h n u (by omega) (h s hp u hu) t ht
theorem inn_okw {P : Str → Prop} {s t : Sy} (h : s.okw P) (ht : t ∈ inn s) : t.okw P := by
  cases s with
  | letter w => cases ht
  | conj l => exact mem_okw h ht
  | disj l => exact mem_okw h ht
  | so a b =>
    have ht : t = a ∨ t = b := by simpa [inn] using ht
    rcases ht with rfl | rfl
    · exact h.1
    · exact h.2
  | told a b =>
    have ht : t = a ∨ t = b := by simpa [inn] using ht
    rcases ht with rfl | rfl
    · exact h.1
    · exact h.2
  | neg s => have ht : t = s := by simpa [inn] using ht
             subst ht; exact h
  | must w s => have ht : t = s := by simpa [inn] using ht
                subst ht; exact h.2
  | may w s => have ht : t = s := by simpa [inn] using ht
               subst ht; exact h.2
/-- of such a size that all can be asked of it -/
structure Gq (s : Sy) : Prop where
  w : s.okw Shrt
  z : s.sz ≤ 100
  d : s.dep ≤ 30
theorem Gq.parts {s : Sy} (h : Gq s) : ∀ t, t ∈ parts s → Gq t := parts_all (P := Gq) (fun s h t ht => by
  have := inn_mem ht
  have := h.z; have := h.d
  exact ⟨inn_okw h.w ht, by omega, by omega⟩) s.dep s (Nat.le_refl _) h
def isAt : Sy → Bool
  | .letter _ => true
  | .must _ _ => true
  | _ => false
mutual
def Sy.cor : Sy → Bool
  | .letter _ => true
  | .neg s => s.cor
  | .conj l => cors l
  | .disj l => cors l
  | .so s t => s.cor && t.cor
  | .must _ _ => true
  | .may _ _ => false
  | .told _ _ => false
def cors : List Sy → Bool
  | [] => true
  | s :: l => s.cor && cors l
end
mutual
theorem core_cor : ∀ s : Sy, s.plain = true → (core s).cor = true
  | .letter _, _ => rfl
  | .neg s, h => core_cor s h
  | .conj l, h => cores_cor l h
  | .disj l, h => cores_cor l h
  | .so s t, h => by
    simp only [Sy.plain, Bool.and_eq_true] at h
    simp only [core, Sy.cor, core_cor s h.1, core_cor t h.2, Bool.and_self]
  | .must _ s, h => rfl
  | .may _ s, h => rfl
  | .told s t, h => nomatch h
theorem cores_cor : ∀ l : List Sy, plains l = true → cors (cores l) = true
  | [], _ => rfl
  | s :: l, h => by
    simp only [plains, Bool.and_eq_true] at h
    simp only [cores, cors, core_cor s h.1, cores_cor l h.2, Bool.and_self]
end
theorem mem_cor : ∀ {l : List Sy} {s : Sy}, cors l = true → s ∈ l → s.cor = true
  | [], s, _, h => by cases h
  | t :: l, s, p, h => by
    have p : (t.cor && cors l) = true := p
    rw [Bool.and_eq_true] at p
    rcases List.mem_cons.mp h with rfl | h
    · exact p.1
    · exact mem_cor p.2 h
mutual
def tel (v : Str → Bool) : Sy → Bool
  | .letter w => v (dat (.letter w)).shown
  | .neg s => !tel v s
  | .conj l => (tels v l).all id
  | .disj l => (tels v l).any id
  | .so s t => tel v t || !tel v s
  | .must h s => v (dat (.must h s)).shown
  | .may _ _ => false
  | .told _ _ => false
def tels (v : Str → Bool) : List Sy → List Bool
  | [] => []
  | s :: l => tel v s :: tels v l
end
theorem tels_map (v : Str → Bool) : ∀ l : List Sy, tels v l = l.map (tel v)
  | [] => rfl
  | s :: l => by rw [tels, tels_map v l]; rfl
/-! sorting -/
mutual
theorem pdD_enc : ∀ s : Sy, pdD (enc s) = dat s
  | .letter _ => by simp only [enc, dat, pdD, pdDs]
  | .neg s => by simp only [enc, dat, pdD, pdDs, pdD_enc s]
  | .conj l => by simp only [enc, dat, pdD, pdDs, pdDs_encs l]
  | .disj l => by simp only [enc, dat, pdD, pdDs, pdDs_encs l]
  | .so s t => by simp only [enc, dat, pdD, pdDs, pdD_enc s, pdD_enc t]
  | .must _ s => by simp only [enc, dat, pdD, pdDs, pdD_enc s]
  | .may _ s => by simp only [enc, dat, pdD, pdDs, pdD_enc s]
  | .told s t => by simp only [enc, dat, pdD, pdDs, pdD_enc s, pdD_enc t]
theorem pdDs_encs : ∀ l : List Sy, pdDs (encs l) = dats l
  | [] => by simp only [encs, dats, pdDs]
  | s :: l => by simp only [encs, dats, pdDs, pdD_enc s, pdDs_encs l]
end
mutual
theorem gd_dat : ∀ s : Sy, gd (dat s) = true
  | .letter _ => by simp only [dat, gd, gdL, Bool.and_self]
  | .neg s => by simp only [dat, gd, gdL, gd_dat s, Bool.and_self]
  | .conj l => by simp only [dat, gd, gdL, gdL_dats l, Bool.and_self]
  | .disj l => by simp only [dat, gd, gdL, gdL_dats l, Bool.and_self]
  | .so s t => by simp only [dat, gd, gdL, gd_dat s, gd_dat t, Bool.and_self]
  | .must _ s => by simp only [dat, gd, gdL, gd_dat s, Bool.and_self]
  | .may _ s => by simp only [dat, gd, gdL, gd_dat s, Bool.and_self]
  | .told s t => by simp only [dat, gd, gdL, gd_dat s, gd_dat t, Bool.and_self]
theorem gdL_dats : ∀ l : List Sy, gdL (dats l) = true
  | [] => by simp only [dats, gdL]
  | s :: l => by simp only [dats, gdL, gd_dat s, gdL_dats l, Bool.and_self]
end
theorem cm_str (a b : Str) : cm (.str a) (.str b) = true := by simp only [cm]
theorem cmL_1 {x y : PyData} {xs ys : List PyData} (h : cm x y = true) (k : cmL xs ys = true) : cmL (x :: xs) (y :: ys) = true := by
  rw [cmL]; split
  · exact k
  · exact h
theorem cmL_n (x : PyData) (xs : List PyData) : cmL [] xs = true := by simp only [cmL]
theorem cmL_h {a b : Str} {xs ys : List PyData} (h : PyData.eqv (.str a) (.str b) = false) : cmL (.str a :: xs) (.str b :: ys) = true := by
  rw [cmL, h, if_neg (by decide), cm_str]
theorem eqv_str (a b : Str) : PyData.eqv (.str a) (.str b) = (a == b) := by simp only [PyData.eqv]
mutual
theorem cm_dat : ∀ s t : Sy, cm (dat s) (dat t) = true
  | .letter w, t => by
    cases t with
    | letter u => simp only [dat, cm]; exact cmL_1 (cm_str _ _) (cmL_1 (cm_str _ _) (by simp only [cmL]))
    | _ => simp only [dat, cm]; exact cmL_h (by rw [eqv_str]; decide +kernel)
  | .neg s, t => by
    cases t with
    | neg u => simp only [dat, cm]; exact cmL_1 (cm_str _ _) (cmL_1 (cm_dat s u) (by simp only [cmL]))
    | _ => simp only [dat, cm]; exact cmL_h (by rw [eqv_str]; decide +kernel)
  | .conj l, t => by
    cases t with
    | conj k => simp only [dat, cm]; exact cmL_1 (cm_str _ _) (cmL_1 (by rw [cm]; exact cm_dats l k) (by simp only [cmL]))
    | _ => simp only [dat, cm]; exact cmL_h (by rw [eqv_str]; decide +kernel)
  | .disj l, t => by
    cases t with
    | disj k => simp only [dat, cm]; exact cmL_1 (cm_str _ _) (cmL_1 (by rw [cm]; exact cm_dats l k) (by simp only [cmL]))
    | _ => simp only [dat, cm]; exact cmL_h (by rw [eqv_str]; decide +kernel)
  | .so s u, t => by
    cases t with
    | so a b => simp only [dat, cm]; exact cmL_1 (cm_str _ _) (cmL_1 (cm_dat s a) (cmL_1 (cm_dat u b) (by simp only [cmL])))
    | _ => simp only [dat, cm]; exact cmL_h (by rw [eqv_str]; decide +kernel)
  | .must w s, t => by
    cases t with
    | must a b => simp only [dat, cm]; exact cmL_1 (cm_str _ _) (cmL_1 (cm_str _ _) (cmL_1 (cm_dat s b) (by simp only [cmL])))
    | _ => simp only [dat, cm]; exact cmL_h (by rw [eqv_str]; decide +kernel)
  | .may w s, t => by
    cases t with
    | may a b => simp only [dat, cm]; exact cmL_1 (cm_str _ _) (cmL_1 (cm_str _ _) (cmL_1 (cm_dat s b) (by simp only [cmL])))
    | _ => simp only [dat, cm]; exact cmL_h (by rw [eqv_str]; decide +kernel)
  | .told s u, t => by
    cases t with
    | told a b => simp only [dat, cm]; exact cmL_1 (cm_str _ _) (cmL_1 (cm_dat s a) (cmL_1 (cm_dat u b) (by simp only [cmL])))
    | _ => simp only [dat, cm]; exact cmL_h (by rw [eqv_str]; decide +kernel)
theorem cm_dats : ∀ l k : List Sy, cmL (dats l) (dats k) = true
  | [], k => by simp only [dats, cmL]
  | s :: l, k => by
    cases k with
    | nil => simp only [dats]; simp only [cmL]
    | cons t k => simp only [dats]; exact cmL_1 (cm_dat s t) (cm_dats l k)
end
theorem tupNe_dat (s : Sy) : tupNe (dat s) = true := by
  cases s <;> simp only [dat, tupNe]
theorem okS_encs {l : List Sy} (h : ∀ s, s ∈ l → s.dep ≤ 30) : okS (encs l) = true := by
  unfold okS
  rw [Bool.and_eq_true]
  constructor
  · rw [List.all_eq_true]
    intro d hd
    obtain ⟨s, hs, rfl⟩ := mem_encs hd
    rw [Bool.and_eq_true, Bool.and_eq_true]
    refine ⟨⟨by rw [pdD_enc]; exact gd_dat s, decide_eq_true ?_⟩, ?_⟩
    · rw [pdD_enc]
      have := dat_depth s; have := h s hs
      omega
    · rw [List.all_eq_true]
      intro e he
      obtain ⟨t, ht, rfl⟩ := mem_encs he
      rw [pdD_enc, pdD_enc]
      exact cm_dat s t
  · rw [Bool.or_eq_true]
    refine .inl ?_
    rw [List.all_eq_true]
    intro d hd
    obtain ⟨s, hs, rfl⟩ := mem_encs hd
    rw [pdD_enc]
    exact tupNe_dat s
def srtS (l : List Sy) : List Sy := l.mergeSort fun a b => dataLe false pdD (enc a) (enc b)
theorem srt_encs (l : List Sy) : srt (encs l) = encs (srtS l) := by
  unfold srt srtS
  rw [encs_map, encs_map]
  exact (List.map_mergeSort (f := enc) (s := dataLe false pdD) (fun _ _ _ _ => rfl)).symm
theorem srtS_perm (l : List Sy) : (srtS l).Perm l := List.mergeSort_perm _ _
def lastIs (acc : List Sy) (s : Sy) : Bool := match acc.getLast? with
  | none => false
  | some t => PyData.eqv (dat t) (dat s)
def once : List Sy → List Sy → List Sy
  | acc, [] => acc
  | acc, s :: l => once (if lastIs acc s = true then acc else acc ++ [s]) l
theorem once_sub : ∀ (l acc : List Sy) (s : Sy), s ∈ once acc l → s ∈ acc ∨ s ∈ l
  | [], acc, s, h => .inl h
  | t :: l, acc, s, h => by
    rcases once_sub l _ s h with h | h
    · split at h
      · exact .inl h
      · rcases List.mem_append.mp h with h | h
        · exact .inl h
        · exact .inr (by have : s = t := by simpa using h
                         subst this; exact List.mem_cons_self ..)
    · exact .inr (List.mem_cons_of_mem _ h)
theorem once_acc : ∀ (l acc : List Sy) (s : Sy), s ∈ acc → s ∈ once acc l
  | [], acc, s, h => h
  | t :: l, acc, s, h => once_acc l _ s (by split; exact h; exact List.mem_append.mpr (.inl h))
theorem once_has : ∀ (l acc : List Sy) (s : Sy), s ∈ l → ∃ t, t ∈ once acc l ∧ dat t = dat s
  | [], acc, s, h => by cases h
  | u :: l, acc, s, h => by
    rw [once]
    rcases List.mem_cons.mp h with rfl | h
    · by_cases hl : lastIs acc s = true
      · rw [if_pos hl]
        unfold lastIs at hl
        cases e : acc.getLast? with
        | none => rw [e] at hl; cases hl
        | some t =>
          simp only [e] at hl
          exact ⟨t, once_acc l acc t (List.mem_of_getLast? e), gd_eq _ _ (gd_dat t) (gd_dat s) hl⟩
      · rw [if_neg hl]
        exact ⟨s, once_acc l _ s (List.mem_append.mpr (.inr (List.mem_cons_self ..))), rfl⟩
    · exact once_has l _ s h
theorem once_len : ∀ (l acc : List Sy), (once acc l).length ≤ acc.length + l.length
  | [], acc => Nat.le_refl _
  | t :: l, acc => by
    have := once_len l (if lastIs acc t = true then acc else acc ++ [t])
    rw [once, List.length_cons]
    split at this <;> rename_i hl <;> simp only [hl, if_true, if_false, Bool.false_eq_true, List.length_append, List.length_cons, List.length_nil] at this ⊢ <;> omega
def atoms (s : Sy) : List Sy := once [] (srtS ((parts (core s)).filter isAt))
theorem atoms_mem {s t : Sy} (h : t ∈ atoms s) : t ∈ parts (core s) ∧ isAt t = true := by
  rcases once_sub _ _ _ h with h | h
  · cases h
  · have := (srtS_perm _).mem_iff.mp h
    exact List.mem_filter.mp this
theorem atoms_has {s t : Sy} (h : t ∈ parts (core s)) (ha : isAt t = true) : ∃ u, u ∈ atoms s ∧ dat u = dat t :=
  once_has _ _ _ ((srtS_perm _).mem_iff.mpr (List.mem_filter.mpr ⟨h, ha⟩))
theorem atoms_len (s : Sy) : (atoms s).length ≤ (core s).sz := by
  have h := once_len (srtS ((parts (core s)).filter isAt)) []
  rw [(srtS_perm _).length_eq, List.length_nil] at h
  have := List.length_filter_le isAt (parts (core s))
  rw [parts_len] at this
  unfold atoms
  omega
end Dn

/-! Cor2: the program's defs over cores, parts, atoms; and a law's own -/
namespace Dn
open PySem PySem.Spec PyProof.Rows L2
section
variable {M : Mh}
theorem sortedD_ref (n : Nat) : sortedD (.ref n) M = match M[n]? with
  | some (.lst xs) => if okS xs = true then newL (srt xs) M else .bad
  | _ => .bad := by
  unfold sortedD getL
  simp only
  cases M[n]? with
  | none => rfl
  | some o => cases o <;> rfl
theorem extD_run (n k : Nat) : extD n [.ref k] M = match M[n]? with
  | some (.lst xs) => (match M[k]? with
    | some (.lst ys) => if xs.length + ys.length ≤ sizeLine then .ok .non (M.set n (.lst (xs ++ ys))) else .bad
    | _ => .bad)
  | _ => .bad := by
  unfold extD
  simp only
  cases M[n]? with
  | none => rfl
  | some o =>
    cases o with
    | lst xs =>
      cases M[k]? with
      | none => rfl
      | some o => cases o <;> rfl
    | _ => rfl
theorem allD_ref (n : Nat) : allD (.ref n) M = match M[n]? with
  | some (.lst xs) => (match boolsOf xs with
    | some bs => .ok (.bl (bs.all id)) M
    | none => .bad)
  | _ => .bad := by
  unfold allD getL
  simp only
  cases M[n]? with
  | none => rfl
  | some o =>
    cases o with
    | lst xs => rfl
    | _ => rfl
theorem anyD_ref (n : Nat) : anyD (.ref n) M = match M[n]? with
  | some (.lst xs) => (match boolsOf xs with
    | some bs => .ok (.bl (bs.any id)) M
    | none => .bad)
  | _ => .bad := by
  unfold anyD getL
  simp only
  cases M[n]? with
  | none => rfl
  | some o =>
    cases o with
    | lst xs => rfl
    | _ => rfl
theorem boolsOf_map : ∀ bs : List Bool, boolsOf (bs.map D.bl) = some bs
  | [] => rfl
  | b :: r => by simp only [List.map_cons, boolsOf, boolsOf_map r, Option.map_some]
theorem negD_int (i : Int) : negD (.int i) M = .ok (.int (-i)) M := rfl
theorem min2D_int (i j : Int) : min2D [.int i, .int j] M = .ok (.int (if j < i then j else i)) M := rfl
theorem inCE_dct {n : Nat} {kvs : List (Key × D)} {a : Str} (h : M[n]? = some (.dct kvs)) : inCE (.str a) (.ref n) M = .ok (dLook kvs (.inr a)).isSome M := by
  unfold inCE
  simp only [h, keyD]
theorem flat_bls : ∀ bs : List Bool, (bs.map D.bl).all flatD = true
  | [] => rfl
  | b :: r => by simp only [List.map_cons, List.all_cons, flat_bls r, flatD, Bool.and_self]
theorem inCE_bls {n : Nat} {bs : List Bool} {b : Bool} (h : M[n]? = some (.lst (bs.map D.bl))) : inCE (.bl b) (.ref n) M = .ok (inF (.bl b) (bs.map D.bl)) M := by
  unfold inCE inC inQ getS getL
  simp only [h, flatD, flat_bls, and_self, if_true]
theorem inF_false : ∀ bs : List Bool, (!inF (.bl false) (bs.map D.bl)) = bs.all id
  | [] => rfl
  | b :: r => by
    have := inF_false r
    unfold inF at this ⊢
    rw [List.map_cons, List.any_cons, List.all_cons, ← this]
    cases b <;> rfl
theorem inF_true : ∀ bs : List Bool, inF (.bl true) (bs.map D.bl) = bs.any id
  | [] => rfl
  | b :: r => by
    have := inF_true r
    unfold inF at this ⊢
    rw [List.map_cons, List.any_cons, List.any_cons, ← this]
    cases b <;> rfl
end
theorem enc_tup (s : Sy) : ∃ l, enc s = .tup l := by
  cases s <;> exact ⟨_, by rw [enc]⟩
theorem eqS_tup (a b : List D) : eqS (.tup a) (.tup b) = none := rfl
theorem strOk_w : PyData.strOk "letter" = true ∧ PyData.strOk "not" = true ∧ PyData.strOk "and" = true ∧ PyData.strOk "or" = true ∧ PyData.strOk "so" = true ∧ PyData.strOk "must" = true ∧ PyData.strOk "may" = true ∧ PyData.strOk "told" = true := by
  refine ⟨?_, ?_, ?_, ?_, ?_, ?_, ?_, ?_⟩ <;> decide +kernel
mutual
theorem lay_dat : ∀ s : Sy, s.okw Shrt → PyData.canLay0 (dat s) = true
  | .letter w, h => by
    have h : Shrt w := h
    simp only [dat, PyData.canLay0, PyData.canLayAll0, strOk_w, h.2.2, Bool.and_self]
  | .neg s, h => by simp only [dat, PyData.canLay0, PyData.canLayAll0, strOk_w, lay_dat s h, Bool.and_self]
  | .conj l, h => by simp only [dat, PyData.canLay0, PyData.canLayAll0, strOk_w, lay_dats l h, Bool.and_self]
  | .disj l, h => by simp only [dat, PyData.canLay0, PyData.canLayAll0, strOk_w, lay_dats l h, Bool.and_self]
  | .so s t, h => by simp only [dat, PyData.canLay0, PyData.canLayAll0, strOk_w, lay_dat s h.1, lay_dat t h.2, Bool.and_self]
  | .must w s, h => by
    have hw : Shrt w := h.1
    simp only [dat, PyData.canLay0, PyData.canLayAll0, strOk_w, hw.2.2, lay_dat s h.2, Bool.and_self]
  | .may w s, h => by
    have hw : Shrt w := h.1
    simp only [dat, PyData.canLay0, PyData.canLayAll0, strOk_w, hw.2.2, lay_dat s h.2, Bool.and_self]
  | .told s t, h => by simp only [dat, PyData.canLay0, PyData.canLayAll0, strOk_w, lay_dat s h.1, lay_dat t h.2, Bool.and_self]
theorem lay_dats : ∀ l : List Sy, okws Shrt l → PyData.canLayAll0 (dats l) = true
  | [], _ => by simp only [dats, PyData.canLayAll0]
  | s :: l, h => by simp only [dats, PyData.canLayAll0, lay_dat s h.1, lay_dats l h.2, Bool.and_self]
end
theorem Gq.shaped {s : Sy} (h : Gq s) : SeqAt.shaped (dat s) = true := by
  unfold SeqAt.shaped
  rw [Bool.and_eq_true]
  refine ⟨lay_dat s h.w, decide_eq_true ?_⟩
  have := dat_depth s; have := h.d
  omega
theorem eqC_enc {M : Mh} {s t : Sy} (hs : Gq s) (ht : Gq t) : eqC (enc s) (enc t) M = .ok (PyData.eqv (dat s) (dat t)) M := by
  unfold eqC
  obtain ⟨a, ea⟩ := enc_tup s
  obtain ⟨b, eb⟩ := enc_tup t
  have e : eqS (enc s) (enc t) = none := by rw [ea, eb]; rfl
  simp only [e, data_enc]
  exact if_pos ⟨hs.shaped, ht.shaped⟩
theorem okws_mem {P : Str → Prop} : ∀ {l : List Sy}, (∀ s, s ∈ l → s.okw P) → okws P l
  | [], _ => trivial
  | s :: l, h => ⟨h s (List.mem_cons_self ..), okws_mem fun t ht => h t (List.mem_cons_of_mem _ ht)⟩
theorem deps_mem {n : Nat} : ∀ {l : List Sy}, (∀ s, s ∈ l → s.dep ≤ n) → deps l ≤ n
  | [], _ => by rw [deps]; omega
  | s :: l, h => by
    have := h s (List.mem_cons_self ..)
    have := deps_mem fun t ht => h t (List.mem_cons_of_mem s ht)
    rw [deps]; omega
theorem eqC_nilS {M : Mh} {n k : Nat} {l : List Sy} (h : M[n]? = some (.lst (encs l))) (h' : M[k]? = some (.lst [])) (hg : ∀ s, s ∈ l → Gq s) : eqC (.ref n) (.ref k) M = .ok l.isEmpty M := by
  rw [eqC_ref, dataOf_ref, dataOf_ref, h, h']
  simp only [encs_dat, toPs, Option.map_some]
  rw [if_pos]
  · cases l with
    | nil => simp only [dats, PyData.eqv, PyData.eqvAll, List.isEmpty]
    | cons a r => simp only [dats, PyData.eqv, PyData.eqvAll, List.isEmpty]
  · constructor
    · unfold SeqAt.shaped
      rw [Bool.and_eq_true]
      refine ⟨by simp only [PyData.canLay0]; exact lay_dats l (okws_mem fun s hs => (hg s hs).w), decide_eq_true ?_⟩
      have := dats_depth l
      have := deps_mem fun s hs => (hg s hs).d
      simp only [PyData.depth]; omega
    · unfold SeqAt.shaped
      rw [Bool.and_eq_true]
      exact ⟨by simp only [PyData.canLay0, PyData.canLayAll0], decide_eq_true (by simp only [PyData.depth, PyData.depthAll]; omega)⟩
theorem ixN_last (n : Nat) : ixN (n + 1) (-1) = some n := by
  unfold ixN
  rw [if_neg (by omega)]
  simp
  all_goals omega
theorem encs_last {acc : List Sy} {t : Sy} (h : acc.getLast? = some t) : atD (encs acc) (-1) = some (enc t) := by
  obtain ⟨r, rfl⟩ : ∃ r, acc = r ++ [t] := by
    obtain ⟨r, e⟩ := List.getLast?_eq_some_iff.mp h
    exact ⟨r, e⟩
  unfold atD
  rw [encs_len, List.length_append, List.length_cons, List.length_nil, Nat.zero_add, ixN_last, encs_app]
  simp only [Option.bind_some, encs]
  rw [List.getElem?_append_right (by rw [encs_len]; exact Nat.le_refl _), encs_len, Nat.sub_self]
  rfl
theorem set_mid {M E : Mh} {x y : MO} : (M ++ x :: E).set M.length y = M ++ y :: E := by
  rw [List.set_append_right _ _ (Nat.le_refl _), Nat.sub_self, List.set_cons_zero]
/-- a comprehension over sayings with a test -/
theorem comp_filt {M : Mh} {w : Wk} {v : Nat} {P : Sy → Bool} {tt : TD} {te : ED} {s0 : Sl} (hs : Stays w M) : ∀ (l : List Sy) (acc : List D), (∀ s, s ∈ l → tt (s0.set v (some (enc s))) M = .ok (P s) M) → (∀ s, s ∈ l → te (s0.set v (some (enc s))) M = .ok (enc s) M) → compL w (gNm v) tt te s0 (encs l) acc M = .ok (acc ++ encs (l.filter P)) M
  | [], acc, _, _ => by rw [encs, compL_nil, if_pos hs, List.filter_nil, encs, List.append_nil]
  | s :: l, acc, ht, h => by
    rw [encs, compL_cons, if_pos hs]
    simp only [bind_run, noX_run, gNm_run, ht s (List.mem_cons_self ..)]
    by_cases hp : P s = true
    · simp only [hp, if_true, bind_run, noX_run, h s (List.mem_cons_self ..)]
      rw [comp_filt hs l (acc ++ [enc s]) (fun d' h' => ht d' (List.mem_cons_of_mem _ h')) fun d' h' => h d' (List.mem_cons_of_mem _ h'), List.filter_cons, if_pos hp, encs, List.append_assoc, List.cons_append, List.nil_append]
    · rw [if_neg hp, comp_filt hs l acc (fun d' h' => ht d' (List.mem_cons_of_mem _ h')) fun d' h' => h d' (List.mem_cons_of_mem _ h'), List.filter_cons, if_neg hp]
theorem filt_of {M : Mh} {w : Wk} {v : Nat} {tt : TD} {te : ED} {s0 : Sl} {l : List Sy} {X : R (List D)} (hX : compL w (gNm v) tt te s0 (encs l) [] M = X) (P : Sy → Bool) (hs : Stays w M) (ht : ∀ s, s ∈ l → tt (s0.set v (some (enc s))) M = .ok (P s) M) (h : ∀ s, s ∈ l → te (s0.set v (some (enc s))) M = .ok (enc s) M) : X = .ok (encs (l.filter P)) M := by
  rw [← hX]; exact comp_filt hs l [] ht h
/-- .. that makes truths -/
theorem comp_bls {M : Mh} {w : Wk} {v : Nat} {f : Sy → Bool} {te : ED} {s0 : Sl} (hs : Stays w M) : ∀ (l : List Sy) (acc : List D), (∀ s, s ∈ l → te (s0.set v (some (enc s))) M = .ok (.bl (f s)) M) → compL w (gNm v) tYesD te s0 (encs l) acc M = .ok (acc ++ (l.map f).map D.bl) M
  | [], acc, _ => by rw [encs, compL_nil, if_pos hs, List.map_nil, List.map_nil, List.append_nil]
  | s :: l, acc, h => by
    rw [encs, compL_cons, if_pos hs]
    simp only [bind_run, noX_run, gNm_run, tYesD_run, h s (List.mem_cons_self ..), if_true]
    rw [comp_bls hs l (acc ++ [D.bl (f s)]) fun d' h' => h d' (List.mem_cons_of_mem _ h'), List.map_cons, List.map_cons, List.append_assoc, List.cons_append, List.nil_append]
theorem bls_of {M : Mh} {w : Wk} {v : Nat} {te : ED} {s0 : Sl} {l : List Sy} {X : R (List D)} (hX : compL w (gNm v) tYesD te s0 (encs l) [] M = X) (f : Sy → Bool) (hs : Stays w M) (h : ∀ s, s ∈ l → te (s0.set v (some (enc s))) M = .ok (.bl (f s)) M) : X = .ok ((l.map f).map D.bl) M := by
  rw [← hX]; exact comp_bls hs l [] h
theorem low_bls (n : Nat) : ∀ bs : List Bool, lowDs n (bs.map D.bl) = true
  | [] => rfl
  | b :: r => by simp only [List.map_cons, lowDs, lowD, low_bls n r, Bool.and_self]
/-! dicts -/
theorem put_mem {l : List (Key × D)} {k : Key} {v : D} {kv : Key × D} (h : kv ∈ putD l k v) : kv = (k, v) ∨ kv ∈ l := by
  unfold putD at h
  split at h
  · obtain ⟨x, hx, e⟩ := List.mem_map.mp h
    split at e
    · rename_i ek
      exact .inl (by rw [← e, ek])
    · exact .inr (by rw [← e]; exact hx)
  · rcases List.mem_append.mp h with h | h
    · exact .inr h
    · exact .inl (by simpa using h)
theorem merge_mem : ∀ {more l : List (Key × D)} {kv : Key × D}, kv ∈ mergeD l more → kv ∈ l ∨ kv ∈ more
  | [], l, kv, h => .inl h
  | p :: more, l, kv, h => by
    have h : kv ∈ mergeD (putD l p.1 p.2) more := h
    rcases merge_mem h with h | h
    · rcases put_mem h with h | h
      · exact .inr (by rw [h]; exact List.mem_cons_self ..)
      · exact .inl h
    · exact .inr (List.mem_cons_of_mem _ h)
def hasK (l : List (Key × D)) (k : Key) : Prop := ∃ kv, kv ∈ l ∧ kv.1 = k
theorem put_has {l : List (Key × D)} (k : Key) (v : D) : hasK (putD l k v) k := by
  unfold putD
  split
  · rename_i h
    obtain ⟨x, hx, e⟩ := List.any_eq_true.mp h
    have e := of_decide_eq_true e
    exact ⟨(x.1, v), List.mem_map.mpr ⟨x, hx, if_pos e⟩, e⟩
  · exact ⟨(k, v), List.mem_append.mpr (.inr (List.mem_cons_self ..)), rfl⟩
theorem put_keep {l : List (Key × D)} {k k' : Key} {v : D} (h : hasK l k') : hasK (putD l k v) k' := by
  obtain ⟨x, hx, e⟩ := h
  unfold putD
  split
  · by_cases hk : x.1 = k
    · exact ⟨(x.1, v), List.mem_map.mpr ⟨x, hx, if_pos hk⟩, e⟩
    · exact ⟨x, List.mem_map.mpr ⟨x, hx, if_neg hk⟩, e⟩
  · exact ⟨x, List.mem_append.mpr (.inl hx), e⟩
theorem merge_keep {k : Key} : ∀ {more l : List (Key × D)}, hasK l k → hasK (mergeD l more) k
  | [], l, h => h
  | p :: more, l, h => merge_keep (more := more) (put_keep h)
theorem merge_has {k : Key} : ∀ {more l : List (Key × D)}, hasK more k → hasK (mergeD l more) k
  | [], l, ⟨_, h, _⟩ => by cases h
  | p :: more, l, ⟨x, h, e⟩ => by
    show hasK (mergeD (putD l p.1 p.2) more) k
    rcases List.mem_cons.mp h with rfl | h
    · rw [← e]; exact merge_keep (put_has _ _)
    · exact merge_has ⟨x, h, e⟩
theorem look_some {l : List (Key × D)} {k : Key} (h : hasK l k) : ∃ kv, kv ∈ l ∧ dLook l k = some kv.2 := by
  unfold dLook
  cases e : l.find? fun kv => decide (kv.1 = k) with
  | none =>
    obtain ⟨x, hx, ek⟩ := h
    have := List.find?_eq_none.mp e x hx
    simp [ek] at this
  | some kv => exact ⟨kv, List.mem_of_find?_eq_some e, rfl⟩
theorem look_key {l : List (Key × D)} {k : Key} {d : D} (h : dLook l k = some d) : hasK l k := by
  unfold dLook at h
  cases e : l.find? fun kv => decide (kv.1 = k) with
  | none => rw [e] at h; cases h
  | some kv => exact ⟨kv, List.mem_of_find?_eq_some e, by have z := List.find?_some e; simpa using z⟩
/-- the truths by the atoms' texts -/
def zipK (l : List Sy) (bs : List Bool) : List (Key × D) := List.zipWith (fun s b => (.inr (dat s).shown, .bl b)) l bs
def kvOf (l : List Sy) (bs : List Bool) : List (Key × D) := mergeD [] (zipK l bs)
def valOf (kvs : List (Key × D)) (x : Str) : Bool := match dLook kvs (.inr x) with
  | some (.bl b) => b
  | _ => false
theorem zipK_mem : ∀ {l : List Sy} {bs : List Bool} {kv : Key × D}, kv ∈ zipK l bs → ∃ s b, s ∈ l ∧ kv = (.inr (dat s).shown, .bl b)
  | [], bs, kv, h => by cases bs <;> cases h
  | s :: l, [], kv, h => by cases h
  | s :: l, b :: bs, kv, h => by
    have h : kv ∈ (.inr (dat s).shown, .bl b) :: zipK l bs := h
    rcases List.mem_cons.mp h with rfl | h
    · exact ⟨s, b, List.mem_cons_self .., rfl⟩
    · obtain ⟨t, c, ht, e⟩ := zipK_mem h
      exact ⟨t, c, List.mem_cons_of_mem _ ht, e⟩
theorem zipK_has : ∀ {l : List Sy} {bs : List Bool} {s : Sy}, l.length = bs.length → s ∈ l → hasK (zipK l bs) (.inr (dat s).shown)
  | [], bs, s, _, h => by cases h
  | t :: l, [], s, e, h => by cases e
  | t :: l, b :: bs, s, e, h => by
    rcases List.mem_cons.mp h with rfl | h
    · exact ⟨(.inr (dat s).shown, .bl b), List.mem_cons_self .., rfl⟩
    · obtain ⟨x, hx, ek⟩ := zipK_has (bs := bs) (by simpa using e) h
      exact ⟨x, List.mem_cons_of_mem _ hx, ek⟩
theorem kvOf_mem {l : List Sy} {bs : List Bool} {kv : Key × D} (h : kv ∈ kvOf l bs) : ∃ s b, s ∈ l ∧ kv = (.inr (dat s).shown, .bl b) := by
  rcases merge_mem h with h | h
  · cases h
  · exact zipK_mem h
theorem kvOf_look {l : List Sy} {bs : List Bool} {s : Sy} (e : l.length = bs.length) (h : s ∈ l) : dLook (kvOf l bs) (.inr (dat s).shown) = some (.bl (valOf (kvOf l bs) (dat s).shown)) := by
  obtain ⟨kv, hkv, e2⟩ := look_some (merge_has (l := []) (zipK_has e h))
  have e2 : dLook (kvOf l bs) (.inr (dat s).shown) = some kv.2 := e2
  obtain ⟨t, b, _, rfl⟩ := kvOf_mem hkv
  unfold valOf
  simp only [e2]
theorem low_kv {l : List (Key × D)} (h : ∀ kv, kv ∈ l → ∃ b, kv.2 = .bl b) : lowO 0 (.dct l) = true := by
  show lowDs 0 (l.map (·.2)) = true
  induction l with
  | nil => rfl
  | cons x l ih =>
    obtain ⟨b, e⟩ := h x (List.mem_cons_self ..)
    simp only [List.map_cons, lowDs, e, lowD, Bool.true_and]
    exact ih fun kv hkv => h kv (List.mem_cons_of_mem _ hkv)
theorem low_kvOf (l : List Sy) (bs : List Bool) : lowO 0 (.dct (kvOf l bs)) = true := low_kv fun kv h => by
  obtain ⟨s, b, _, rfl⟩ := kvOf_mem h
  exact ⟨b, rfl⟩
theorem Gq.repr {M : Mh} {s : Sy} (h : Gq s) : reprD (enc s) M = .ok (.str (dat s).shown) M := repr_enc h.w (by have := h.z; omega) (by have := h.d; omega)
local macro_rules | `(tactic| walk_at "dn") => `(tactic| simp (disch := first | assumption | exact gn_new | exact gn_at1 | exact gn_at2 | exact gn_at | (simp only [lowDs, lowD, enc_low, encs_low, Bool.and_self]; done) | (refine clo_t ?_; have hEn := fun n (E : Mh) (h : lowE E = true) => lowE_all n h; simp only [List.all_cons, List.all_nil, List.length_cons, List.length_nil, lowO, lowDs, lowD, low_ints, low_strs, encs_low, Nat.reduceAdd, Nat.reduceLT, lt_succ, List.all_append, List.length_append, decide_true, *, Bool.and_self, Bool.and_true]; done) | (simp only [Nat.reduceLeDiff, encs_len, List.length_cons, List.length_nil, Nat.reduceAdd, flatD, List.all_cons, List.all_nil, Bool.and_self, Bool.and_true, List.length_append, List.length_set, Nat.lt_add_one, *]; done) | (simp only [Dn.sizeLine_eq, PySem.Str.length_append, Nat.add_zero]; omega) | (simp only [encs_len, List.length_take, List.length_map, List.length_cons, List.length_append, List.length_nil]; omega) | omega) only [ret_run, bad_run, bind_run, noX_run, asB_run, eOp_run, eUn_run, eCb_run, aNil_run, aCons_run, eVar_run, eC_run, tCmpD_run, tTruD_run, tAndD_run, tOrD_run, tNotD_run, tYesD_run, eIf_run, eAnd_run, eOr_run, notD_run, eSl_run, oNone_run, oSome_run, sRet_run, sRetN_run, sExp_run, sNx_run, sBk_run, sCt_run, sIf_run, sSeq_run, sAsg_run, gNm_run, gsNil_run, gsCons_run, gSb_run, gTp_tup, gSt_tup, sPar_run, sFor_run, eComp_run, newT_s, newL_s, one1_run, eqD_run, neD_run, eqC_str, eqC_int, eqC_bl, inE_run, ninE_run, inCE_rod, inCE_tup, ixE_rod, ixE_tup, ixE_ls, ixE_ref, addD_int, addD_strok, addD_tup, addD_ref, subD_int, mulD_ok, fdivD_ok, modD_ok, powD_ok, ltD_int, leD_int, gtD_int, geD_int, truC_bl, lenD_tup, lenD_ref, lenD_ls, tupleD_ref, listD_tupn, listD_ref, gc_l0n, wkOf_tup, wkOf_ref, eJoin_run, eLm_run, setD_ref, atD_0, atD_1, atD_2, atD_3, atD_4, setL_0, setL_1, setL_2, setL_3, gs_eq, gs_ne, ga_lt,  List.length_set, List.length_map, set_app, List.set_set, decide_eq_true_eq, inF_nil, inF_int, inF_str, flatD, List.all_cons, List.all_nil, Bool.and_true, Bool.and_self, Bool.or_false, Bool.or_true, Bool.true_or, Bool.false_or, Int.reduceEq, Int.reduceLT, Int.reduceMod, Int.reduceNeg, st_len, st_app, st_at, wipeD, rng1_s, Dn.sizeLine_eq, Nat.reduceLT, Int.reduceToNat, List.length_range, List.length_take, Nat.min_def, compL_cons, compL_nil, stays_none, List.set_nil, fm_0, fm_1, fm_2, fm_3, fm_4, fm_5, fm_6, fm_7, fm_8, fm_9, fm_10, fm_11, fm_12, fm_13, sortedD_ref, extD_run, allD_ref, anyD_ref, boolsOf_map, negD_int, min2D_int, inCE_dct, inCE_bls, srt_encs, slD_tup, cut_3_2, cut_3_1, cut_2_1, joinD_ref, appD_run, stays_iff,  mkFn_run, List.map_cons, List.map_nil, List.reduceReplicate, gn_new, gn_at, List.append_assoc, gc_str, gc_str0, gc_bl, gc_bl0, gc_int, gc_int0, gc_enc, gc_enc0, gc_tup, gc_tup0, gc_zero, gc_nil, gc_l0, reduceCtorEq, Bool.not_eq_true, eq_self,  List.length_append, encs_len,    strsOf_map, pNil_run, pCons_run, eDisp_run, Option.isSome_some, Option.isSome_none, keysD, keyD, List.zip_cons_cons, List.zip_nil_left, List.zip_nil_right, List.foldl_cons, List.foldl_nil, 
  Nat.reduceAdd, Nat.reduceLeDiff, Nat.reduceEqDiff, Nat.reduceSub, String.reduceEq, reduceIte, Int.reduceLE, Nat.le_refl, ofString_inj, List.set_cons_succ, List.set_cons_zero, List.getElem?_cons_succ, List.getElem?_cons_zero, List.length_cons, List.length_nil, decide_true, decide_false, if_true, if_false, Bool.false_eq_true, List.take_succ_cons, List.take_zero, List.drop_succ_cons, List.drop_zero, List.cons_append, List.nil_append, ne_eq, not_false_eq_true, Bool.not_true, Bool.not_false, *])

/-! ### parts -/
def PtOk (F : Fn) (n : Nat) : Prop := ∀ (s : Sy) (M : Mh), s.dep ≤ n → Clo M → s.sz ≤ 50000 → F [enc s] M = .ok (.ref M.length) (M ++ [.lst (encs (parts s))])
noncomputable abbrev pBody (gp : Fn) : SD := sExp (eLm extD (eVar 1) (aCons (eCb gp (aCons (eVar 2) aNil)) aNil))
noncomputable def b_eachp (gi gp : Fn) : SD := (sSeq (sAsg (eCb newL (aCons (eVar 0) aNil)) (gNm 1)) (sSeq (sFor (fun s => ((eCb gi (aCons (eVar 0) aNil)) s).bind wkOf) (gNm 2) (pBody gp)) (sRet (eVar 1))))
theorem eachp_step {gp : Fn} {N : Mh} {k : Nat} {acc : List Sy} {t : Sy} {x0 : Option D} (hk : N[k]? = some (.lst (encs acc))) (e : gp [enc t] N = .ok (.ref N.length) (N ++ [.lst (encs (parts t))])) (hl : acc.length + (parts t).length ≤ 100000) :
    pBody gp [x0, some (.ref k), some (enc t)] N = .ok (.nx, [x0, some (.ref k), some (enc t)]) (N.set k (.lst (encs (acc ++ parts t))) ++ [.lst (encs (parts t))]) := by
  have hkl := lt_of_get hk
  have hl2 : acc.length + (parts t).length ≤ 16777216 := by omega
  unfold pBody
  walk_at "dn"
  rw [encs_app]
theorem eachp_ok {gi gp : Fn} {n : Nat} (hi : InOk gi) (hp : PtOk gp n) : PtOk (mkFn 3 1 (b_eachp gi gp)) (n + 1) := by
  intro s M hd cl hz
  have hll := inn_len s
  have cl1 : Clo (M ++ [.lst [enc s]]) := Clo_app cl (by simp only [lowO, lowDs, enc_low, Bool.and_self])
  have e0 := hi s (M ++ [.lst [enc s]]) cl1 hz
  have hsz := parts_len s
  rw [parts_inn, List.length_cons] at hsz
  unfold b_eachp
  walk_at "dn"
  generalize hL : loopD _ _ _ _ _ _ = X
  obtain ⟨s', M', rfl, y, E, rfl, hE, rfl⟩ := loop_ix_end hL (fun i s' M' => ∃ y E, s' = [some (enc s), some (.ref M.length), y] ∧ lowE E = true ∧ M' = M ++ .lst (encs (s :: partss ((inn s).take i))) :: E)
    (fun i s' M' _ => stays_none.mpr trivial)
    ⟨none, [], rfl, rfl, by simp only [List.take_zero, partss, encs]⟩ (by
      rintro j d _ _ hd2 ⟨y, E, rfl, hE, rfl⟩
      rw [encs_map, List.getElem?_map, Option.map_eq_some_iff] at hd2
      obtain ⟨t, ht, rfl⟩ := hd2
      have hj := (List.getElem?_eq_some_iff.mp ht).1
      have hm : t ∈ inn s := List.mem_of_getElem? ht
      have hi2 := inn_mem hm
      have clN : Clo (M ++ .lst (encs (s :: partss ((inn s).take j))) :: E) := Clo_appE cl (by
        unfold lowE at hE ⊢
        rw [List.all_cons, hE, Bool.and_true]
        exact encs_low 0 _)
      have ec := hp t _ (by omega) clN (by omega)
      have et : (inn s).take (j + 1) = (inn s).take j ++ [t] := by rw [List.take_add_one, ht]; rfl
      have hlen : (s :: partss ((inn s).take j)).length + (parts t).length ≤ 100000 := by
        have h1 : (partss ((inn s).take (j + 1))).length ≤ (partss (inn s)).length := by
          have h2 : partss (inn s) = partss ((inn s).take (j + 1)) ++ partss ((inn s).drop (j + 1)) := by rw [← partss_app, List.take_append_drop]
          rw [h2, List.length_append]; omega
        rw [et, partss_app, List.length_append, partss, partss, List.append_nil] at h1
        rw [List.length_cons]
        omega
      refine ⟨_, _, _, _, rfl, eachp_step (gn_new) ec hlen, some (enc t), E ++ [.lst (encs (parts t))], rfl, lowE_app hE (by unfold lowE; simp only [List.all_cons, List.all_nil, lowO, encs_low, Bool.and_self]), ?_⟩
      rw [set_mid, et, partss_app, partss, partss, List.append_nil, List.cons_append, List.append_assoc, List.cons_append])
  clear hL
  have ee : (inn s).take (encs (inn s)).length = inn s := by rw [encs_len, List.take_length]
  rw [ee, ← parts_inn]
  walk_at "dn"
/-! ### a law's own -/
def LnOk (F : Fn) : Prop := ∀ (s : Sy) (M : Mh), Clo M → s.sz ≤ 50000 → F [enc s] M = .ok (.ref M.length) (M ++ [.lst (encs (inn s))])
noncomputable def b_linn : SD := (sSeq (sIf (tCmpD eqD (eOp ixE (eVar 0) (eC (.int 0))) (eC (.str "letter"))) (sRet (eCb newL aNil)) sNx) (sSeq (sIf (tCmpD inE (eOp ixE (eVar 0) (eC (.int 0))) (eCb newT (aCons (eC (.str "and")) (aCons (eC (.str "or")) aNil)))) (sRet (eCb (one1 listD) (aCons (eOp ixE (eVar 0) (eC (.int 1))) aNil))) sNx) (sRet (eIf (tCmpD inE (eOp ixE (eVar 0) (eC (.int 0))) (eCb newT (aCons (eC (.str "must")) (aCons (eC (.str "may")) aNil)))) (eCb (one1 listD) (aCons (eSl (eVar 0) (oSome (eC (.int 2))) oNone) aNil)) (eCb (one1 listD) (aCons (eSl (eVar 0) (oSome (eC (.int 1))) oNone) aNil))))))
theorem linn_ok : LnOk (mkFn 1 1 b_linn) := by
  intro s M cl hz
  have hl := inn_len s
  unfold b_linn
  cases s with
  | letter w =>
    simp only [enc, inn, encs]
    walk_at "dn"
  | neg s =>
    simp only [enc, inn, encs]
    walk_at "dn"
  | conj l =>
    simp only [enc, inn] at hl ⊢
    walk_at "dn"
  | disj l =>
    simp only [enc, inn] at hl ⊢
    walk_at "dn"
  | so s t =>
    simp only [enc, inn, encs]
    walk_at "dn"
  | must w s =>
    simp only [enc, inn, encs]
    walk_at "dn"
  | may w s =>
    simp only [enc, inn, encs]
    walk_at "dn"
  | told s t =>
    simp only [enc, inn, encs]
    walk_at "dn"
noncomputable abbrev lpBody (gp : Fn) : SD := sAsg (eOp addD (eVar 1) (eCb gp (aCons (eVar 2) aNil))) (gNm 1)
noncomputable def b_lparts (gi gp : Fn) : SD := (sSeq (sAsg (eCb newL (aCons (eVar 0) aNil)) (gNm 1)) (sSeq (sFor (fun s => ((eCb gi (aCons (eVar 0) aNil)) s).bind wkOf) (gNm 2) (lpBody gp)) (sRet (eVar 1))))
theorem lparts_step {gp : Fn} {N : Mh} {k : Nat} {acc : List Sy} {t : Sy} {x0 : Option D} (hk : N[k]? = some (.lst (encs acc))) (e : gp [enc t] N = .ok (.ref N.length) (N ++ [.lst (encs (parts t))])) (hl : acc.length + (parts t).length ≤ 100000) :
    lpBody gp [x0, some (.ref k), some (enc t)] N = .ok (.nx, [x0, some (.ref (N.length + 1)), some (enc t)]) (N ++ [.lst (encs (parts t)), .lst (encs (acc ++ parts t))]) := by
  have hkl := lt_of_get hk
  unfold lpBody
  walk_at "dn"
  rw [encs_app]
theorem lparts_ok {gi gp : Fn} {n : Nat} (hi : LnOk gi) (hp : PtOk gp n) : PtOk (mkFn 3 1 (b_lparts gi gp)) (n + 1) := by
  intro s M hd cl hz
  have hll := inn_len s
  have cl1 : Clo (M ++ [.lst [enc s]]) := Clo_app cl (by simp only [lowO, lowDs, enc_low, Bool.and_self])
  have e0 := hi s (M ++ [.lst [enc s]]) cl1 hz
  rw [List.length_append, List.append_assoc] at e0
  have e0 : gi [enc s] (M ++ [.lst [enc s]]) = .ok (.ref (M.length + 1)) (M ++ [.lst [enc s], .lst (encs (inn s))]) := e0
  have hsz := parts_len s
  rw [parts_inn, List.length_cons] at hsz
  unfold b_lparts
  walk_at "dn"
  generalize hL : loopD _ _ _ _ _ _ = X
  obtain ⟨s', M', rfl, k, y, E, rfl, hE, rfl, hk, hkl⟩ := loop_ix_end hL (fun i s' M' => ∃ k y E, s' = [some (enc s), some (.ref k), y] ∧ lowE E = true ∧ M' = M ++ .lst [enc s] :: .lst (encs (inn s)) :: E ∧ M'[k]? = some (.lst (encs (s :: partss ((inn s).take i)))) ∧ M.length ≤ k)
    (fun i s' M' ⟨_, _, _, _, _, e, _⟩ => stays_iff.mpr (by rw [e]; exact gn_at1))
    ⟨M.length, none, [], rfl, rfl, rfl, by rw [gn_new]; simp only [List.take_zero, partss, encs], Nat.le_refl _⟩ (by
      rintro j d _ _ hd2 ⟨k, y, E, rfl, hE, rfl, hk, hkl⟩
      rw [encs_map, List.getElem?_map, Option.map_eq_some_iff] at hd2
      obtain ⟨t, ht, rfl⟩ := hd2
      have hj := (List.getElem?_eq_some_iff.mp ht).1
      have hm : t ∈ inn s := List.mem_of_getElem? ht
      have hi2 := inn_mem hm
      have clN : Clo (M ++ .lst [enc s] :: .lst (encs (inn s)) :: E) := Clo_appE cl (by
        unfold lowE at hE ⊢
        simp only [List.all_cons, lowO, lowDs, encs_low, enc_low, hE, Bool.and_self])
      have ec := hp t _ (by omega) clN (by omega)
      have et : (inn s).take (j + 1) = (inn s).take j ++ [t] := by rw [List.take_add_one, ht]; rfl
      have hlen : (s :: partss ((inn s).take j)).length + (parts t).length ≤ 100000 := by
        have h1 : (partss ((inn s).take (j + 1))).length ≤ (partss (inn s)).length := by
          have h2 : partss (inn s) = partss ((inn s).take (j + 1)) ++ partss ((inn s).drop (j + 1)) := by rw [← partss_app, List.take_append_drop]
          rw [h2, List.length_append]; omega
        rw [et, partss_app, List.length_append, partss, partss, List.append_nil] at h1
        rw [List.length_cons]
        omega
      generalize hN : M ++ .lst [enc s] :: .lst (encs (inn s)) :: E = N at hk clN ec ⊢
      have hlN : M.length ≤ N.length := by rw [← hN, List.length_append]; omega
      refine ⟨_, _, _, _, rfl, lparts_step hk ec hlen, N.length + 1, some (enc t), E ++ [.lst (encs (parts t)), .lst (encs ((s :: partss ((inn s).take j)) ++ parts t))], rfl, lowE_app hE (by unfold lowE; simp only [List.all_cons, List.all_nil, lowO, encs_low, Bool.and_self]), ?_, ?_, by omega⟩
      · rw [← hN]; simp only [List.append_assoc, List.cons_append]
      · rw [gn_at1, et, partss_app, partss, partss, List.append_nil, List.cons_append])
  clear hL
  have ee : (inn s).take (encs (inn s)).length = inn s := by rw [encs_len, List.take_length]
  rw [ee, ← parts_inn] at hk
  have hg := gc_lst (M := M) (E := .lst [enc s] :: .lst (encs (inn s)) :: E) cl hk hkl (encs_low _ _)
  walk_at "dn"
end Dn

/-! Cor3: rising once, cores, atoms -/
namespace Dn
open PySem PySem.Spec PyProof.Rows L2
local macro_rules | `(tactic| walk_at "dn") => `(tactic| simp (disch := first | assumption | exact gn_new | exact gn_at1 | exact gn_at2 | exact gn_at | (simp only [lowDs, lowD, enc_low, encs_low, Bool.and_self]; done) | (refine clo_t ?_; have hEn := fun n (E : Mh) (h : lowE E = true) => lowE_all n h; simp only [List.all_cons, List.all_nil, List.length_cons, List.length_nil, lowO, lowDs, lowD, low_ints, low_strs, encs_low, Nat.reduceAdd, Nat.reduceLT, lt_succ, List.all_append, List.length_append, decide_true, *, Bool.and_self, Bool.and_true]; done) | (simp only [Nat.reduceLeDiff, encs_len, List.length_cons, List.length_nil, Nat.reduceAdd, flatD, List.all_cons, List.all_nil, Bool.and_self, Bool.and_true, List.length_append, List.length_set, Nat.lt_add_one, *]; done) | (simp only [Dn.sizeLine_eq, PySem.Str.length_append, Nat.add_zero]; omega) | (simp only [encs_len, List.length_take, List.length_map, List.length_cons, List.length_append, List.length_nil]; omega) | omega) only [ret_run, bad_run, bind_run, noX_run, asB_run, eOp_run, eUn_run, eCb_run, aNil_run, aCons_run, eVar_run, eC_run, tCmpD_run, tTruD_run, tAndD_run, tOrD_run, tNotD_run, tYesD_run, eIf_run, eAnd_run, eOr_run, notD_run, eSl_run, oNone_run, oSome_run, sRet_run, sRetN_run, sExp_run, sNx_run, sBk_run, sCt_run, sIf_run, sSeq_run, sAsg_run, gNm_run, gsNil_run, gsCons_run, gSb_run, gTp_tup, gSt_tup, sPar_run, sFor_run, eComp_run, newT_s, newL_s, one1_run, eqD_run, neD_run, eqC_str, eqC_int, eqC_bl, inE_run, ninE_run, inCE_rod, inCE_tup, ixE_rod, ixE_tup, ixE_ls, ixE_ref, addD_int, addD_strok, addD_tup, addD_ref, subD_int, mulD_ok, fdivD_ok, modD_ok, powD_ok, ltD_int, leD_int, gtD_int, geD_int, truC_bl, lenD_tup, lenD_ref, lenD_ls, tupleD_ref, listD_tupn, listD_ref, gc_l0n, wkOf_tup, wkOf_ref, eJoin_run, eLm_run, setD_ref, atD_0, atD_1, atD_2, atD_3, atD_4, setL_0, setL_1, setL_2, setL_3, gs_eq, gs_ne, ga_lt,  List.length_set, List.length_map, set_app, List.set_set, decide_eq_true_eq, inF_nil, inF_int, inF_str, flatD, List.all_cons, List.all_nil, Bool.and_true, Bool.and_self, Bool.or_false, Bool.or_true, Bool.true_or, Bool.false_or, Int.reduceEq, Int.reduceLT, Int.reduceMod, Int.reduceNeg, st_len, st_app, st_at, wipeD, rng1_s, Dn.sizeLine_eq, Nat.reduceLT, Int.reduceToNat, List.length_range, List.length_take, Nat.min_def, compL_cons, compL_nil, stays_none, List.set_nil, fm_0, fm_1, fm_2, fm_3, fm_4, fm_5, fm_6, fm_7, fm_8, fm_9, fm_10, fm_11, fm_12, fm_13, sortedD_ref, extD_run, allD_ref, anyD_ref, boolsOf_map, negD_int, min2D_int, inCE_dct, inCE_bls, srt_encs, slD_tup, cut_3_2, cut_3_1, cut_2_1, joinD_ref, appD_run, stays_iff,  mkFn_run, List.map_cons, List.map_nil, List.reduceReplicate, gn_new, gn_at, List.append_assoc, gc_str, gc_str0, gc_bl, gc_bl0, gc_int, gc_int0, gc_enc, gc_enc0, gc_tup, gc_tup0, gc_zero, gc_nil, gc_l0, reduceCtorEq, Bool.not_eq_true, eq_self,  List.length_append, encs_len,    strsOf_map, pNil_run, pCons_run, eDisp_run, Option.isSome_some, Option.isSome_none, keysD, keyD, List.zip_cons_cons, List.zip_nil_left, List.zip_nil_right, List.foldl_cons, List.foldl_nil, 
  Nat.reduceAdd, Nat.reduceLeDiff, Nat.reduceEqDiff, Nat.reduceSub, String.reduceEq, reduceIte, Int.reduceLE, Nat.le_refl, ofString_inj, List.set_cons_succ, List.set_cons_zero, List.getElem?_cons_succ, List.getElem?_cons_zero, List.length_cons, List.length_nil, decide_true, decide_false, if_true, if_false, Bool.false_eq_true, List.take_succ_cons, List.take_zero, List.drop_succ_cons, List.drop_zero, List.cons_append, List.nil_append, ne_eq, not_false_eq_true, Bool.not_true, Bool.not_false, *])

noncomputable abbrev oBody : SD := (sIf (tOrD (tCmpD eqD (eVar 1) (eCb newL aNil)) (tCmpD neD (eOp ixE (eVar 1) (eUn negD (eC (.int 1)))) (eVar 2))) (sExp (eLm appD (eVar 1) (aCons (eVar 2) aNil))) sNx)
theorem once_step {N : Mh} {k : Nat} {acc : List Sy} {t : Sy} {x0 : Option D} (hk : N[k]? = some (.lst (encs acc))) (ha : ∀ s, s ∈ acc → Gq s) (ht : Gq t) (hl : acc.length ≤ 100000) :
    oBody [x0, some (.ref k), some (enc t)] N = .ok (.nx, [x0, some (.ref k), some (enc t)]) (N.set k (.lst (encs (if lastIs acc t = true then acc else acc ++ [t]))) ++ [.lst []]) := by
  have hkl := lt_of_get hk
  have hk2 : (N ++ [.lst []])[k]? = some (.lst (encs acc)) := by rw [ga_lt hkl]; exact hk
  have hl2 : acc.length < 16777216 := by omega
  have en := eqC_nilS hk2 (ga_new (M := N)) ha
  unfold oBody
  cases e : acc.getLast? with
  | none =>
    have e1 : acc = [] := List.getLast?_eq_none_iff.mp e
    subst e1
    have e2 : lastIs [] t = false := rfl
    simp only [List.isEmpty_nil, encs] at en hk hk2
    walk_at "dn"
    simp only [encs]
  | some u =>
    have hu : Gq u := ha u (List.mem_of_getLast? e)
    have e1 : acc.isEmpty = false := by cases acc with
      | nil => cases e
      | cons a r => rfl
    have e2 := encs_last e
    have e3 := fun M => eqC_enc (M := M) hu ht
    have e4 : lastIs acc t = PyData.eqv (dat u) (dat t) := by unfold lastIs; simp only [e]
    rw [e1] at en
    rw [e4]
    cases h : PyData.eqv (dat u) (dat t) with
    | true =>
      rw [h] at e3
      walk_at "dn"
      rw [set_self hk]
    | false =>
      rw [h] at e3
      walk_at "dn"
      rw [encs_app]
      simp only [encs]
theorem once_loop {M : Mh} {x0 : Option D} {xs : List D} : ∀ (l acc : List Sy) (y : Option D) (E : Mh), lowE E = true → (∀ s, s ∈ acc → Gq s) → (∀ s, s ∈ l → Gq s) → acc.length + l.length ≤ 100000 →
    ∃ y' E', lowE E' = true ∧ loopD ⟨some (M.length + 1), xs⟩ (gNm 2) oBody (encs l) [x0, some (.ref M.length), y] (M ++ .lst (encs acc) :: .lst xs :: E) = .ok (.nx, [x0, some (.ref M.length), y']) (M ++ .lst (encs (once acc l)) :: .lst xs :: E')
  | [], acc, y, E, hE, ha, hl, hn => ⟨y, E, hE, by rw [encs]; unfold loopD; rw [if_pos (stays_iff.mpr gn_at1), once]⟩
  | t :: l, acc, y, E, hE, ha, hl, hn => by
    rw [List.length_cons] at hn
    have ht := hl t (List.mem_cons_self ..)
    have st := once_step (x0 := x0) (N := M ++ .lst (encs acc) :: .lst xs :: E) gn_new ha ht (by omega)
    rw [set_mid, List.append_assoc, List.cons_append, List.cons_append] at st
    obtain ⟨y', E', hE', e⟩ := once_loop (M := M) (x0 := x0) (xs := xs) l (if lastIs acc t = true then acc else acc ++ [t]) (some (enc t)) (E ++ [.lst []]) (lowE_app hE rfl) (by
      intro s hs
      split at hs
      · exact ha s hs
      · rcases List.mem_append.mp hs with hs | hs
        · exact ha s hs
        · have : s = t := by simpa using hs
          subst this; exact ht) (fun s hs => hl s (List.mem_cons_of_mem _ hs)) (by
      split
      · omega
      · rw [List.length_append, List.length_cons, List.length_nil]; omega)
    refine ⟨y', E', hE', ?_⟩
    rw [encs]
    unfold loopD
    rw [if_pos (stays_iff.mpr gn_at1)]
    simp only [bind_run, gNm_run, List.set_cons_succ, List.set_cons_zero, st]
    rw [e, once]
def OnOk (F : Fn) : Prop := ∀ (l : List Sy) (k : Nat) (M : Mh), Clo M → M[k]? = some (.lst (encs l)) → (∀ s, s ∈ l → Gq s) → l.length ≤ 50000 → F [.ref k] M = .ok (.tup (encs (once [] (srtS l)))) M
def LoOk (F : Fn) : Prop := ∀ (l : List Sy) (k : Nat) (M : Mh), Clo M → M[k]? = some (.lst (encs l)) → (∀ s, s ∈ l → Gq s) → l.length ≤ 50000 → F [.ref k] M = .ok (.ref M.length) (M ++ [.lst (encs (once [] (srtS l)))])
noncomputable def b_ris : SD := (sSeq (sAsg (eCb newL aNil) (gNm 1)) (sSeq (sFor (fun s => ((eCb (one1 sortedD) (aCons (eVar 0) aNil)) s).bind wkOf) (gNm 2) oBody) (sRet (eCb (one1 tupleD) (aCons (eVar 1) aNil)))))
noncomputable def b_lonce : SD := (sSeq (sAsg (eCb newL aNil) (gNm 1)) (sSeq (sFor (fun s => ((eCb (one1 sortedD) (aCons (eVar 0) aNil)) s).bind wkOf) (gNm 2) oBody) (sRet (eVar 1))))
theorem ris_ok : OnOk (mkFn 3 1 b_ris) := by
  intro l k M cl hk hg hl
  have hkl := lt_of_get hk
  have ok := okS_encs fun s hs => (hg s hs).d
  have hp := srtS_perm l
  have hsl : (srtS l).length ≤ 50000 := by rw [hp.length_eq]; exact hl
  have hk2 : (M ++ [.lst []])[k]? = some (.lst (encs l)) := by rw [ga_lt hkl]; exact hk
  obtain ⟨y', E', hE', e⟩ := once_loop (M := M) (x0 := some (.ref k)) (xs := encs (srtS l)) (srtS l) [] none [] rfl (fun s hs => by cases hs) (fun s hs => hg s (hp.mem_iff.mp hs)) (by simp only [List.length_nil]; omega)
  rw [encs] at e
  have hol := once_len (srtS l) []
  rw [List.length_nil] at hol
  have hol2 : (once [] (srtS l)).length ≤ 100000 := by omega
  unfold b_ris
  walk_at "dn"
theorem lonce_ok : LoOk (mkFn 3 1 b_lonce) := by
  intro l k M cl hk hg hl
  have hkl := lt_of_get hk
  have ok := okS_encs fun s hs => (hg s hs).d
  have hp := srtS_perm l
  have hsl : (srtS l).length ≤ 50000 := by rw [hp.length_eq]; exact hl
  have hk2 : (M ++ [.lst []])[k]? = some (.lst (encs l)) := by rw [ga_lt hkl]; exact hk
  obtain ⟨y', E', hE', e⟩ := once_loop (M := M) (x0 := some (.ref k)) (xs := encs (srtS l)) (srtS l) [] none [] rfl (fun s hs => by cases hs) (fun s hs => hg s (hp.mem_iff.mp hs)) (by simp only [List.length_nil]; omega)
  rw [encs] at e
  have hol := once_len (srtS l) []
  rw [List.length_nil] at hol
  have hol2 : (once [] (srtS l)).length ≤ 100000 := by omega
  unfold b_lonce
  walk_at "dn"
/-! ### cores -/
def CoOk (F : Fn) (n : Nat) : Prop := ∀ (s : Sy) (M : Mh), s.dep ≤ n → Clo M → s.sz ≤ 50000 → F [enc s] M = .ok (enc (core s)) M
noncomputable def b_coreof (gi ga gc : Fn) : SD := (sSeq (sAsg (eComp [2] (fun s => ((eCb gi (aCons (eVar 0) aNil)) s).bind wkOf) (gNm 2) tYesD (eCb gc (aCons (eVar 2) aNil))) (gNm 1)) (sSeq (sIf (tCmpD eqD (eOp ixE (eVar 0) (eC (.int 0))) (eC (.str "may"))) (sRet (eCb newT (aCons (eC (.str "not")) (aCons (eCb newT (aCons (eC (.str "must")) (aCons (eOp ixE (eVar 0) (eC (.int 1))) (aCons (eCb newT (aCons (eC (.str "not")) (aCons (eOp ixE (eVar 1) (eC (.int 0))) aNil))) aNil)))) aNil)))) sNx) (sRet (eCb ga (aCons (eVar 0) (aCons (eVar 1) aNil))))))
theorem core_ok {gi ga gc : Fn} {n : Nat} (h0 : InOk gi) (h1 : AnOk ga) (h : CoOk gc n) : CoOk (mkFn 3 1 (b_coreof gi ga gc)) (n + 1) := by
  intro s M hd cl hz
  have e0 := fun M cl => h0 s M cl hz
  have hll := inn_len s
  have hll2 : (inn s).length < 16777216 := by omega
  have cl1 := clo_encs ((inn s).map core) cl
  have e1 := fun k M cl e => h1 core s k M cl e hz
  unfold b_coreof
  walk_at "dn"
  generalize hL : compL _ _ _ _ _ _ _ _ = X
  obtain rfl := comp_of hL core (stays_none.mpr trivial) (fun t ht => by
    have := inn_mem ht
    have e2 := fun M cl => h t M (by omega) cl (by omega)
    walk_at "dn")
  clear hL e0 hll2
  cases s with
  | letter w =>
    simp only [enc, inn, List.map_nil, encs, mp] at e1 cl1 ⊢
    walk_at "dn"
    simp only [core, enc]
  | neg s =>
    simp only [enc, inn, List.map_cons, List.map_nil, encs, mp] at e1 cl1 ⊢
    walk_at "dn"
    simp only [core, enc]
  | conj l =>
    simp only [enc, inn, mp] at e1 cl1 ⊢
    walk_at "dn"
    simp only [core, enc, cores_map]
  | disj l =>
    simp only [enc, inn, mp] at e1 cl1 ⊢
    walk_at "dn"
    simp only [core, enc, cores_map]
  | so s t =>
    simp only [enc, inn, List.map_cons, List.map_nil, encs, mp] at e1 cl1 ⊢
    walk_at "dn"
    simp only [core, enc]
  | must w s =>
    simp only [enc, inn, List.map_cons, List.map_nil, encs, mp] at e1 cl1 ⊢
    walk_at "dn"
    simp only [core, enc]
  | may w s =>
    simp only [enc, inn, List.map_cons, List.map_nil, encs, mp] at e1 cl1 ⊢
    walk_at "dn"
    simp only [core, enc, encs]
  | told s t =>
    simp only [enc, inn, List.map_cons, List.map_nil, encs, mp] at e1 cl1 ⊢
    walk_at "dn"
    simp only [core, enc]
noncomputable def b_lcore (gc : Fn) : SD := (sSeq (sIf (tCmpD eqD (eOp ixE (eVar 0) (eC (.int 0))) (eC (.str "letter"))) (sRet (eVar 0)) sNx) (sSeq (sIf (tCmpD inE (eOp ixE (eVar 0) (eC (.int 0))) (eCb newT (aCons (eC (.str "and")) (aCons (eC (.str "or")) aNil)))) (sRet (eCb newT (aCons (eOp ixE (eVar 0) (eC (.int 0))) (aCons (eCb (one1 tupleD) (aCons (eComp [1] (fun s => ((eOp ixE (eVar 0) (eC (.int 1))) s).bind wkOf) (gNm 1) tYesD (eCb gc (aCons (eVar 1) aNil))) aNil)) aNil)))) sNx) (sSeq (sIf (tCmpD eqD (eOp ixE (eVar 0) (eC (.int 0))) (eC (.str "may"))) (sRet (eCb newT (aCons (eC (.str "not")) (aCons (eCb newT (aCons (eC (.str "must")) (aCons (eOp ixE (eVar 0) (eC (.int 1))) (aCons (eCb newT (aCons (eC (.str "not")) (aCons (eCb gc (aCons (eOp ixE (eVar 0) (eC (.int 2))) aNil)) aNil))) aNil)))) aNil)))) sNx) (sSeq (sIf (tCmpD eqD (eOp ixE (eVar 0) (eC (.int 0))) (eC (.str "must"))) (sRet (eCb newT (aCons (eC (.str "must")) (aCons (eOp ixE (eVar 0) (eC (.int 1))) (aCons (eCb gc (aCons (eOp ixE (eVar 0) (eC (.int 2))) aNil)) aNil))))) sNx) (sRet (eOp addD (eCb newT (aCons (eOp ixE (eVar 0) (eC (.int 0))) aNil)) (eCb (one1 tupleD) (aCons (eComp [1] (fun s => ((eSl (eVar 0) (oSome (eC (.int 1))) oNone) s).bind wkOf) (gNm 1) tYesD (eCb gc (aCons (eVar 1) aNil))) aNil))))))))
theorem lcore_ok {gc : Fn} {n : Nat} (h : CoOk gc n) : CoOk (mkFn 2 1 (b_lcore gc)) (n + 1) := by
  intro s M hd cl hz
  have ec : ∀ t, t ∈ inn s → ∀ M, Clo M → gc [enc t] M = .ok (enc (core t)) M := fun t ht M cl => by
    have := inn_mem ht
    exact h t M (by omega) cl (by omega)
  have hll := inn_len s
  unfold b_lcore
  cases s with
  | letter w =>
    simp only [enc, core]
    walk_at "dn"
  | neg s =>
    have e1 := ec s (by simp [inn])
    simp only [enc, core]
    walk_at "dn"
  | conj l =>
    simp only [inn] at hll
    have hll2 : l.length < 16777216 := by omega
    simp only [enc, core, cores_map]
    walk_at "dn"
    generalize hL : compL _ _ _ _ _ _ _ _ = X
    obtain rfl := comp_of hL core (stays_none.mpr trivial) (fun t ht => by
      have e1 := ec t ht
      walk_at "dn")
    walk_at "dn"
  | disj l =>
    simp only [inn] at hll
    have hll2 : l.length < 16777216 := by omega
    simp only [enc, core, cores_map]
    walk_at "dn"
    generalize hL : compL _ _ _ _ _ _ _ _ = X
    obtain rfl := comp_of hL core (stays_none.mpr trivial) (fun t ht => by
      have e1 := ec t ht
      walk_at "dn")
    walk_at "dn"
  | so s t =>
    have e1 := ec s (by simp [inn])
    have e2 := ec t (by simp [inn])
    simp only [enc, core]
    walk_at "dn"
  | must w s =>
    have e1 := ec s (by simp [inn])
    simp only [enc, core]
    walk_at "dn"
  | may w s =>
    have e1 := ec s (by simp [inn])
    simp only [enc, core]
    walk_at "dn"
  | told s t =>
    have e1 := ec s (by simp [inn])
    have e2 := ec t (by simp [inn])
    simp only [enc, core]
    walk_at "dn"
/-! ### atoms -/
theorem Gq.core {s : Sy} (hw : s.okw Shrt) (hz : s.sz ≤ 33) (hd : s.dep ≤ 10) : Gq (core s) := ⟨core_okw s hw, by have := core_sz s; omega, by have := core_dep s; omega⟩
def AtOk (F : Fn) : Prop := ∀ (s : Sy) (M : Mh), Clo M → s.okw Shrt → s.sz ≤ 33 → s.dep ≤ 10 → F [enc s] M = .ok (.tup (encs (atoms s))) M
def LaOk (F : Fn) : Prop := ∀ (s : Sy) (M : Mh), Clo M → s.okw Shrt → s.sz ≤ 33 → s.dep ≤ 10 → F [enc s] M = .ok (.ref M.length) (M ++ [.lst (encs (atoms s))])
noncomputable def b_atoms (gp gr gc : Fn) : SD := (sRet (eCb gr (aCons (eComp [1] (fun s => ((eCb gp (aCons (eCb gc (aCons (eVar 0) aNil)) aNil)) s).bind wkOf) (gNm 1) (tCmpD inE (eOp ixE (eVar 1) (eC (.int 0))) (eC (.tup [(.str "letter"), (.str "must")]))) (eVar 1)) aNil)))
noncomputable def b_latoms (gp gr gc : Fn) : SD := (sRet (eCb gr (aCons (eComp [1] (fun s => ((eCb gp (aCons (eCb gc (aCons (eVar 0) aNil)) aNil)) s).bind wkOf) (gNm 1) (tCmpD inE (eOp ixE (eVar 1) (eC (.int 0))) (eCb newT (aCons (eC (.str "letter")) (aCons (eC (.str "must")) aNil)))) (eVar 1)) aNil)))
theorem atoms_ok {gp gr gc : Fn} (hp : PtOk gp 30) (hr : OnOk gr) (hc : CoOk gc 10) : AtOk (mkFn 2 1 (b_atoms gp gr gc)) := by
  intro s M cl hw hz hd
  have gq := Gq.core hw hz hd
  have e1 := hc s M hd cl (by omega)
  have e2 := hp (core s) M gq.d cl (by have := gq.z; omega)
  have hl := parts_len (core s)
  have hz2 := gq.z
  have hl2 : (core s).sz < 16777216 := by omega
  have cl1 := clo_encs (parts (core s)) cl
  have cl2 := clo_encs ((parts (core s)).filter isAt) cl1
  have e3 := hr ((parts (core s)).filter isAt) _ _ cl2 ga_new (fun t ht => gq.parts t (List.mem_filter.mp ht).1) (by
    have := List.length_filter_le isAt (parts (core s))
    omega)
  rw [List.append_assoc] at e3
  have e3 : gr [.ref (List.length (M ++ [.lst (encs (parts (core s)))]))] (M ++ [.lst (encs (parts (core s))), .lst (encs ((parts (core s)).filter isAt))]) = .ok (.tup (encs (atoms s))) (M ++ [.lst (encs (parts (core s))), .lst (encs ((parts (core s)).filter isAt))]) := e3
  rw [List.length_append] at e3
  have e3 : gr [.ref (M.length + 1)] (M ++ [.lst (encs (parts (core s))), .lst (encs ((parts (core s)).filter isAt))]) = .ok (.tup (encs (atoms s))) (M ++ [.lst (encs (parts (core s))), .lst (encs ((parts (core s)).filter isAt))]) := e3
  unfold b_atoms
  walk_at "dn"
  generalize hL : compL _ _ _ _ _ _ _ _ = X
  obtain rfl := filt_of hL isAt (stays_iff.mpr gn_new) (fun t ht => by
    cases t <;> simp only [enc, isAt] <;> walk_at "dn") (fun t ht => by walk_at "dn")
  clear hL
  walk_at "dn"
theorem latoms_ok {gp gr gc : Fn} (hp : PtOk gp 30) (hr : LoOk gr) (hc : CoOk gc 10) : LaOk (mkFn 2 1 (b_latoms gp gr gc)) := by
  intro s M cl hw hz hd
  have gq := Gq.core hw hz hd
  have e1 := hc s M hd cl (by omega)
  have e2 := hp (core s) M gq.d cl (by have := gq.z; omega)
  have hl := parts_len (core s)
  have hz2 := gq.z
  have hl2 : (core s).sz < 16777216 := by omega
  have cl1 := clo_encs (parts (core s)) cl
  have cl2 := clo_encs ((parts (core s)).filter isAt) cl1
  have e3 := hr ((parts (core s)).filter isAt) _ _ cl2 ga_new (fun t ht => gq.parts t (List.mem_filter.mp ht).1) (by
    have := List.length_filter_le isAt (parts (core s))
    omega)
  rw [List.append_assoc] at e3
  have e3 : gr [.ref (List.length (M ++ [.lst (encs (parts (core s)))]))] (M ++ [.lst (encs (parts (core s))), .lst (encs ((parts (core s)).filter isAt))]) = .ok (.ref (List.length (M ++ [.lst (encs (parts (core s))), .lst (encs ((parts (core s)).filter isAt))]))) ((M ++ [.lst (encs (parts (core s))), .lst (encs ((parts (core s)).filter isAt))]) ++ [.lst (encs (atoms s))]) := e3
  rw [List.length_append, List.length_append, List.append_assoc] at e3
  have e3 : gr [.ref (M.length + 1)] (M ++ [.lst (encs (parts (core s))), .lst (encs ((parts (core s)).filter isAt))]) = .ok (.ref (M.length + 2)) (M ++ [.lst (encs (parts (core s))), .lst (encs ((parts (core s)).filter isAt)), .lst (encs (atoms s))]) := e3
  have hg := gc_lst (M := M) (E := [.lst (encs (parts (core s))), .lst (encs ((parts (core s)).filter isAt)), .lst (encs (atoms s))]) cl gn_at2 (by omega) (encs_low _ _)
  unfold b_latoms
  walk_at "dn"
  generalize hL : compL _ _ _ _ _ _ _ _ = X
  obtain rfl := filt_of hL isAt (stays_iff.mpr gn_new) (fun t ht => by
    cases t <;> simp only [enc, isAt] <;> walk_at "dn") (fun t ht => by walk_at "dn")
  clear hL
  walk_at "dn"
end Dn

/-! Cor4: what a core comes to by truths -/
namespace Dn
open PySem PySem.Spec PyProof.Rows L2
/-! the texts of atoms begin otherwise than those of others -/
def cp2 (x : Str) : Option Nat := x.cps.toList[2]?
theorem cps_app (x y : Str) : (x ++ y).cps.toList = x.cps.toList ++ y.cps.toList := by
  show (x.cps ++ y.cps).toList = _
  rw [Array.toList_append]
theorem join_head (a t : Str) (ts : List Str) : ∃ r : Str, Str.join a (t :: ts) = t ++ r := by
  cases ts with
  | nil => exact ⟨Str.ofString "", (PySem.Str.append_empty t).symm⟩
  | cons u ts => exact ⟨a ++ Str.join a (u :: ts), by
      show t ++ a ++ Str.join a (u :: ts) = _
      rw [PySem.Str.append_assoc]⟩
theorem shown_cp2 {t : Str} {ts : List Str} {c : Nat} (h : t.cps.toList[1]? = some c) : cp2 (tupleText (t :: ts)) = some c := by
  unfold cp2 tupleText
  obtain ⟨r, e⟩ := join_head ", " t ts
  rw [e, cps_app, cps_app, cps_app]
  have h1 : (("(" : Str)).cps.toList = [40] := by decide +kernel
  rw [h1]
  simp only [List.cons_append, List.nil_append, List.getElem?_cons_succ]
  have hl := (List.getElem?_eq_some_iff.mp h).1
  rw [List.append_assoc, List.getElem?_append_left hl]
  exact h
theorem cp2_at {s : Sy} (h : isAt s = true) : cp2 (dat s).shown = some 108 ∨ cp2 (dat s).shown = some 109 := by
  cases s with
  | letter w => left; simp only [dat, PyData.shown, PyData.shownAll]; exact shown_cp2 (by decide +kernel)
  | must w s => right; simp only [dat, PyData.shown, PyData.shownAll]; exact shown_cp2 (by decide +kernel)
  | _ => cases h
theorem cp2_no {s : Sy} (h : isAt s = false) (hc : s.cor = true) : cp2 (dat s).shown ≠ some 108 ∧ cp2 (dat s).shown ≠ some 109 := by
  cases s with
  | neg s =>
    have : cp2 (dat (.neg s)).shown = some 110 := by simp only [dat, PyData.shown, PyData.shownAll]; exact shown_cp2 (by decide +kernel)
    rw [this]; decide
  | conj s =>
    have : cp2 (dat (.conj s)).shown = some 97 := by simp only [dat, PyData.shown, PyData.shownAll]; exact shown_cp2 (by decide +kernel)
    rw [this]; decide
  | disj s =>
    have : cp2 (dat (.disj s)).shown = some 111 := by simp only [dat, PyData.shown, PyData.shownAll]; exact shown_cp2 (by decide +kernel)
    rw [this]; decide
  | so s t =>
    have : cp2 (dat (.so s t)).shown = some 115 := by simp only [dat, PyData.shown, PyData.shownAll]; exact shown_cp2 (by decide +kernel)
    rw [this]; decide
  | letter w => cases h
  | must w s => cases h
  | may w s => cases hc
  | told s t => cases hc
local macro_rules | `(tactic| walk_at "dn") => `(tactic| simp (disch := first | assumption | exact gn_new | exact gn_at1 | exact gn_at2 | exact gn_at | (simp only [lowDs, lowD, enc_low, encs_low, Bool.and_self]; done) | (refine clo_t ?_; have hEn := fun n (E : Mh) (h : lowE E = true) => lowE_all n h; simp only [List.all_cons, List.all_nil, List.length_cons, List.length_nil, lowO, lowDs, lowD, low_ints, low_strs, encs_low, Nat.reduceAdd, Nat.reduceLT, lt_succ, List.all_append, List.length_append, decide_true, *, Bool.and_self, Bool.and_true]; done) | (simp only [Nat.reduceLeDiff, encs_len, List.length_cons, List.length_nil, Nat.reduceAdd, flatD, List.all_cons, List.all_nil, Bool.and_self, Bool.and_true, List.length_append, List.length_set, Nat.lt_add_one, *]; done) | (simp only [Dn.sizeLine_eq, PySem.Str.length_append, Nat.add_zero]; omega) | (simp only [encs_len, List.length_take, List.length_map, List.length_cons, List.length_append, List.length_nil]; omega) | omega) only [ret_run, bad_run, bind_run, noX_run, asB_run, eOp_run, eUn_run, eCb_run, aNil_run, aCons_run, eVar_run, eC_run, tCmpD_run, tTruD_run, tAndD_run, tOrD_run, tNotD_run, tYesD_run, eIf_run, eAnd_run, eOr_run, notD_run, eSl_run, oNone_run, oSome_run, sRet_run, sRetN_run, sExp_run, sNx_run, sBk_run, sCt_run, sIf_run, sSeq_run, sAsg_run, gNm_run, gsNil_run, gsCons_run, gSb_run, gTp_tup, gSt_tup, sPar_run, sFor_run, eComp_run, newT_s, newL_s, one1_run, eqD_run, neD_run, eqC_str, eqC_int, eqC_bl, inE_run, ninE_run, inCE_rod, inCE_tup, ixE_rod, ixE_tup, ixE_ls, ixE_ref, addD_int, addD_strok, addD_tup, addD_ref, subD_int, mulD_ok, fdivD_ok, modD_ok, powD_ok, ltD_int, leD_int, gtD_int, geD_int, truC_bl, lenD_tup, lenD_ref, lenD_ls, tupleD_ref, listD_tupn, listD_ref, gc_l0n, wkOf_tup, wkOf_ref, eJoin_run, eLm_run, setD_ref, atD_0, atD_1, atD_2, atD_3, atD_4, setL_0, setL_1, setL_2, setL_3, gs_eq, gs_ne, ga_lt,  List.length_set, List.length_map, set_app, List.set_set, decide_eq_true_eq, inF_nil, inF_int, inF_str, flatD, List.all_cons, List.all_nil, Bool.and_true, Bool.and_self, Bool.or_false, Bool.or_true, Bool.true_or, Bool.false_or, Int.reduceEq, Int.reduceLT, Int.reduceMod, Int.reduceNeg, st_len, st_app, st_at, wipeD, rng1_s, Dn.sizeLine_eq, Nat.reduceLT, Int.reduceToNat, List.length_range, List.length_take, Nat.min_def, compL_cons, compL_nil, stays_none, List.set_nil, fm_0, fm_1, fm_2, fm_3, fm_4, fm_5, fm_6, fm_7, fm_8, fm_9, fm_10, fm_11, fm_12, fm_13, sortedD_ref, extD_run, allD_ref, anyD_ref, boolsOf_map, negD_int, min2D_int, inCE_dct, inCE_bls, srt_encs, slD_tup, cut_3_2, cut_3_1, cut_2_1, Option.bind_some, inF_false, inF_true, Option.isSome_some, joinD_ref, appD_run, stays_iff,  mkFn_run, List.map_cons, List.map_nil, List.reduceReplicate, gn_new, gn_at, List.append_assoc, gc_str, gc_str0, gc_bl, gc_bl0, gc_int, gc_int0, gc_enc, gc_enc0, gc_tup, gc_tup0, gc_zero, gc_nil, gc_l0, reduceCtorEq, Bool.not_eq_true, eq_self,  List.length_append, encs_len,    strsOf_map, pNil_run, pCons_run, eDisp_run, Option.isSome_some, Option.isSome_none, keysD, keyD, List.zip_cons_cons, List.zip_nil_left, List.zip_nil_right, List.foldl_cons, List.foldl_nil, 
  Nat.reduceAdd, Nat.reduceLeDiff, Nat.reduceEqDiff, Nat.reduceSub, String.reduceEq, reduceIte, Int.reduceLE, Nat.le_refl, ofString_inj, List.set_cons_succ, List.set_cons_zero, List.getElem?_cons_succ, List.getElem?_cons_zero, List.length_cons, List.length_nil, decide_true, decide_false, if_true, if_false, Bool.false_eq_true, List.take_succ_cons, List.take_zero, List.drop_succ_cons, List.drop_zero, List.cons_append, List.nil_append, ne_eq, not_false_eq_true, Bool.not_true, Bool.not_false, *])

/-- the dict tells the truths of the atoms -/
structure Tr (kvs : List (Key × D)) (v : Str → Bool) (c : Sy) : Prop where
  look : ∀ a, a ∈ parts c → isAt a = true → dLook kvs (.inr (dat a).shown) = some (.bl (v (dat a).shown))
  keys : ∀ kv, kv ∈ kvs → ∃ a, isAt a = true ∧ kv.1 = .inr (dat a).shown
theorem Tr.inn {kvs : List (Key × D)} {v : Str → Bool} {c t : Sy} (h : Tr kvs v c) (ht : t ∈ inn c) : Tr kvs v t :=
  ⟨fun a ha => h.look a (by rw [parts_inn]; exact List.mem_cons_of_mem _ (partss_mem ht ha)), h.keys⟩
theorem Tr.self {kvs : List (Key × D)} {v : Str → Bool} {c : Sy} (h : Tr kvs v c) (ha : isAt c = true) : dLook kvs (.inr (dat c).shown) = some (.bl (v (dat c).shown)) := h.look c (by rw [parts_inn]; exact List.mem_cons_self ..) ha
theorem Tr.no {kvs : List (Key × D)} {v : Str → Bool} {c : Sy} (h : Tr kvs v c) (ha : isAt c = false) (hc : c.cor = true) : dLook kvs (.inr (dat c).shown) = none := by
  cases e : dLook kvs (.inr (dat c).shown) with
  | none => rfl
  | some d =>
    obtain ⟨kv, hkv, ek⟩ := look_key e
    obtain ⟨a, ha2, ek2⟩ := h.keys kv hkv
    have e3 : (dat a).shown = (dat c).shown := by
      rw [ek] at ek2
      exact (Sum.inr.inj ek2).symm
    have h1 := cp2_at ha2
    have h2 := cp2_no ha hc
    rw [e3] at h1
    rcases h1 with h1 | h1
    · exact (h2.1 h1).elim
    · exact (h2.2 h1).elim
def TeOk (F : Fn) (n : Nat) : Prop := ∀ (c : Sy) (v : Str → Bool) (kvs : List (Key × D)) (k : Nat) (M : Mh), c.dep ≤ n → Clo M → Gq c → c.cor = true → M[k]? = some (.dct kvs) → Tr kvs v c → F [enc c, .ref k] M = .ok (.bl (tel v c)) M
theorem Gq.inn {s t : Sy} (h : Gq s) (ht : t ∈ inn s) : Gq t := by
  have := inn_mem ht
  have := h.z; have := h.d
  exact ⟨inn_okw h.w ht, by omega, by omega⟩
noncomputable def b_ctells (gt : Fn) : SD := (sSeq (sAsg (eVar 0) (gSt 2 (gsCons (gNm 2) (gsCons (gNm 3) (gsCons (gNm 4) gsNil))))) (sSeq (sIf (tCmpD inE (eVar 2) (eC (.tup [(.str "letter"), (.str "must")]))) (sRet (eOp ixE (eVar 1) (eCb (one1 reprD) (aCons (eVar 0) aNil)))) sNx) (sSeq (sIf (tCmpD eqD (eVar 2) (eC (.str "not"))) (sRet (eUn notD (eCb gt (aCons (eVar 3) (aCons (eVar 1) aNil))))) sNx) (sSeq (sIf (tCmpD eqD (eVar 2) (eC (.str "and"))) (sRet (eCb (one1 allD) (aCons (eComp [5] (fun s => ((eVar 3) s).bind wkOf) (gNm 5) tYesD (eCb gt (aCons (eVar 5) (aCons (eVar 1) aNil)))) aNil))) sNx) (sSeq (sIf (tCmpD eqD (eVar 2) (eC (.str "or"))) (sRet (eCb (one1 anyD) (aCons (eComp [5] (fun s => ((eVar 3) s).bind wkOf) (gNm 5) tYesD (eCb gt (aCons (eVar 5) (aCons (eVar 1) aNil)))) aNil))) sNx) (sRet (eOr (eCb gt (aCons (eOp ixE (eVar 4) (eC (.int 0))) (aCons (eVar 1) aNil))) (eUn notD (eCb gt (aCons (eVar 3) (aCons (eVar 1) aNil)))))))))))
theorem ctells_ok {gt : Fn} {n : Nat} (h : TeOk gt n) : TeOk (mkFn 6 2 (b_ctells gt)) (n + 1) := by
  intro c v kvs k M hd cl gq hc hk tr
  have hkl := lt_of_get hk
  have hz := gq.z
  have ec : ∀ t, t ∈ inn c → t.cor = true → ∀ E : Mh, lowE E = true → gt [enc t, .ref k] (M ++ E) = .ok (.bl (tel v t)) (M ++ E) := fun t ht hct E hE => by
    have := inn_mem ht
    exact h t v kvs k _ (by omega) (Clo_appE cl hE) (gq.inn ht) hct (by rw [ga_lt hkl]; exact hk) (tr.inn ht)
  unfold b_ctells
  cases c with
  | letter w =>
    have er := fun M => gq.repr (M := M)
    have el := tr.self rfl
    simp only [enc, tel] at er ⊢
    walk_at "dn"
  | must w s =>
    have er := fun M => gq.repr (M := M)
    have el := tr.self rfl
    simp only [enc, tel] at er ⊢
    walk_at "dn"
  | neg s =>
    have e1 := ec s (by simp [inn]) hc [.lst []] rfl
    simp only [enc, tel]
    walk_at "dn"
  | conj l =>
    have hll := len_sz l
    simp only [Sy.sz] at hz
    have hll2 : l.length < 16777216 := by omega
    simp only [enc, tel, tels_map]
    walk_at "dn"
    generalize hL : compL _ _ _ _ _ _ _ _ = X
    obtain rfl := bls_of hL (tel v) (stays_none.mpr trivial) (fun t ht => by
      have e1 := ec t ht (mem_cor hc ht) [.lst []] rfl
      walk_at "dn")
    clear hL
    walk_at "dn"
  | disj l =>
    have hll := len_sz l
    simp only [Sy.sz] at hz
    have hll2 : l.length < 16777216 := by omega
    simp only [enc, tel, tels_map]
    walk_at "dn"
    generalize hL : compL _ _ _ _ _ _ _ _ = X
    obtain rfl := bls_of hL (tel v) (stays_none.mpr trivial) (fun t ht => by
      have e1 := ec t ht (mem_cor hc ht) [.lst []] rfl
      walk_at "dn")
    clear hL
    walk_at "dn"
  | so s t =>
    have hc2 : (s.cor && t.cor) = true := hc
    rw [Bool.and_eq_true] at hc2
    have e1 := ec s (by simp [inn]) hc2.1 [.lst [enc t]] (by unfold lowE; simp only [List.all_cons, List.all_nil, lowO, lowDs, enc_low, Bool.and_self])
    have e2 := ec t (by simp [inn]) hc2.2 [.lst [enc t]] (by unfold lowE; simp only [List.all_cons, List.all_nil, lowO, lowDs, enc_low, Bool.and_self])
    simp only [enc, tel]
    cases h1 : tel v t with
    | true =>
      rw [h1] at e2
      walk_at "dn"
    | false =>
      rw [h1] at e2
      walk_at "dn"
  | may w s => cases hc
  | told s t => cases hc
noncomputable def b_lcomes (gt : Fn) : SD := (sSeq (sIf (tCmpD inE (eCb (one1 reprD) (aCons (eVar 0) aNil)) (eVar 1)) (sRet (eOp ixE (eVar 1) (eCb (one1 reprD) (aCons (eVar 0) aNil)))) sNx) (sSeq (sIf (tCmpD eqD (eOp ixE (eVar 0) (eC (.int 0))) (eC (.str "not"))) (sRet (eUn notD (eCb gt (aCons (eOp ixE (eVar 0) (eC (.int 1))) (aCons (eVar 1) aNil))))) sNx) (sSeq (sIf (tCmpD eqD (eOp ixE (eVar 0) (eC (.int 0))) (eC (.str "so"))) (sRet (eOr (eUn notD (eCb gt (aCons (eOp ixE (eVar 0) (eC (.int 1))) (aCons (eVar 1) aNil)))) (eCb gt (aCons (eOp ixE (eVar 0) (eC (.int 2))) (aCons (eVar 1) aNil))))) sNx) (sSeq (sAsg (eComp [3] (fun s => ((eOp ixE (eVar 0) (eC (.int 1))) s).bind wkOf) (gNm 3) tYesD (eCb gt (aCons (eVar 3) (aCons (eVar 1) aNil)))) (gNm 2)) (sRet (eIf (tCmpD eqD (eOp ixE (eVar 0) (eC (.int 0))) (eC (.str "and"))) (eOp ninE (eC (.bl false)) (eVar 2)) (eOp inE (eC (.bl true)) (eVar 2))))))))
theorem lcomes_ok {gt : Fn} {n : Nat} (h : TeOk gt n) : TeOk (mkFn 4 2 (b_lcomes gt)) (n + 1) := by
  intro c v kvs k M hd cl gq hc hk tr
  have hkl := lt_of_get hk
  have hz := gq.z
  have ec : ∀ t, t ∈ inn c → t.cor = true → gt [enc t, .ref k] M = .ok (.bl (tel v t)) M := fun t ht hct => by
    have := inn_mem ht
    exact h t v kvs k _ (by omega) cl (gq.inn ht) hct hk (tr.inn ht)
  have er := fun M => gq.repr (M := M)
  unfold b_lcomes
  cases c with
  | letter w =>
    have el := tr.self rfl
    simp only [enc, tel] at er ⊢
    walk_at "dn"
  | must w s =>
    have el := tr.self rfl
    simp only [enc, tel] at er ⊢
    walk_at "dn"
  | neg s =>
    have el := tr.no rfl hc
    have e1 := ec s (by simp [inn]) hc
    simp only [enc, tel] at er ⊢
    walk_at "dn"
  | conj l =>
    have el := tr.no rfl hc
    have hll := len_sz l
    simp only [Sy.sz] at hz
    have hll2 : l.length < 16777216 := by omega
    simp only [enc, tel, tels_map] at er ⊢
    walk_at "dn"
    generalize hL : compL _ _ _ _ _ _ _ _ = X
    obtain rfl := bls_of hL (tel v) (stays_none.mpr trivial) (fun t ht => by
      have e1 := ec t ht (mem_cor hc ht)
      walk_at "dn")
    clear hL
    walk_at "dn"
  | disj l =>
    have el := tr.no rfl hc
    have hll := len_sz l
    simp only [Sy.sz] at hz
    have hll2 : l.length < 16777216 := by omega
    simp only [enc, tel, tels_map] at er ⊢
    walk_at "dn"
    generalize hL : compL _ _ _ _ _ _ _ _ = X
    obtain rfl := bls_of hL (tel v) (stays_none.mpr trivial) (fun t ht => by
      have e1 := ec t ht (mem_cor hc ht)
      walk_at "dn")
    clear hL
    walk_at "dn"
  | so s t =>
    have el := tr.no rfl hc
    have hc2 : (s.cor && t.cor) = true := hc
    rw [Bool.and_eq_true] at hc2
    have e1 := ec s (by simp [inn]) hc2.1
    have e2 := ec t (by simp [inn]) hc2.2
    simp only [enc, tel] at er ⊢
    cases h1 : tel v s with
    | true =>
      rw [h1] at e1
      walk_at "dn"
    | false =>
      rw [h1] at e1
      walk_at "dn"
  | may w s => cases hc
  | told s t => cases hc
/-! ### truths by texts -/
theorem zprD_cons (x y : D) (xs ys : List D) : zprD (x :: xs) (y :: ys) = .tup [x, y] :: zprD xs ys := rfl
theorem compK_zip {M : Mh} {zs : List D} {x0 x1 : Option D} : ∀ (l : List Sy) (bs : List Bool) (acc : List (Key × D)), l.length = bs.length → (∀ s, s ∈ l → Gq s) →
    compK ⟨none, zs⟩ (gTp 2 (gsCons (gNm 2) (gsCons (gNm 3) gsNil))) tYesD (eCb (one1 reprD) (aCons (eVar 2) aNil)) (eVar 3) [x0, x1, none, none] (zprD (encs l) (bs.map D.bl)) acc M = .ok (mergeD acc (zipK l bs)) M
  | [], [], acc, _, _ => by
    show compK _ _ _ _ _ _ [] acc M = _
    rw [compK_nil, if_pos (stays_none.mpr trivial)]; rfl
  | [], b :: bs, acc, e, _ => by cases e
  | s :: l, [], acc, e, _ => by cases e
  | s :: l, b :: bs, acc, e, h => by
    have er := (h s (List.mem_cons_self ..)).repr (M := M)
    rw [encs, List.map_cons, zprD_cons, compK_cons, if_pos (stays_none.mpr trivial)]
    have e1 : gTp 2 (gsCons (gNm 2) (gsCons (gNm 3) gsNil)) (.tup [enc s, .bl b]) [x0, x1, none, none] M = .ok [x0, x1, some (enc s), some (.bl b)] M := by
      walk_at "dn"
    simp only [bind_run, noX_run, e1, tYesD_run, if_true, eCb_run, aCons_run, aNil_run, eVar_run, List.getElem?_cons_succ, List.getElem?_cons_zero, one1_run, er, keyD]
    exact compK_zip l bs (putD acc (.inr (dat s).shown) (.bl b)) (by simpa using e) fun t ht => h t (List.mem_cons_of_mem _ ht)
noncomputable def b_truths : SD := (sRet (eDcomp [2, 3] (fun s => ((aCons (eVar 0) (aCons (eVar 1) aNil)) s).bind zipW) (gTp 2 (gsCons (gNm 2) (gsCons (gNm 3) gsNil))) tYesD (eCb (one1 reprD) (aCons (eVar 2) aNil)) (eVar 3)))
def TbOk (F : Fn) : Prop := ∀ (l : List Sy) (bs : List Bool) (M : Mh), Clo M → (∀ s, s ∈ l → Gq s) → l.length = bs.length → l.length ≤ 50000 → F [.tup (encs l), .tup (bs.map D.bl)] M = .ok (.ref M.length) (M ++ [.dct (kvOf l bs)])
theorem eDcomp_run {s : Sl} {M : Mh} (vs : List Nat) (tw : WD) (g : GD) (tt : TD) (tk te : ED) : eDcomp vs tw g tt tk te s M = match tw s M with
  | .bad => .bad
  | .ok w M1 => if w.items.length < sizeLine then (match compK w g tt tk te (wipeD s vs) w.items [] M1 with
    | .bad => .bad
    | .ok kvs M2 => .ok (.ref M2.length) (M2 ++ [.dct kvs])
    | .exc c fs M2 => .exc c fs M2) else .bad
  | .exc c fs M1 => .exc c fs M1 := by
  unfold eDcomp
  rw [bind_run]
  cases tw s M with
  | ok w M1 =>
    simp only
    split
    · rw [bind_run]
      cases compK w g tt tk te (wipeD s vs) w.items [] M1 <;> rfl
    · rfl
  | _ => rfl
theorem truths_ok : TbOk (mkFn 4 2 b_truths) := by
  intro l bs M cl hg e hl
  have ez : zipW [.tup (encs l), .tup (bs.map D.bl)] M = .ok ⟨none, zprD (encs l) (bs.map D.bl)⟩ M := by
    unfold zipW zip2W tupOf
    simp only [encs_len, List.length_map, e, if_true]
    rfl
  have hzl : (zprD (encs l) (bs.map D.bl)).length < 16777216 := by
    unfold zprD
    rw [List.length_zipWith, encs_len]; omega
  have ek := compK_zip (M := M) (zs := zprD (encs l) (bs.map D.bl)) (x0 := some (.tup (encs l))) (x1 := some (.tup (bs.map D.bl))) l bs [] e hg
  have hg2 : gcD M.length (.ref M.length) (M ++ [.dct (kvOf l bs)]) = .ok (.ref M.length) (M ++ [.dct (kvOf l bs)]) := gc_new cl rfl ga_new (Nat.le_refl _) (lowO_mono (Nat.zero_le _) (low_kvOf l bs))
  refine mkFn_ok (s' := [some (.tup (encs l)), some (.tup (bs.map D.bl)), none, none]) (M' := M ++ [.dct (kvOf l bs)]) (d := .ref M.length) rfl ?_ hg2
  unfold b_truths
  simp only [sRet_run, eDcomp_run, bind_run, aCons_run, aNil_run, eVar_run, List.map_cons, List.map_nil, List.cons_append, List.nil_append, List.getElem?_cons_zero, List.getElem?_cons_succ, List.reduceReplicate, Nat.reduceSub, ez, hzl, Dn.sizeLine_eq, if_true, wipeD, List.foldl_cons, List.foldl_nil, List.set_cons_succ, List.set_cons_zero]
  rw [ek]
  rfl
/-! ### a sort tells -/
def StOk (F : Fn) : Prop := ∀ (s : Sy) (bs : List Bool) (M : Mh), Clo M → s.plain = true → s.okw Shrt → s.sz ≤ 33 → s.dep ≤ 10 → (atoms s).length = bs.length → F [enc s, .tup (bs.map D.bl)] M = .ok (.bl (tel (valOf (kvOf (atoms s) bs)) (core s))) M
theorem tr_atoms {s : Sy} {bs : List Bool} (e : (atoms s).length = bs.length) : Tr (kvOf (atoms s) bs) (valOf (kvOf (atoms s) bs)) (core s) :=
  ⟨fun a ha ia => by
    obtain ⟨u, hu, ed⟩ := atoms_has ha ia
    rw [← ed]
    exact kvOf_look e hu, fun kv hkv => by
    obtain ⟨t, b, ht, rfl⟩ := kvOf_mem hkv
    exact ⟨t, (atoms_mem ht).2, rfl⟩⟩
noncomputable def b_stells (gt gc gb ga : Fn) : SD := (sRet (eCb gt (aCons (eCb gc (aCons (eVar 0) aNil)) (aCons (eCb gb (aCons (eCb ga (aCons (eVar 0) aNil)) (aCons (eVar 1) aNil))) aNil))))
theorem stells_ok {gt gc gb ga : Fn} (ht : TeOk gt 30) (hc : CoOk gc 10) (hb : TbOk gb) (ha : AtOk ga) : StOk (mkFn 2 2 (b_stells gt gc gb ga)) := by
  intro s bs M cl hp hw hz hd e
  have gq := Gq.core hw hz hd
  have e1 := hc s M hd cl (by omega)
  have e2 := ha s M cl hw hz hd
  have hal := atoms_len s
  have hz2 := gq.z
  have e3 := hb (atoms s) bs M cl (fun t ht => gq.parts t (atoms_mem ht).1) e (by omega)
  have e4 := ht (core s) (valOf (kvOf (atoms s) bs)) (kvOf (atoms s) bs) M.length (M ++ [.dct (kvOf (atoms s) bs)]) gq.d (Clo_app cl (low_kvOf _ _)) gq (core_cor s hp) ga_new (tr_atoms e)
  unfold b_stells
  walk_at "dn"
end Dn

/-! Thg: things of any kind, by their data -/
namespace Dn
open PySem PySem.Spec PyProof.Rows L2
mutual
/-- its texts are short -/
def txs : PyData → Bool
  | .str z => decide (z.length ≤ 1000)
  | .list xs => decide (xs.length ≤ 10000) && txsAll xs
  | .tuple xs => decide (xs.length ≤ 10000) && txsAll xs
  | .dict _ => false
  | _ => true
def txsAll : List PyData → Bool
  | [] => true
  | x :: xs => txs x && txsAll xs
end
/-- what stands at n, the law's own two lists put aside -/
def hQ (M : Mh) : Nat → Nat → Option PyData
  | 0, _ => none
  | j + 1, n => if n ≤ 1 then none else match M[n]? with
    | some (.lst ds) => (toPs (hQ M j) ds).map PyData.list
    | _ => none
structure G (M : Mh) (j : Nat) (d : D) (p : PyData) : Prop where
  t : toP (hQ M j) d = some p
  c : p.canLay0 = true
  x : txs p = true
mutual
theorem toP_mono {h h' : Nat → Option PyData} (hh : ∀ n q, h n = some q → h' n = some q) : ∀ (d : D) (p : PyData), toP h d = some p → toP h' d = some p
  | .non, p, e => e
  | .bl b, p, e => e
  | .int i, p, e => e
  | .str x, p, e => e
  | .tup ds, p, e => by
    simp only [toP, Option.map_eq_some_iff] at e ⊢
    obtain ⟨ps, e1, e2⟩ := e
    exact ⟨ps, toPs_mono hh ds ps e1, e2⟩
  | .ls ds, p, e => by
    simp only [toP, Option.map_eq_some_iff] at e ⊢
    obtain ⟨ps, e1, e2⟩ := e
    exact ⟨ps, toPs_mono hh ds ps e1, e2⟩
  | .ref n, p, e => hh n p e
  | .glo _, _, e => by simp only [toP] at e; cases e
  | .rod _, _, e => by simp only [toP] at e; cases e
theorem toPs_mono {h h' : Nat → Option PyData} (hh : ∀ n q, h n = some q → h' n = some q) : ∀ (ds : List D) (ps : List PyData), toPs h ds = some ps → toPs h' ds = some ps
  | [], ps, e => e
  | d :: ds, ps, e => by
    simp only [toPs] at e ⊢
    cases e1 : toP h d with
    | none => rw [e1] at e; cases e
    | some q =>
      cases e2 : toPs h ds with
      | none => rw [e1, e2] at e; cases e
      | some qs =>
        rw [e1, e2] at e
        rw [toP_mono hh d q e1, toPs_mono hh ds qs e2]
        exact e
end
theorem toPs_cons {h : Nat → Option PyData} {d : D} {ds : List D} {ps : List PyData} (e : toPs h (d :: ds) = some ps) : ∃ q qs, ps = q :: qs ∧ toP h d = some q ∧ toPs h ds = some qs := by
  simp only [toPs] at e
  cases e1 : toP h d with
  | none => rw [e1] at e; cases e
  | some q =>
    cases e2 : toPs h ds with
    | none => rw [e1, e2] at e; cases e
    | some qs =>
      rw [e1, e2] at e
      cases e
      exact ⟨q, qs, rfl, rfl, rfl⟩
theorem hQ_hP {M : Mh} : ∀ {j k n : Nat} {q : PyData}, j ≤ k → hQ M j n = some q → hP M k n = some q
  | 0, _, _, _, _, e => by cases e
  | j + 1, 0, _, _, h, _ => by omega
  | j + 1, k + 1, n, q, h, e => by
    unfold hQ at e
    unfold hP
    by_cases hn : n ≤ 1
    · rw [if_pos hn] at e; cases e
    · rw [if_neg hn] at e
      cases hm : M[n]? with
      | none => rw [hm] at e; cases e
      | some o =>
        rw [hm] at e
        cases o with
        | lst ds =>
          simp only [Option.map_eq_some_iff] at e ⊢
          obtain ⟨ps, e1, e2⟩ := e
          exact ⟨ps, toPs_mono (fun n q h' => hQ_hP (by omega) h') ds ps e1, e2⟩
        | _ => cases e
theorem G.data {M : Mh} {j : Nat} {d : D} {p : PyData} (g : G M j d p) (hj : j ≤ 4) : dataOf M d = some p := toP_mono (fun n q h => hQ_hP hj h) d p g.t
/-- the lists that stand go on standing -/
def Kp (M M' : Mh) : Prop := ∀ k ds, 2 ≤ k → M[k]? = some (.lst ds) → M'[k]? = some (.lst ds)
theorem hQ_keep {M M' : Mh} (h : Kp M M') : ∀ {j k n : Nat} {q : PyData}, j ≤ k → hQ M j n = some q → hQ M' k n = some q
  | 0, _, _, _, _, e => by cases e
  | j + 1, 0, _, _, hj, _ => by omega
  | j + 1, k + 1, n, q, hj, e => by
    unfold hQ at e ⊢
    by_cases hn : n ≤ 1
    · rw [if_pos hn] at e; cases e
    · rw [if_neg hn] at e ⊢
      cases hm : M[n]? with
      | none => rw [hm] at e; cases e
      | some o =>
        rw [hm] at e
        cases o with
        | lst ds =>
          rw [h n ds (by omega) hm]
          simp only [Option.map_eq_some_iff] at e ⊢
          obtain ⟨ps, e1, e2⟩ := e
          exact ⟨ps, toPs_mono (fun n q h' => hQ_keep h (by omega) h') ds ps e1, e2⟩
        | _ => cases e
theorem G.keep {M M' : Mh} {j k : Nat} {d : D} {p : PyData} (g : G M j d p) (h : Kp M M') (hj : j ≤ k) : G M' k d p := ⟨toP_mono (fun n q e => hQ_keep h hj e) d p g.t, g.c, g.x⟩
theorem kp_app (M E : Mh) : Kp M (M ++ E) := fun k ds _ h => by rw [ga_lt (lt_of_get h)]; exact h
theorem kp_refl (M : Mh) : Kp M M := fun _ _ _ h => h
/-- of a tuple's items -/
theorem G.items {M : Mh} {j : Nat} {ds : List D} {p : PyData} (g : G M j (.tup ds) p) : ∃ ps, p = .tuple ps ∧ toPs (hQ M j) ds = some ps ∧ PyData.canLayAll0 ps = true ∧ txsAll ps = true ∧ ps.length ≤ 10000 := by
  have e := g.t
  simp only [toP, Option.map_eq_some_iff] at e
  obtain ⟨ps, e1, rfl⟩ := e
  have c := g.c
  have x := g.x
  simp only [PyData.canLay0] at c
  simp only [txs, Bool.and_eq_true] at x
  exact ⟨ps, rfl, e1, c, x.2, of_decide_eq_true x.1⟩
def pty : PyData → Ty
  | .none => .non
  | .bool _ => .bool
  | .int _ => .int
  | .str _ => .str
  | .list _ => .list
  | .tuple _ => .tuple
  | .dict _ => .dict
theorem G.ty {M : Mh} {j : Nat} {d : D} {p : PyData} (g : G M j d p) : tyD M d = some (pty p) := by
  have e := g.t
  cases d with
  | non => cases e; rfl
  | bl b => cases e; rfl
  | int b => cases e; rfl
  | str b => cases e; rfl
  | tup ds =>
    simp only [toP, Option.map_eq_some_iff] at e
    obtain ⟨ps, _, rfl⟩ := e
    rfl
  | ls ds =>
    simp only [toP, Option.map_eq_some_iff] at e
    obtain ⟨ps, _, rfl⟩ := e
    rfl
  | ref n =>
    have e : hQ M j n = some p := e
    cases j with
    | zero => cases e
    | succ j =>
      unfold hQ at e
      by_cases hn : n ≤ 1
      · rw [if_pos hn] at e; cases e
      · rw [if_neg hn] at e
        unfold tyD
        simp only
        cases hm : M[n]? with
        | none => rw [hm] at e; cases e
        | some o =>
          rw [hm] at e
          cases o with
          | lst ds =>
            simp only [Option.map_eq_some_iff] at e
            obtain ⟨ps, _, rfl⟩ := e
            rfl
          | _ => cases e
  | glo n => simp only [toP] at e; cases e
  | rod n => simp only [toP] at e; cases e
theorem G.isi {M : Mh} {j : Nat} {d : D} {p : PyData} (g : G M j d p) (T : Ty) : isiD T d M = .ok (.bl ((pty p).sub T)) M := by
  unfold isiD; rw [g.ty]
theorem pty_str {M : Mh} {j : Nat} {d : D} {p : PyData} (g : G M j d p) (h : pty p = .str) : ∃ z, d = .str z ∧ p = .str z := by
  have e := g.t
  have ht := g.ty
  rw [h] at ht
  cases d with
  | str z => cases e; exact ⟨z, rfl, rfl⟩
  | ref n =>
    unfold tyD at ht
    simp only at ht
    split at ht <;> cases ht
  | _ => cases ht
theorem pty_tup {M : Mh} {j : Nat} {d : D} {p : PyData} (g : G M j d p) (h : pty p = .tuple) : ∃ ds, d = .tup ds := by
  have ht := g.ty
  rw [h] at ht
  cases d with
  | tup ds => exact ⟨ds, rfl⟩
  | ref n =>
    unfold tyD at ht
    simp only at ht
    split at ht <;> cases ht
  | _ => cases ht
theorem sub_str {t : Ty} (h : t ≠ .str) : t.sub .str = false := by cases t <;> first | rfl | exact absurd rfl h
theorem sub_tup {t : Ty} (h : t ≠ .tuple) : t.sub .tuple = false := by cases t <;> first | rfl | exact absurd rfl h
/-! ### words -/
def low1 (c : Nat) : Bool := decide (97 ≤ c) && decide (c ≤ 122)
def wordP : PyData → Bool
  | .str z => decide (1 ≤ z.length) && decide (z.length ≤ 8) && z.cps.toList.all low1
  | _ => false
theorem wordP_no {p : PyData} (h : pty p ≠ .str) : wordP p = false := by
  cases p <;> first | rfl | exact absurd rfl h
section
variable {M : Mh}
theorem lenD_s {z : Str} (h : z.length ≤ 1000) : lenD (.str z) M = .ok (.int (z.length : Int)) M := by
  unfold lenD; simp only; exact if_pos (by rw [Dn.sizeLine_eq]; omega)
theorem wk_str (z : Str) : wkOf (.str z) M = .ok ⟨none, signsD z⟩ M := rfl
theorem eChain_run {s : Sl} (f g : D → D → C D) (ta tb tc : ED) : eChain f g ta tb tc s M = match ta s M with
  | .ok x M1 => (match tb s M1 with
    | .ok y M2 => (match f x y M2 with
      | .ok (.bl k) M3 => if k = true then (match tc s M3 with
        | .ok z M4 => g y z M4
        | .exc c fs M4 => .exc c fs M4
        | .bad => .bad) else .ok (.bl false) M3
      | .ok _ M3 => .bad
      | .exc c fs M3 => .exc c fs M3
      | .bad => .bad)
    | .exc c fs M2 => .exc c fs M2
    | .bad => .bad)
  | .exc c fs M1 => .exc c fs M1
  | .bad => .bad := by
  unfold eChain C.bind
  cases ta s M with
  | ok x M1 =>
    simp only
    cases tb s M1 with
    | ok y M2 =>
      simp only
      cases f x y M2 with
      | ok z M3 =>
        cases z with
        | bl k => cases k <;> simp only [Bool.false_eq_true, if_false, if_true] <;> first | rfl | (cases tc s M3 <;> rfl)
        | _ => rfl
      | _ => rfl
    | _ => rfl
  | _ => rfl
end
theorem in_low (c : Nat) : strIn ⟨#[c]⟩ "abcdefghijklmnopqrstuvwxyz" = low1 c := by
  have e : (Str.ofString "abcdefghijklmnopqrstuvwxyz").cps.toList = (List.range 26).map (97 + ·) := by decide +kernel
  show decide (c ∈ (Str.ofString "abcdefghijklmnopqrstuvwxyz").cps.toList) = low1 c
  rw [e]
  unfold low1
  rw [← Bool.decide_and]
  apply decide_eq_decide.mpr
  rw [List.mem_map]
  constructor
  · rintro ⟨i, hi, rfl⟩
    have := List.mem_range.mp hi
    omega
  · intro h
    exact ⟨c - 97, List.mem_range.mpr (by omega), by omega⟩
theorem one_lt (a b : Nat) : (([a] : List Nat) < [b]) ↔ a < b := by
  rw [List.cons_lt_cons_iff]
  constructor
  · rintro (h | ⟨_, h⟩)
    · exact h
    · exact absurd h (List.lt_irrefl _)
  · exact Or.inl
theorem le_a {M : Mh} (c : Nat) : leD (.str "a") (.str ⟨#[c]⟩) M = .ok (.bl (decide (97 ≤ c))) M := by
  show R.ok (D.bl (!decide ([c] < (Str.ofString "a").cps.toList))) M = _
  have e : (Str.ofString "a").cps.toList = [97] := by decide +kernel
  rw [e]
  have : (([c] : List Nat) < [97]) ↔ c < 97 := one_lt c 97
  rw [decide_eq_decide.mpr this, show (!decide (c < 97)) = decide (97 ≤ c) by rw [← decide_not]; exact decide_eq_decide.mpr (by omega)]
theorem le_z {M : Mh} (c : Nat) : leD (.str ⟨#[c]⟩) (.str "z") M = .ok (.bl (decide (c ≤ 122))) M := by
  show R.ok (D.bl (!decide ((Str.ofString "z").cps.toList < [c]))) M = _
  have e : (Str.ofString "z").cps.toList = [122] := by decide +kernel
  rw [e]
  have : (([122] : List Nat) < [c]) ↔ 122 < c := one_lt 122 c
  rw [decide_eq_decide.mpr this, show (!decide (122 < c)) = decide (c ≤ 122) by rw [← decide_not]; exact decide_eq_decide.mpr (by omega)]
local macro_rules | `(tactic| walk_at "dn") => `(tactic| simp (disch := first | assumption | exact gn_new | exact gn_at1 | exact gn_at2 | exact gn_at | (simp only [lowDs, lowD, enc_low, encs_low, Bool.and_self]; done) | (refine clo_t ?_; have hEn := fun n (E : Mh) (h : lowE E = true) => lowE_all n h; simp only [List.all_cons, List.all_nil, List.length_cons, List.length_nil, lowO, lowDs, lowD, low_ints, low_strs, encs_low, Nat.reduceAdd, Nat.reduceLT, lt_succ, List.all_append, List.length_append, decide_true, *, Bool.and_self, Bool.and_true]; done) | (simp only [Nat.reduceLeDiff, encs_len, List.length_cons, List.length_nil, Nat.reduceAdd, flatD, List.all_cons, List.all_nil, Bool.and_self, Bool.and_true, List.length_append, List.length_set, Nat.lt_add_one, *]; done) | (simp only [Dn.sizeLine_eq, PySem.Str.length_append, Nat.add_zero]; omega) | (simp only [encs_len, List.length_take, List.length_map, List.length_cons, List.length_append, List.length_nil]; omega) | omega) only [ret_run, bad_run, bind_run, noX_run, asB_run, eOp_run, eUn_run, eCb_run, aNil_run, aCons_run, eVar_run, eC_run, tCmpD_run, tTruD_run, tAndD_run, tOrD_run, tNotD_run, tYesD_run, eIf_run, eAnd_run, eOr_run, notD_run, eSl_run, oNone_run, oSome_run, sRet_run, sRetN_run, sExp_run, sNx_run, sBk_run, sCt_run, sIf_run, sSeq_run, sAsg_run, gNm_run, gsNil_run, gsCons_run, gSb_run, gTp_tup, gSt_tup, sPar_run, sFor_run, eComp_run, newT_s, newL_s, one1_run, eqD_run, neD_run, eqC_str, eqC_int, eqC_bl, inE_run, ninE_run, inCE_rod, inCE_tup, ixE_rod, ixE_tup, ixE_ls, ixE_ref, addD_int, addD_strok, addD_tup, addD_ref, subD_int, mulD_ok, fdivD_ok, modD_ok, powD_ok, ltD_int, leD_int, gtD_int, geD_int, truC_bl, lenD_tup, lenD_ref, lenD_ls, tupleD_ref, listD_tupn, listD_ref, gc_l0n, wkOf_tup, wkOf_ref, eJoin_run, eLm_run, setD_ref, atD_0, atD_1, atD_2, atD_3, atD_4, setL_0, setL_1, setL_2, setL_3, gs_eq, gs_ne, ga_lt,  List.length_set, List.length_map, set_app, List.set_set, decide_eq_true_eq, inF_nil, inF_int, inF_str, flatD, List.all_cons, List.all_nil, Bool.and_true, Bool.and_self, Bool.or_false, Bool.or_true, Bool.true_or, Bool.false_or, Int.reduceEq, Int.reduceLT, Int.reduceMod, Int.reduceNeg, st_len, st_app, st_at, wipeD, rng1_s, Dn.sizeLine_eq, Nat.reduceLT, Int.reduceToNat, List.length_range, List.length_take, Nat.min_def, compL_cons, compL_nil, stays_none, List.set_nil, fm_0, fm_1, fm_2, fm_3, fm_4, fm_5, fm_6, fm_7, fm_8, fm_9, fm_10, fm_11, fm_12, fm_13, Bool.true_and, Bool.false_and, allD_ref, anyD_ref, boolsOf_map, Int.toNat_natCast, eChain_run, lenD_s, leD_int, ltD_int, wk_str, joinD_ref, appD_run, stays_iff,  mkFn_run, List.map_cons, List.map_nil, List.reduceReplicate, gn_new, gn_at, List.append_assoc, gc_str, gc_str0, gc_bl, gc_bl0, gc_int, gc_int0, gc_enc, gc_enc0, gc_tup, gc_tup0, gc_zero, gc_nil, gc_l0, reduceCtorEq, Bool.not_eq_true, eq_self,  List.length_append, encs_len,    strsOf_map, pNil_run, pCons_run, eDisp_run, Option.isSome_some, Option.isSome_none, keysD, keyD, List.zip_cons_cons, List.zip_nil_left, List.zip_nil_right, List.foldl_cons, List.foldl_nil, 
  Nat.reduceAdd, Nat.reduceLeDiff, Nat.reduceEqDiff, Nat.reduceSub, String.reduceEq, reduceIte, Int.reduceLE, Nat.le_refl, ofString_inj, List.set_cons_succ, List.set_cons_zero, List.getElem?_cons_succ, List.getElem?_cons_zero, List.length_cons, List.length_nil, decide_true, decide_false, if_true, if_false, Bool.false_eq_true, List.take_succ_cons, List.take_zero, List.drop_succ_cons, List.drop_zero, List.cons_append, List.nil_append, ne_eq, not_false_eq_true, Bool.not_true, Bool.not_false, *])

def sgF (d : D) : D := match d with
  | .str z => .bl (low1 (z.cps.toList.headD 0))
  | d => d
def WpOk (F : Fn) : Prop := ∀ (d : D) (p : PyData) (j : Nat) (M : Mh), Clo M → G M j d p → F [d] M = .ok (.bl (wordP p)) M
noncomputable def b_wp : SD := (sSeq (sIf (tOrD (tNotD (tTruD (eUn (isiD .str) (eVar 0)))) (tNotD (tChainD leD leD (eC (.int 1)) (eCb (one1 lenD) (aCons (eVar 0) aNil)) (eC (.int 8))))) (sRet (eC (.bl false))) sNx) (sRet (eCb (one1 allD) (aCons (eComp [1] (fun s => ((eVar 0) s).bind wkOf) (gNm 1) tYesD (eOp inE (eVar 1) (eC (.str "abcdefghijklmnopqrstuvwxyz")))) aNil))))
theorem wp_ok : WpOk (mkFn 2 1 b_wp) := by
  intro d p j M cl g
  by_cases h : pty p = .str
  · obtain ⟨z, rfl, rfl⟩ := pty_str g h
    have hz : z.length ≤ 1000 := of_decide_eq_true g.x
    have hs : ∀ N, isiD .str (.str z) N = .ok (.bl true) N := fun _ => rfl
    have hl : (signsD z).length < 16777216 := by unfold signsD; rw [List.length_map, Array.length_toList]; have : z.cps.size ≤ 1000 := hz; omega
    have ec : compL ⟨none, signsD z⟩ (gNm 1) tYesD (eOp inE (eVar 1) (eC (.str "abcdefghijklmnopqrstuvwxyz"))) [some (.str z), none] (signsD z) [] M = .ok ((z.cps.toList.map low1).map D.bl) M := by
      rw [comp_map (stays_none.mpr trivial) (F := sgF) (signsD z) [] (fun d hd => by
        unfold signsD at hd
        obtain ⟨c, _, rfl⟩ := List.mem_map.mp hd
        have e := in_low c
        have e2 : ∀ N, inCE (.str ⟨#[c]⟩) (.str "abcdefghijklmnopqrstuvwxyz") N = .ok (strIn ⟨#[c]⟩ "abcdefghijklmnopqrstuvwxyz") N := fun _ => rfl
        show _ = R.ok (D.bl (low1 c)) M
        walk_at "dn"), List.nil_append]
      unfold signsD
      rw [List.map_map, List.map_map]
      rfl
    have hw : wordP (.str z) = (decide (1 ≤ z.length) && decide (z.length ≤ 8) && z.cps.toList.all low1) := rfl
    rw [hw]
    unfold b_wp
    have ha : (z.cps.toList.map low1).all id = z.cps.toList.all low1 := by rw [List.all_map]; rfl
    by_cases h1 : 1 ≤ z.length
    · by_cases h8 : z.length ≤ 8
      · have i1 : (1 : Int) ≤ (z.length : Int) := by omega
        have i8 : (z.length : Int) ≤ 8 := by omega
        rw [decide_eq_true h1, decide_eq_true h8, ← ha]
        generalize (z.cps.toList.map low1) = bs at ec
        clear ha g hw
        walk_at "dn"
      · have i1 : (1 : Int) ≤ (z.length : Int) := by omega
        have i8 : ¬ (z.length : Int) ≤ 8 := by omega
        rw [decide_eq_false h8, Bool.and_false, Bool.false_and]
        clear ha g hw
        walk_at "dn"
    · have i1 : ¬ (1 : Int) ≤ (z.length : Int) := by omega
      rw [decide_eq_false h1, Bool.false_and, Bool.false_and]
      clear ha g hw
      walk_at "dn"
  · have hi := fun T => g.isi T
    have hs := sub_str h
    rw [wordP_no h]
    unfold b_wp
    walk_at "dn"
noncomputable def b_lwp : SD := (sRet (eAnd (eUn (isiD .str) (eVar 0)) (eAnd (eChain ltD ltD (eC (.int 0)) (eCb (one1 lenD) (aCons (eVar 0) aNil)) (eC (.int 9))) (eOp eqD (eComp [1] (fun s => ((eVar 0) s).bind wkOf) (gNm 1) (tNotD (tChainD leD leD (eC (.str "a")) (eVar 1) (eC (.str "z")))) (eVar 1)) (eCb newL aNil)))))
def sgP (d : D) : Bool := match d with
  | .str z => !low1 (z.cps.toList.headD 0)
  | _ => false
theorem low_all : ∀ cs : List Nat, decide (((cs.filter fun c => !low1 c).map fun c => (⟨#[c]⟩ : Str)) = []) = cs.all low1
  | [] => rfl
  | c :: cs => by
    rw [List.filter_cons, List.all_cons]
    cases h : low1 c with
    | true => simp only [Bool.not_true, Bool.false_eq_true, if_false, Bool.true_and]; exact low_all cs
    | false => simp only [Bool.not_false, if_true, List.map_cons, Bool.false_and]; rfl
theorem lwp_ok : WpOk (mkFn 2 1 b_lwp) := by
  intro d p j M cl g
  by_cases h : pty p = .str
  · obtain ⟨z, rfl, rfl⟩ := pty_str g h
    have hz : z.length ≤ 1000 := of_decide_eq_true g.x
    have ho : PyData.strOk z = true := g.c
    have hs : ∀ N, isiD .str (.str z) N = .ok (.bl true) N := fun _ => rfl
    have hl : (signsD z).length < 16777216 := by unfold signsD; rw [List.length_map, Array.length_toList]; have : z.cps.size ≤ 1000 := hz; omega
    let xs : List Str := (z.cps.toList.filter fun c => !low1 c).map fun c => ⟨#[c]⟩
    have hx : xs.all PyData.strOk = true := by
      rw [List.all_eq_true]
      intro x hx
      obtain ⟨c, hc, rfl⟩ := List.mem_map.mp hx
      have hc := (List.mem_filter.mp hc).1
      unfold PyData.strOk at ho ⊢
      rw [Array.all_eq_true'] at ho
      have := ho c (Array.mem_def.mpr hc)
      simpa using this
    have ec : compL ⟨none, signsD z⟩ (gNm 1) (tNotD (tChainD leD leD (eC (.str "a")) (eVar 1) (eC (.str "z")))) (eVar 1) [some (.str z), none] (signsD z) [] M = .ok (xs.map D.str) M := by
      rw [comp_filter (stays_none.mpr trivial) (F := id) (P := sgP) (signsD z) [] (fun d hd => by
        unfold signsD at hd
        obtain ⟨c, _, rfl⟩ := List.mem_map.mp hd
        have e1 := fun N => le_a (M := N) c
        have e2 := fun N => le_z (M := N) c
        show _ = R.ok (!low1 c) M
        unfold low1
        by_cases h1 : 97 ≤ c
        · by_cases h2 : c ≤ 122
          · simp only [decide_eq_true h1, decide_eq_true h2] at e1 e2 ⊢; walk_at "dn"
          · simp only [decide_eq_true h1, decide_eq_false h2] at e1 e2 ⊢; walk_at "dn"
        · simp only [decide_eq_false h1] at e1 ⊢; walk_at "dn") (fun d hd _ => by
        show _ = R.ok d M
        walk_at "dn"), List.nil_append, List.map_id]
      unfold signsD
      simp only [xs]
      rw [List.filter_map, List.map_map]
      rfl
    have hd := low_all z.cps.toList
    have eq := eqC_strs (M := M ++ [.lst (xs.map D.str), .lst []]) (n := M.length) (k := M.length + 1) (xs := xs) (ys := []) gn_new gn_at1 hx rfl
    rw [show decide (xs = []) = z.cps.toList.all low1 from hd] at eq
    have hw : wordP (.str z) = (decide (1 ≤ z.length) && decide (z.length ≤ 8) && z.cps.toList.all low1) := rfl
    rw [hw]
    clear hd hx hw ho g
    clear_value xs
    generalize z.cps.toList.all low1 = b at eq
    unfold b_lwp
    by_cases h1 : 1 ≤ z.length
    · by_cases h8 : z.length ≤ 8
      · have i1 : (0 : Int) < (z.length : Int) := by omega
        have i8 : (z.length : Int) < 9 := by omega
        rw [decide_eq_true h1, decide_eq_true h8]
        walk_at "dn"
      · have i1 : (0 : Int) < (z.length : Int) := by omega
        have i8 : ¬ (z.length : Int) < 9 := by omega
        rw [decide_eq_false h8, Bool.and_false, Bool.false_and]
        walk_at "dn"
    · have i1 : ¬ (0 : Int) < (z.length : Int) := by omega
      rw [decide_eq_false h1, Bool.false_and, Bool.false_and]
      walk_at "dn"
  · have hi := fun T => g.isi T
    have hs := sub_str h
    rw [wordP_no h]
    unfold b_lwp
    walk_at "dn"
end Dn

/-! Thg2: sayings among things of any kind -/
namespace Dn
open PySem PySem.Spec PyProof.Rows L2
def alP (S : PyData → Bool) : PyData → Bool
  | .tuple es => es.all S
  | _ => false
def mdP (S : PyData → Bool) : PyData → Bool
  | .tuple (.str w :: a :: r) => if w = "letter" then r.isEmpty && wordP a else if w = "not" then r.isEmpty && S a else if w = "and" ∨ w = "or" then r.isEmpty && alP S a else match r with
    | [b] => if w = "must" ∨ w = "may" then wordP a && S b else if w = "so" then S a && S b else false
    | _ => false
  | _ => false
def tld : PyData → Option (PyData × PyData)
  | .tuple [.str w, a, b] => if w = "told" then some (a, b) else none
  | _ => none
def sayP (t : Bool) : Nat → PyData → Bool
  | 0, _ => false
  | n + 1, p => match (if t = true then tld p else none) with
    | some (a, b) => sayP t n a && sayP t n b
    | none => mdP (sayP t n) p
section
variable {M : Mh}
theorem lk_p : List.lookup ("is_plain_saying" : Str) [(("is_plain_saying" : Str), 3), ("is_saying", 4)] = some 3 := by decide +kernel
theorem lk_s : List.lookup ("is_saying" : Str) [(("is_plain_saying" : Str), 3), ("is_saying", 4)] = some 4 := by decide +kernel
theorem isi_s (w : Str) : isiD .str (.str w) M = .ok (.bl true) M := rfl
theorem isi_t (l : List D) : isiD .tuple (.tup l) M = .ok (.bl true) M := rfl
theorem cz_0 : ((0 : Nat) : Int) = 0 := rfl
theorem cz_1 : ((1 : Nat) : Int) = 1 := rfl
theorem cz_2 : ((2 : Nat) : Int) = 2 := rfl
theorem cz_3 : ((3 : Nat) : Int) = 3 := rfl
theorem eqC_0 {n k : Nat} (h : M[n]? = some (.lst [])) (h' : M[k]? = some (.lst [])) : eqC (.ref n) (.ref k) M = .ok true M := eqC_nilS (l := []) h h' fun _ h => nomatch h
/-- a list of things beside the empty one -/
theorem eqC_nilG {j n k : Nat} {ds : List D} {ps : List PyData} (h : M[n]? = some (.lst ds)) (h' : M[k]? = some (.lst [])) (hp : toPs (hQ M j) ds = some ps) (hj : j ≤ 3) (hc : PyData.canLayAll0 ps = true) (hd : PyData.depthAll ps ≤ 62) : eqC (.ref n) (.ref k) M = .ok ds.isEmpty M := by
  have hp2 : toPs (hP M 3) ds = some ps := toPs_mono (fun n q h => hQ_hP hj h) ds ps hp
  rw [eqC_ref, dataOf_ref, dataOf_ref, h, h']
  simp only [hp2, toPs, Option.map_some]
  rw [if_pos]
  · cases ds with
    | nil => cases hp; simp only [PyData.eqv, PyData.eqvAll, List.isEmpty]
    | cons d ds =>
      obtain ⟨q, qs, rfl, _, _⟩ := toPs_cons hp
      simp only [PyData.eqv, PyData.eqvAll, List.isEmpty]
  · constructor
    · unfold SeqAt.shaped
      rw [Bool.and_eq_true]
      exact ⟨by simp only [PyData.canLay0, hc], decide_eq_true (by simp only [PyData.depth]; omega)⟩
    · unfold SeqAt.shaped
      rw [Bool.and_eq_true]
      exact ⟨by simp only [PyData.canLay0, PyData.canLayAll0], decide_eq_true (by simp only [PyData.depth, PyData.depthAll]; omega)⟩
end
/-- items with their data -/
def Gs (M : Mh) (j : Nat) (ds : List D) (ps : List PyData) : Prop := toPs (hQ M j) ds = some ps ∧ PyData.canLayAll0 ps = true ∧ txsAll ps = true
theorem Gs.cons {M : Mh} {j : Nat} {d : D} {ds : List D} {ps : List PyData} (g : Gs M j (d :: ds) ps) : ∃ q qs, ps = q :: qs ∧ G M j d q ∧ Gs M j ds qs := by
  obtain ⟨e, c, x⟩ := g
  obtain ⟨q, qs, rfl, e1, e2⟩ := toPs_cons e
  simp only [PyData.canLayAll0, txsAll, Bool.and_eq_true] at c x
  exact ⟨q, qs, rfl, ⟨e1, c.1, x.1⟩, ⟨e2, c.2, x.2⟩⟩
theorem Gs.nil {M : Mh} {j : Nat} {ps : List PyData} (g : Gs M j [] ps) : ps = [] := by
  have := g.1
  cases this; rfl
theorem Gs.keep {M M' : Mh} {j : Nat} {ds : List D} {ps : List PyData} (g : Gs M j ds ps) (h : Kp M M') : Gs M' j ds ps := ⟨toPs_mono (fun n q e => hQ_keep h (Nat.le_refl _) e) ds ps g.1, g.2.1, g.2.2⟩
theorem Gs.len {M : Mh} {j : Nat} : ∀ {ds : List D} {ps : List PyData}, Gs M j ds ps → ds.length = ps.length
  | [], ps, g => by rw [g.nil]; rfl
  | d :: ds, ps, g => by
    obtain ⟨q, qs, rfl, _, g2⟩ := g.cons
    rw [List.length_cons, List.length_cons, g2.len]
/-- the texts for the two kinds -/
def nmT (t : Bool) : Str := if t = true then "is_saying" else "is_plain_saying"
def SyOk (t : Bool) (F : Fn) (n : Nat) : Prop := ∀ (d : D) (p : PyData) (j : Nat) (M : Mh), Clo M → G M j d p → j ≤ 3 → p.depth ≤ n → p.depth ≤ 60 → F [d] M = .ok (.bl (sayP t n p)) M
local macro_rules | `(tactic| walk_at "dn") => `(tactic| simp (disch := first | assumption | exact gn_new | exact gn_at1 | exact gn_at2 | exact gn_at | (simp only [lowDs, lowD, enc_low, encs_low, Bool.and_self]; done) | (refine clo_t ?_; have hEn := fun n (E : Mh) (h : lowE E = true) => lowE_all n h; simp only [List.all_cons, List.all_nil, List.length_cons, List.length_nil, lowO, lowDs, lowD, low_ints, low_strs, encs_low, Nat.reduceAdd, Nat.reduceLT, lt_succ, List.all_append, List.length_append, decide_true, *, Bool.and_self, Bool.and_true]; done) | (simp only [Nat.reduceLeDiff, encs_len, List.length_cons, List.length_nil, Nat.reduceAdd, flatD, List.all_cons, List.all_nil, Bool.and_self, Bool.and_true, List.length_append, List.length_set, Nat.lt_add_one, *]; done) | (simp only [Dn.sizeLine_eq, PySem.Str.length_append, Nat.add_zero]; omega) | (simp only [encs_len, List.length_take, List.length_map, List.length_cons, List.length_append, List.length_nil]; omega) | omega) only [ret_run, bad_run, bind_run, noX_run, asB_run, eOp_run, eUn_run, eCb_run, aNil_run, aCons_run, eVar_run, eC_run, tCmpD_run, tTruD_run, tAndD_run, tOrD_run, tNotD_run, tYesD_run, eIf_run, eAnd_run, eOr_run, notD_run, eSl_run, oNone_run, oSome_run, sRet_run, sRetN_run, sExp_run, sNx_run, sBk_run, sCt_run, sIf_run, sSeq_run, sAsg_run, gNm_run, gsNil_run, gsCons_run, gSb_run, gTp_tup, gSt_tup, sPar_run, sFor_run, eComp_run, newT_s, newL_s, one1_run, eqD_run, neD_run, eqC_str, eqC_int, eqC_bl, inE_run, ninE_run, inCE_rod, inCE_tup, ixE_rod, ixE_tup, ixE_ls, ixE_ref, addD_int, addD_strok, addD_tup, addD_ref, subD_int, mulD_ok, fdivD_ok, modD_ok, powD_ok, ltD_int, leD_int, gtD_int, geD_int, truC_bl, lenD_tup, lenD_ref, lenD_ls, tupleD_ref, listD_tupn, listD_ref, gc_l0n, wkOf_tup, wkOf_ref, eJoin_run, eLm_run, setD_ref, atD_0, atD_1, atD_2, atD_3, atD_4, setL_0, setL_1, setL_2, setL_3, gs_eq, gs_ne, ga_lt,  List.length_set, List.length_map, set_app, List.set_set, decide_eq_true_eq, inF_nil, inF_int, inF_str, flatD, List.all_cons, List.all_nil, Bool.and_true, Bool.and_self, Bool.or_false, Bool.or_true, Bool.true_or, Bool.false_or, Int.reduceEq, Int.reduceLT, Int.reduceMod, Int.reduceNeg, st_len, st_app, st_at, wipeD, rng1_s, Dn.sizeLine_eq, Nat.reduceLT, Int.reduceToNat, List.length_range, List.length_take, Nat.min_def, compL_cons, compL_nil, stays_none, List.set_nil, fm_0, fm_1, fm_2, fm_3, fm_4, fm_5, fm_6, fm_7, fm_8, fm_9, fm_10, fm_11, fm_12, fm_13, Bool.true_and, Bool.false_and, sortedD_ref, allD_ref, anyD_ref, boolsOf_map, Int.toNat_natCast, eCallV_run, lk_p, lk_s, isi_s, isi_t, cz_0, cz_1, cz_2, cz_3, eqC_0, slD_tup, joinD_ref, appD_run, stays_iff,  mkFn_run, List.map_cons, List.map_nil, List.reduceReplicate, gn_new, gn_at, List.append_assoc, gc_str, gc_str0, gc_bl, gc_bl0, gc_int, gc_int0, gc_enc, gc_enc0, gc_tup, gc_tup0, gc_zero, gc_nil, gc_l0, reduceCtorEq, Bool.not_eq_true, eq_self,  List.length_append, encs_len,    strsOf_map, pNil_run, pCons_run, eDisp_run, Option.isSome_some, Option.isSome_none, keysD, keyD, List.zip_cons_cons, List.zip_nil_left, List.zip_nil_right, List.foldl_cons, List.foldl_nil, 
  Nat.reduceAdd, Nat.reduceLeDiff, Nat.reduceEqDiff, Nat.reduceSub, String.reduceEq, reduceIte, Int.reduceLE, Nat.le_refl, ofString_inj, List.set_cons_succ, List.set_cons_zero, List.getElem?_cons_succ, List.getElem?_cons_zero, List.length_cons, List.length_nil, decide_true, decide_false, if_true, if_false, Bool.false_eq_true, List.take_succ_cons, List.take_zero, List.drop_succ_cons, List.drop_zero, List.cons_append, List.nil_append, ne_eq, not_false_eq_true, Bool.not_true, Bool.not_false, *])

/-! ### are_sayings -/
theorem all_gen (S : PyData → Bool) {w : Wk} {v : Nat} {te : ED} {s0 : Sl} {M : Mh} {j : Nat} (hs : Stays w M) : ∀ (ds : List D) (ps : List PyData) (acc : List D), Gs M j ds ps → (∀ d p, G M j d p → p.depth ≤ PyData.depthAll ps → te (s0.set v (some d)) M = .ok (.bl (S p)) M) → compL w (gNm v) tYesD te s0 ds acc M = .ok (acc ++ (ps.map S).map D.bl) M
  | [], ps, acc, g, _ => by rw [g.nil, compL_nil, if_pos hs, List.map_nil, List.map_nil, List.append_nil]
  | d :: ds, ps, acc, g, h => by
    obtain ⟨q, qs, rfl, g1, g2⟩ := g.cons
    rw [compL_cons, if_pos hs]
    have e := h d q g1 (by simp only [PyData.depthAll]; omega)
    simp only [bind_run, noX_run, gNm_run, tYesD_run, if_true, e]
    rw [all_gen S hs ds qs (acc ++ [D.bl (S q)]) g2 fun d p g hp => h d p g (by simp only [PyData.depthAll]; omega)]
    simp only [List.map_cons, List.append_assoc, List.cons_append, List.nil_append]
noncomputable def b_as (g : Nat → Fn) : SD := (sRet (eAnd (eUn (isiD .tuple) (eVar 0)) (eCb (one1 allD) (aCons (eComp [2] (fun s => ((eVar 0) s).bind wkOf) (gNm 2) tYesD (eCallV g [("is_plain_saying", 3), ("is_saying", 4)] 1 (aCons (eVar 2) aNil))) aNil))))
def tIx (t : Bool) : Nat := if t = true then 4 else 3
def AsOk (t : Bool) (F : Fn) (n : Nat) : Prop := ∀ (d : D) (p : PyData) (j : Nat) (M : Mh), Clo M → G M j d p → j ≤ 3 → p.depth ≤ n + 1 → p.depth ≤ 60 → F [d, .glo (nmT t)] M = .ok (.bl (alP (sayP t n) p)) M
theorem as_ok {g : Nat → Fn} {t : Bool} {n : Nat} (h : SyOk t (g (tIx t)) n) : AsOk t (mkFn 3 2 (b_as g)) n := by
  intro d p j M cl gd hj hd h60
  by_cases hp : pty p = .tuple
  · obtain ⟨ds, rfl⟩ := pty_tup gd hp
    obtain ⟨ps, rfl, e1, e2, e3, e4⟩ := gd.items
    have gs : Gs M j ds ps := ⟨e1, e2, e3⟩
    simp only [PyData.depth] at hd h60
    have hl : ds.length < 16777216 := by rw [gs.len]; omega
    have ec : compL ⟨none, ds⟩ (gNm 2) tYesD (eCallV g [("is_plain_saying", 3), ("is_saying", 4)] 1 (aCons (eVar 2) aNil)) [some (.tup ds), some (.glo (nmT t)), none] ds [] M = .ok ((ps.map (sayP t n)).map D.bl) M := by
      rw [all_gen (sayP t n) (stays_none.mpr trivial) ds ps [] gs (fun d p gd hp => by
        have e := h d p j M cl gd hj (by omega) (by omega)
        cases t
        · simp only [nmT, tIx, Bool.false_eq_true, if_false] at e ⊢
          walk_at "dn"
        · simp only [nmT, tIx, if_true] at e ⊢
          walk_at "dn"), List.nil_append]
    have ha : alP (sayP t n) (.tuple ps) = (ps.map (sayP t n)).all id := by rw [List.all_map]; rfl
    rw [ha]
    generalize ps.map (sayP t n) = bs at ec
    clear gd gs e1 e2 e3 e4 ha h
    unfold b_as
    walk_at "dn"
  · have hi := fun T => gd.isi T
    have hs := sub_tup hp
    have ha : alP (sayP t n) p = false := by cases p <;> first | rfl | exact absurd rfl hp
    rw [ha]
    clear h
    unfold b_as
    walk_at "dn"
mutual
theorem toP_low {M : Mh} {j : Nat} : ∀ (d : D) (p : PyData), toP (hQ M j) d = some p → lowD M.length d = true
  | .non, _, _ => rfl
  | .bl _, _, _ => rfl
  | .int _, _, _ => rfl
  | .str _, _, _ => rfl
  | .tup ds, p, e => by
    simp only [toP, Option.map_eq_some_iff] at e
    obtain ⟨ps, e1, _⟩ := e
    simp only [lowD]; exact toPs_low ds ps e1
  | .ls ds, p, e => by
    simp only [toP, Option.map_eq_some_iff] at e
    obtain ⟨ps, e1, _⟩ := e
    simp only [lowD]; exact toPs_low ds ps e1
  | .ref n, p, e => by
    have e : hQ M j n = some p := e
    simp only [lowD]
    refine decide_eq_true ?_
    cases j with
    | zero => cases e
    | succ j =>
      unfold hQ at e
      by_cases hn : n ≤ 1
      · rw [if_pos hn] at e; cases e
      · rw [if_neg hn] at e
        cases hm : M[n]? with
        | none => rw [hm] at e; cases e
        | some o => exact lt_of_get hm
  | .glo _, _, _ => rfl
  | .rod _, _, _ => rfl
theorem toPs_low {M : Mh} {j : Nat} : ∀ (ds : List D) (ps : List PyData), toPs (hQ M j) ds = some ps → lowDs M.length ds = true
  | [], _, _ => rfl
  | d :: ds, ps, e => by
    obtain ⟨q, qs, rfl, e1, e2⟩ := toPs_cons e
    simp only [lowDs, toP_low d q e1, toPs_low ds qs e2, Bool.and_self]
end
theorem clo_low {M : Mh} {ds : List D} (cl : Clo M) (h : lowDs M.length ds = true) : Clo (M ++ [.lst ds]) := cl.snoc (by simp only [lowO]; exact lowDs_mono (by omega) _ h)
noncomputable def b_md (g : Nat → Fn) (gw ga : Fn) : SD := (sSeq (sIf (tOrD (tNotD (tTruD (eUn (isiD .tuple) (eVar 0)))) (tOrD (tCmpD ltD (eCb (one1 lenD) (aCons (eVar 0) aNil)) (eC (.int 2))) (tNotD (tTruD (eUn (isiD .str) (eOp ixE (eVar 0) (eC (.int 0)))))))) (sRet (eC (.bl false))) sNx) (sSeq (sAsg (eVar 0) (gSt 2 (gsCons (gNm 2) (gsCons (gNm 3) (gsCons (gNm 4) gsNil))))) (sSeq (sIf (tCmpD inE (eVar 2) (eC (.tup [(.str "must"), (.str "may")]))) (sRet (eAnd (eOp eqD (eCb (one1 lenD) (aCons (eVar 4) aNil)) (eC (.int 1))) (eAnd (eCb gw (aCons (eVar 3) aNil)) (eCallV g [("is_plain_saying", 3), ("is_saying", 4)] 1 (aCons (eOp ixE (eVar 4) (eC (.int 0))) aNil))))) sNx) (sSeq (sIf (tCmpD eqD (eVar 2) (eC (.str "so"))) (sRet (eAnd (eOp eqD (eCb (one1 lenD) (aCons (eVar 4) aNil)) (eC (.int 1))) (eAnd (eCallV g [("is_plain_saying", 3), ("is_saying", 4)] 1 (aCons (eVar 3) aNil)) (eCallV g [("is_plain_saying", 3), ("is_saying", 4)] 1 (aCons (eOp ixE (eVar 4) (eC (.int 0))) aNil))))) sNx) (sSeq (sIf (tCmpD neD (eVar 4) (eCb newL aNil)) (sRet (eC (.bl false))) sNx) (sSeq (sIf (tCmpD eqD (eVar 2) (eC (.str "letter"))) (sRet (eCb gw (aCons (eVar 3) aNil))) sNx) (sRet (eOr (eAnd (eOp eqD (eVar 2) (eC (.str "not"))) (eCallV g [("is_plain_saying", 3), ("is_saying", 4)] 1 (aCons (eVar 3) aNil))) (eAnd (eOp inE (eVar 2) (eCb newT (aCons (eC (.str "and")) (aCons (eC (.str "or")) aNil)))) (eCb ga (aCons (eVar 3) (aCons (eVar 1) aNil))))))))))))
def MkOk (t : Bool) (F : Fn) (n : Nat) : Prop := ∀ (d : D) (p : PyData) (j : Nat) (M : Mh), Clo M → G M j d p → j ≤ 3 → p.depth ≤ n + 1 → p.depth ≤ 60 → F [d, .glo (nmT t)] M = .ok (.bl (mdP (sayP t n) p)) M
theorem md_str {S : PyData → Bool} {x : PyData} {r : List PyData} (h : pty x ≠ .str) : mdP S (.tuple (x :: r)) = false := by
  cases x <;> first | rfl | exact absurd rfl h
theorem md_ok {g : Nat → Fn} {gw ga : Fn} {t : Bool} {n : Nat} (h : SyOk t (g (tIx t)) n) (hw : WpOk gw) (ha : AsOk t ga n) : MkOk t (mkFn 5 2 (b_md g gw ga)) n := by
  intro d p j M cl gd hj hd h60
  by_cases hp : pty p = .tuple
  · obtain ⟨ds, rfl⟩ := pty_tup gd hp
    obtain ⟨ps, rfl, e1, e2, e3, e4⟩ := gd.items
    have gs : Gs M j ds ps := ⟨e1, e2, e3⟩
    simp only [PyData.depth] at hd h60
    have hlen := gs.len
    clear gd
    match ds, ps, gs, e1, e2, e3, e4, hlen, hd, h60 with
    | [], ps, gs, _, _, _, _, _, _, _ =>
      obtain rfl := gs.nil
      clear h hw ha
      show _ = R.ok (D.bl false) M
      unfold b_md
      walk_at "dn"
    | [x], ps, gs, _, _, _, _, _, _, _ =>
      obtain ⟨q, qs, rfl, gx, g2⟩ := gs.cons
      obtain rfl := g2.nil
      have hm : mdP (sayP t n) (.tuple [q]) = false := by cases q <;> rfl
      rw [hm]
      clear h hw ha
      unfold b_md
      walk_at "dn"
    | x :: y :: r, ps, gs, _, _, _, e4, hlen, hd, h60 =>
      obtain ⟨qx, ps2, rfl, gx, g2⟩ := gs.cons
      obtain ⟨qa, qr, rfl, ga1, gr⟩ := g2.cons
      simp only [PyData.depthAll] at hd h60
      have hl2 : ¬ ((r.length + 1 + 1 : Nat) : Int) < 2 := by omega
      clear hlen
      by_cases hx : pty qx = .str
      · obtain ⟨w, rfl, rfl⟩ := pty_str gx hx
        have c1 : Clo (M ++ [MO.lst r]) := clo_low cl (toPs_low r qr gr.1)
        have c2 : Clo (M ++ [MO.lst r, MO.lst []]) := by
          have := Clo_app (o := .lst []) c1 rfl
          rwa [List.append_assoc] at this
        have k1 : Kp M (M ++ [MO.lst r]) := kp_app M _
        have k2 : Kp M (M ++ [MO.lst r, MO.lst []]) := kp_app M _
        have w1 := hw y qa j _ c1 (ga1.keep k1 (Nat.le_refl _))
        have w2 := hw y qa j _ c2 (ga1.keep k2 (Nat.le_refl _))
        have s1 := h y qa j _ c1 (ga1.keep k1 (Nat.le_refl _)) hj (by omega) (by omega)
        have s2 := h y qa j _ c2 (ga1.keep k2 (Nat.le_refl _)) hj (by omega) (by omega)
        have a2 := ha y qa j _ c2 (ga1.keep k2 (Nat.le_refl _)) hj (by omega) (by omega)
        have hrl := gr.len
        have hn1 : r = [] → qr = [] := fun e => by subst e; exact gr.nil
        have lk : List.lookup (nmT t) [(("is_plain_saying" : Str), 3), ("is_saying", 4)] = some (tIx t) := by
          cases t
          · exact lk_p
          · exact lk_s
        have hrl2 : (r.length : Int) = (qr.length : Int) := by rw [hrl]
        have nil2 : qr = [] → r = [] := fun e => by subst e; exact List.eq_nil_of_length_eq_zero hrl
        have e0 : r ≠ [] → eqC (.ref M.length) (.ref (M.length + 1)) (M ++ [MO.lst r, .lst []]) = .ok false (M ++ [MO.lst r, .lst []]) := fun hne => by
          have := eqC_nilG (M := M ++ [MO.lst r, .lst []]) gn_new gn_at1 (gr.keep k2).1 hj gr.2.1 (by omega)
          rw [this]
          cases r with
          | nil => exact absurd rfl hne
          | cons _ _ => rfl
        clear gx g2
        clear hrl hrl2 nil2 hn1 k1 k2
        by_cases n0 : w = "must"
        · subst n0
          match r, qr, gr, c1, c2, w1, w2, s1, s2, a2, hl2, e0 with
          | [], qr, gr, c1, c2, w1, w2, s1, s2, a2, hl2, e0 =>
            obtain rfl := gr.nil
            clear e0
            have hm : mdP (sayP t n) (.tuple (.str "must" :: qa :: [])) = false := by
              simp only [mdP, List.isEmpty, ofString_inj, String.reduceEq, if_false, if_true, or_self, or_false, false_or, or_true, true_or, Bool.true_and, Bool.false_and]
            rw [hm]
            clear hm
            generalize wordP qa = bw at w1 w2 ⊢
            generalize alP (sayP t n) qa = bl at a2 ⊢
            generalize sayP t n qa = ba at s1 s2 ⊢
            unfold b_md
            walk_at "dn"
          | [b], qr, gr, c1, c2, w1, w2, s1, s2, a2, hl2, e0 =>
            obtain ⟨qb, qs, rfl, gb, g3⟩ := gr.cons
            obtain rfl := g3.nil
            simp only [PyData.depthAll] at hd h60
            have sb1 := h b qb j _ c1 (gb.keep (kp_app M _) (Nat.le_refl _)) hj (by omega) (by omega)
            have e0 := e0 (by simp)
            clear h hw ha gb g3 gr
            have hm : mdP (sayP t n) (.tuple (.str "must" :: qa :: [qb])) = (wordP qa && sayP t n qb) := by
              simp only [mdP, List.isEmpty, ofString_inj, String.reduceEq, if_false, if_true, or_self, or_false, false_or, or_true, true_or, Bool.true_and, Bool.false_and]
            rw [hm]
            clear hm
            generalize wordP qa = bw at w1 w2 ⊢
            generalize alP (sayP t n) qa = bl at a2 ⊢
            generalize sayP t n qa = ba at s1 s2 ⊢
            generalize sayP t n qb = bb at sb1 ⊢
            unfold b_md
            cases bw <;> cases bb <;> walk_at "dn"
          | b :: c :: r, qr, gr, c1, c2, w1, w2, s1, s2, a2, hl2, e0 =>
            obtain ⟨qb, qs, rfl, gb, g3⟩ := gr.cons
            obtain ⟨qc, qr, rfl, gc, g4⟩ := g3.cons
            have e0 := e0 (by simp)
            have hl1 : ¬ ((r.length + 1 + 1 : Nat) : Int) = 1 := by omega
            have hl4 : ¬ ((r.length + 1 + 1 + 1 + 1 : Nat) : Int) < 2 := by omega
            clear h hw ha gb gc g3 g4 gr
            have hm : mdP (sayP t n) (.tuple (.str "must" :: qa :: (qb :: qc :: qr))) = false := by
              simp only [mdP, List.isEmpty, ofString_inj, String.reduceEq, if_false, if_true, or_self, or_false, false_or, or_true, true_or, Bool.true_and, Bool.false_and]
            rw [hm]
            clear hm
            generalize wordP qa = bw at w1 w2 ⊢
            generalize alP (sayP t n) qa = bl at a2 ⊢
            generalize sayP t n qa = ba at s1 s2 ⊢
            unfold b_md
            walk_at "dn"
        by_cases n1 : w = "may"
        · subst n1
          match r, qr, gr, c1, c2, w1, w2, s1, s2, a2, hl2, e0 with
          | [], qr, gr, c1, c2, w1, w2, s1, s2, a2, hl2, e0 =>
            obtain rfl := gr.nil
            clear e0
            have hm : mdP (sayP t n) (.tuple (.str "may" :: qa :: [])) = false := by
              simp only [mdP, List.isEmpty, ofString_inj, String.reduceEq, if_false, if_true, or_self, or_false, false_or, or_true, true_or, Bool.true_and, Bool.false_and]
            rw [hm]
            clear hm
            generalize wordP qa = bw at w1 w2 ⊢
            generalize alP (sayP t n) qa = bl at a2 ⊢
            generalize sayP t n qa = ba at s1 s2 ⊢
            unfold b_md
            walk_at "dn"
          | [b], qr, gr, c1, c2, w1, w2, s1, s2, a2, hl2, e0 =>
            obtain ⟨qb, qs, rfl, gb, g3⟩ := gr.cons
            obtain rfl := g3.nil
            simp only [PyData.depthAll] at hd h60
            have sb1 := h b qb j _ c1 (gb.keep (kp_app M _) (Nat.le_refl _)) hj (by omega) (by omega)
            have e0 := e0 (by simp)
            clear h hw ha gb g3 gr
            have hm : mdP (sayP t n) (.tuple (.str "may" :: qa :: [qb])) = (wordP qa && sayP t n qb) := by
              simp only [mdP, List.isEmpty, ofString_inj, String.reduceEq, if_false, if_true, or_self, or_false, false_or, or_true, true_or, Bool.true_and, Bool.false_and]
            rw [hm]
            clear hm
            generalize wordP qa = bw at w1 w2 ⊢
            generalize alP (sayP t n) qa = bl at a2 ⊢
            generalize sayP t n qa = ba at s1 s2 ⊢
            generalize sayP t n qb = bb at sb1 ⊢
            unfold b_md
            cases bw <;> cases bb <;> walk_at "dn"
          | b :: c :: r, qr, gr, c1, c2, w1, w2, s1, s2, a2, hl2, e0 =>
            obtain ⟨qb, qs, rfl, gb, g3⟩ := gr.cons
            obtain ⟨qc, qr, rfl, gc, g4⟩ := g3.cons
            have e0 := e0 (by simp)
            have hl1 : ¬ ((r.length + 1 + 1 : Nat) : Int) = 1 := by omega
            have hl4 : ¬ ((r.length + 1 + 1 + 1 + 1 : Nat) : Int) < 2 := by omega
            clear h hw ha gb gc g3 g4 gr
            have hm : mdP (sayP t n) (.tuple (.str "may" :: qa :: (qb :: qc :: qr))) = false := by
              simp only [mdP, List.isEmpty, ofString_inj, String.reduceEq, if_false, if_true, or_self, or_false, false_or, or_true, true_or, Bool.true_and, Bool.false_and]
            rw [hm]
            clear hm
            generalize wordP qa = bw at w1 w2 ⊢
            generalize alP (sayP t n) qa = bl at a2 ⊢
            generalize sayP t n qa = ba at s1 s2 ⊢
            unfold b_md
            walk_at "dn"
        by_cases n2 : w = "so"
        · subst n2
          match r, qr, gr, c1, c2, w1, w2, s1, s2, a2, hl2, e0 with
          | [], qr, gr, c1, c2, w1, w2, s1, s2, a2, hl2, e0 =>
            obtain rfl := gr.nil
            clear e0
            have hm : mdP (sayP t n) (.tuple (.str "so" :: qa :: [])) = false := by
              simp only [mdP, List.isEmpty, ofString_inj, String.reduceEq, if_false, if_true, or_self, or_false, false_or, or_true, true_or, Bool.true_and, Bool.false_and]
            rw [hm]
            clear hm
            generalize wordP qa = bw at w1 w2 ⊢
            generalize alP (sayP t n) qa = bl at a2 ⊢
            generalize sayP t n qa = ba at s1 s2 ⊢
            unfold b_md
            walk_at "dn"
          | [b], qr, gr, c1, c2, w1, w2, s1, s2, a2, hl2, e0 =>
            obtain ⟨qb, qs, rfl, gb, g3⟩ := gr.cons
            obtain rfl := g3.nil
            simp only [PyData.depthAll] at hd h60
            have sb1 := h b qb j _ c1 (gb.keep (kp_app M _) (Nat.le_refl _)) hj (by omega) (by omega)
            have e0 := e0 (by simp)
            clear h hw ha gb g3 gr
            have hm : mdP (sayP t n) (.tuple (.str "so" :: qa :: [qb])) = (sayP t n qa && sayP t n qb) := by
              simp only [mdP, List.isEmpty, ofString_inj, String.reduceEq, if_false, if_true, or_self, or_false, false_or, or_true, true_or, Bool.true_and, Bool.false_and]
            rw [hm]
            clear hm
            generalize wordP qa = bw at w1 w2 ⊢
            generalize alP (sayP t n) qa = bl at a2 ⊢
            generalize sayP t n qa = ba at s1 s2 ⊢
            generalize sayP t n qb = bb at sb1 ⊢
            unfold b_md
            cases ba <;> cases bb <;> walk_at "dn"
          | b :: c :: r, qr, gr, c1, c2, w1, w2, s1, s2, a2, hl2, e0 =>
            obtain ⟨qb, qs, rfl, gb, g3⟩ := gr.cons
            obtain ⟨qc, qr, rfl, gc, g4⟩ := g3.cons
            have e0 := e0 (by simp)
            have hl1 : ¬ ((r.length + 1 + 1 : Nat) : Int) = 1 := by omega
            have hl4 : ¬ ((r.length + 1 + 1 + 1 + 1 : Nat) : Int) < 2 := by omega
            clear h hw ha gb gc g3 g4 gr
            have hm : mdP (sayP t n) (.tuple (.str "so" :: qa :: (qb :: qc :: qr))) = false := by
              simp only [mdP, List.isEmpty, ofString_inj, String.reduceEq, if_false, if_true, or_self, or_false, false_or, or_true, true_or, Bool.true_and, Bool.false_and]
            rw [hm]
            clear hm
            generalize wordP qa = bw at w1 w2 ⊢
            generalize alP (sayP t n) qa = bl at a2 ⊢
            generalize sayP t n qa = ba at s1 s2 ⊢
            unfold b_md
            walk_at "dn"
        by_cases n3 : w = "letter"
        · subst n3
          match r, qr, gr, c1, c2, w1, w2, s1, s2, a2, hl2, e0 with
          | [], qr, gr, c1, c2, w1, w2, s1, s2, a2, hl2, e0 =>
            obtain rfl := gr.nil
            clear e0
            have hm : mdP (sayP t n) (.tuple (.str "letter" :: qa :: [])) = wordP qa := by
              simp only [mdP, List.isEmpty, ofString_inj, String.reduceEq, if_false, if_true, or_self, or_false, false_or, or_true, true_or, Bool.true_and, Bool.false_and]
            rw [hm]
            clear hm
            generalize wordP qa = bw at w1 w2 ⊢
            generalize alP (sayP t n) qa = bl at a2 ⊢
            generalize sayP t n qa = ba at s1 s2 ⊢
            unfold b_md
            cases bw <;> walk_at "dn"
          | [b], qr, gr, c1, c2, w1, w2, s1, s2, a2, hl2, e0 =>
            obtain ⟨qb, qs, rfl, gb, g3⟩ := gr.cons
            obtain rfl := g3.nil
            simp only [PyData.depthAll] at hd h60
            have sb1 := h b qb j _ c1 (gb.keep (kp_app M _) (Nat.le_refl _)) hj (by omega) (by omega)
            have e0 := e0 (by simp)
            clear h hw ha gb g3 gr
            have hm : mdP (sayP t n) (.tuple (.str "letter" :: qa :: [qb])) = false := by
              simp only [mdP, List.isEmpty, ofString_inj, String.reduceEq, if_false, if_true, or_self, or_false, false_or, or_true, true_or, Bool.true_and, Bool.false_and]
            rw [hm]
            clear hm
            generalize wordP qa = bw at w1 w2 ⊢
            generalize alP (sayP t n) qa = bl at a2 ⊢
            generalize sayP t n qa = ba at s1 s2 ⊢
            generalize sayP t n qb = bb at sb1 ⊢
            unfold b_md
            walk_at "dn"
          | b :: c :: r, qr, gr, c1, c2, w1, w2, s1, s2, a2, hl2, e0 =>
            obtain ⟨qb, qs, rfl, gb, g3⟩ := gr.cons
            obtain ⟨qc, qr, rfl, gc, g4⟩ := g3.cons
            have e0 := e0 (by simp)
            have hl1 : ¬ ((r.length + 1 + 1 : Nat) : Int) = 1 := by omega
            have hl4 : ¬ ((r.length + 1 + 1 + 1 + 1 : Nat) : Int) < 2 := by omega
            clear h hw ha gb gc g3 g4 gr
            have hm : mdP (sayP t n) (.tuple (.str "letter" :: qa :: (qb :: qc :: qr))) = false := by
              simp only [mdP, List.isEmpty, ofString_inj, String.reduceEq, if_false, if_true, or_self, or_false, false_or, or_true, true_or, Bool.true_and, Bool.false_and]
            rw [hm]
            clear hm
            generalize wordP qa = bw at w1 w2 ⊢
            generalize alP (sayP t n) qa = bl at a2 ⊢
            generalize sayP t n qa = ba at s1 s2 ⊢
            unfold b_md
            walk_at "dn"
        by_cases n4 : w = "not"
        · subst n4
          match r, qr, gr, c1, c2, w1, w2, s1, s2, a2, hl2, e0 with
          | [], qr, gr, c1, c2, w1, w2, s1, s2, a2, hl2, e0 =>
            obtain rfl := gr.nil
            clear e0
            have hm : mdP (sayP t n) (.tuple (.str "not" :: qa :: [])) = sayP t n qa := by
              simp only [mdP, List.isEmpty, ofString_inj, String.reduceEq, if_false, if_true, or_self, or_false, false_or, or_true, true_or, Bool.true_and, Bool.false_and]
            rw [hm]
            clear hm
            generalize wordP qa = bw at w1 w2 ⊢
            generalize alP (sayP t n) qa = bl at a2 ⊢
            generalize sayP t n qa = ba at s1 s2 ⊢
            unfold b_md
            cases ba <;> walk_at "dn"
          | [b], qr, gr, c1, c2, w1, w2, s1, s2, a2, hl2, e0 =>
            obtain ⟨qb, qs, rfl, gb, g3⟩ := gr.cons
            obtain rfl := g3.nil
            simp only [PyData.depthAll] at hd h60
            have sb1 := h b qb j _ c1 (gb.keep (kp_app M _) (Nat.le_refl _)) hj (by omega) (by omega)
            have e0 := e0 (by simp)
            clear h hw ha gb g3 gr
            have hm : mdP (sayP t n) (.tuple (.str "not" :: qa :: [qb])) = false := by
              simp only [mdP, List.isEmpty, ofString_inj, String.reduceEq, if_false, if_true, or_self, or_false, false_or, or_true, true_or, Bool.true_and, Bool.false_and]
            rw [hm]
            clear hm
            generalize wordP qa = bw at w1 w2 ⊢
            generalize alP (sayP t n) qa = bl at a2 ⊢
            generalize sayP t n qa = ba at s1 s2 ⊢
            generalize sayP t n qb = bb at sb1 ⊢
            unfold b_md
            walk_at "dn"
          | b :: c :: r, qr, gr, c1, c2, w1, w2, s1, s2, a2, hl2, e0 =>
            obtain ⟨qb, qs, rfl, gb, g3⟩ := gr.cons
            obtain ⟨qc, qr, rfl, gc, g4⟩ := g3.cons
            have e0 := e0 (by simp)
            have hl1 : ¬ ((r.length + 1 + 1 : Nat) : Int) = 1 := by omega
            have hl4 : ¬ ((r.length + 1 + 1 + 1 + 1 : Nat) : Int) < 2 := by omega
            clear h hw ha gb gc g3 g4 gr
            have hm : mdP (sayP t n) (.tuple (.str "not" :: qa :: (qb :: qc :: qr))) = false := by
              simp only [mdP, List.isEmpty, ofString_inj, String.reduceEq, if_false, if_true, or_self, or_false, false_or, or_true, true_or, Bool.true_and, Bool.false_and]
            rw [hm]
            clear hm
            generalize wordP qa = bw at w1 w2 ⊢
            generalize alP (sayP t n) qa = bl at a2 ⊢
            generalize sayP t n qa = ba at s1 s2 ⊢
            unfold b_md
            walk_at "dn"
        by_cases n5 : w = "and"
        · subst n5
          match r, qr, gr, c1, c2, w1, w2, s1, s2, a2, hl2, e0 with
          | [], qr, gr, c1, c2, w1, w2, s1, s2, a2, hl2, e0 =>
            obtain rfl := gr.nil
            clear e0
            have hm : mdP (sayP t n) (.tuple (.str "and" :: qa :: [])) = alP (sayP t n) qa := by
              simp only [mdP, List.isEmpty, ofString_inj, String.reduceEq, if_false, if_true, or_self, or_false, false_or, or_true, true_or, Bool.true_and, Bool.false_and]
            rw [hm]
            clear hm
            generalize wordP qa = bw at w1 w2 ⊢
            generalize alP (sayP t n) qa = bl at a2 ⊢
            generalize sayP t n qa = ba at s1 s2 ⊢
            unfold b_md
            cases bl <;> walk_at "dn"
          | [b], qr, gr, c1, c2, w1, w2, s1, s2, a2, hl2, e0 =>
            obtain ⟨qb, qs, rfl, gb, g3⟩ := gr.cons
            obtain rfl := g3.nil
            simp only [PyData.depthAll] at hd h60
            have sb1 := h b qb j _ c1 (gb.keep (kp_app M _) (Nat.le_refl _)) hj (by omega) (by omega)
            have e0 := e0 (by simp)
            clear h hw ha gb g3 gr
            have hm : mdP (sayP t n) (.tuple (.str "and" :: qa :: [qb])) = false := by
              simp only [mdP, List.isEmpty, ofString_inj, String.reduceEq, if_false, if_true, or_self, or_false, false_or, or_true, true_or, Bool.true_and, Bool.false_and]
            rw [hm]
            clear hm
            generalize wordP qa = bw at w1 w2 ⊢
            generalize alP (sayP t n) qa = bl at a2 ⊢
            generalize sayP t n qa = ba at s1 s2 ⊢
            generalize sayP t n qb = bb at sb1 ⊢
            unfold b_md
            walk_at "dn"
          | b :: c :: r, qr, gr, c1, c2, w1, w2, s1, s2, a2, hl2, e0 =>
            obtain ⟨qb, qs, rfl, gb, g3⟩ := gr.cons
            obtain ⟨qc, qr, rfl, gc, g4⟩ := g3.cons
            have e0 := e0 (by simp)
            have hl1 : ¬ ((r.length + 1 + 1 : Nat) : Int) = 1 := by omega
            have hl4 : ¬ ((r.length + 1 + 1 + 1 + 1 : Nat) : Int) < 2 := by omega
            clear h hw ha gb gc g3 g4 gr
            have hm : mdP (sayP t n) (.tuple (.str "and" :: qa :: (qb :: qc :: qr))) = false := by
              simp only [mdP, List.isEmpty, ofString_inj, String.reduceEq, if_false, if_true, or_self, or_false, false_or, or_true, true_or, Bool.true_and, Bool.false_and]
            rw [hm]
            clear hm
            generalize wordP qa = bw at w1 w2 ⊢
            generalize alP (sayP t n) qa = bl at a2 ⊢
            generalize sayP t n qa = ba at s1 s2 ⊢
            unfold b_md
            walk_at "dn"
        by_cases n6 : w = "or"
        · subst n6
          match r, qr, gr, c1, c2, w1, w2, s1, s2, a2, hl2, e0 with
          | [], qr, gr, c1, c2, w1, w2, s1, s2, a2, hl2, e0 =>
            obtain rfl := gr.nil
            clear e0
            have hm : mdP (sayP t n) (.tuple (.str "or" :: qa :: [])) = alP (sayP t n) qa := by
              simp only [mdP, List.isEmpty, ofString_inj, String.reduceEq, if_false, if_true, or_self, or_false, false_or, or_true, true_or, Bool.true_and, Bool.false_and]
            rw [hm]
            clear hm
            generalize wordP qa = bw at w1 w2 ⊢
            generalize alP (sayP t n) qa = bl at a2 ⊢
            generalize sayP t n qa = ba at s1 s2 ⊢
            unfold b_md
            cases bl <;> walk_at "dn"
          | [b], qr, gr, c1, c2, w1, w2, s1, s2, a2, hl2, e0 =>
            obtain ⟨qb, qs, rfl, gb, g3⟩ := gr.cons
            obtain rfl := g3.nil
            simp only [PyData.depthAll] at hd h60
            have sb1 := h b qb j _ c1 (gb.keep (kp_app M _) (Nat.le_refl _)) hj (by omega) (by omega)
            have e0 := e0 (by simp)
            clear h hw ha gb g3 gr
            have hm : mdP (sayP t n) (.tuple (.str "or" :: qa :: [qb])) = false := by
              simp only [mdP, List.isEmpty, ofString_inj, String.reduceEq, if_false, if_true, or_self, or_false, false_or, or_true, true_or, Bool.true_and, Bool.false_and]
            rw [hm]
            clear hm
            generalize wordP qa = bw at w1 w2 ⊢
            generalize alP (sayP t n) qa = bl at a2 ⊢
            generalize sayP t n qa = ba at s1 s2 ⊢
            generalize sayP t n qb = bb at sb1 ⊢
            unfold b_md
            walk_at "dn"
          | b :: c :: r, qr, gr, c1, c2, w1, w2, s1, s2, a2, hl2, e0 =>
            obtain ⟨qb, qs, rfl, gb, g3⟩ := gr.cons
            obtain ⟨qc, qr, rfl, gc, g4⟩ := g3.cons
            have e0 := e0 (by simp)
            have hl1 : ¬ ((r.length + 1 + 1 : Nat) : Int) = 1 := by omega
            have hl4 : ¬ ((r.length + 1 + 1 + 1 + 1 : Nat) : Int) < 2 := by omega
            clear h hw ha gb gc g3 g4 gr
            have hm : mdP (sayP t n) (.tuple (.str "or" :: qa :: (qb :: qc :: qr))) = false := by
              simp only [mdP, List.isEmpty, ofString_inj, String.reduceEq, if_false, if_true, or_self, or_false, false_or, or_true, true_or, Bool.true_and, Bool.false_and]
            rw [hm]
            clear hm
            generalize wordP qa = bw at w1 w2 ⊢
            generalize alP (sayP t n) qa = bl at a2 ⊢
            generalize sayP t n qa = ba at s1 s2 ⊢
            unfold b_md
            walk_at "dn"
        have m0 : ¬ ("must" : Str) = w := fun e => n0 e.symm
        have m1 : ¬ ("may" : Str) = w := fun e => n1 e.symm
        have m2 : ¬ ("so" : Str) = w := fun e => n2 e.symm
        have m3 : ¬ ("letter" : Str) = w := fun e => n3 e.symm
        have m4 : ¬ ("not" : Str) = w := fun e => n4 e.symm
        have m5 : ¬ ("and" : Str) = w := fun e => n5 e.symm
        have m6 : ¬ ("or" : Str) = w := fun e => n6 e.symm
        match r, qr, gr, c1, c2, w1, w2, s1, s2, a2, hl2, e0 with
        | [], qr, gr, c1, c2, w1, w2, s1, s2, a2, hl2, e0 =>
          obtain rfl := gr.nil
          clear e0
          have hm : mdP (sayP t n) (.tuple (.str w :: qa :: [])) = false := by
            simp only [mdP, List.isEmpty, n0, n1, n2, n3, n4, n5, n6, ofString_inj, String.reduceEq, if_false, if_true, or_self, or_false, false_or, or_true, true_or, Bool.true_and, Bool.false_and]
          rw [hm]
          clear hm
          generalize wordP qa = bw at w1 w2 ⊢
          generalize alP (sayP t n) qa = bl at a2 ⊢
          generalize sayP t n qa = ba at s1 s2 ⊢
          unfold b_md
          walk_at "dn"
        | [b], qr, gr, c1, c2, w1, w2, s1, s2, a2, hl2, e0 =>
          obtain ⟨qb, qs, rfl, gb, g3⟩ := gr.cons
          obtain rfl := g3.nil
          simp only [PyData.depthAll] at hd h60
          have sb1 := h b qb j _ c1 (gb.keep (kp_app M _) (Nat.le_refl _)) hj (by omega) (by omega)
          have e0 := e0 (by simp)
          clear h hw ha gb g3 gr
          have hm : mdP (sayP t n) (.tuple (.str w :: qa :: [qb])) = false := by
            simp only [mdP, List.isEmpty, n0, n1, n2, n3, n4, n5, n6, ofString_inj, String.reduceEq, if_false, if_true, or_self, or_false, false_or, or_true, true_or, Bool.true_and, Bool.false_and]
          rw [hm]
          clear hm
          generalize wordP qa = bw at w1 w2 ⊢
          generalize alP (sayP t n) qa = bl at a2 ⊢
          generalize sayP t n qa = ba at s1 s2 ⊢
          generalize sayP t n qb = bb at sb1 ⊢
          unfold b_md
          walk_at "dn"
        | b :: c :: r, qr, gr, c1, c2, w1, w2, s1, s2, a2, hl2, e0 =>
          obtain ⟨qb, qs, rfl, gb, g3⟩ := gr.cons
          obtain ⟨qc, qr, rfl, gc, g4⟩ := g3.cons
          have e0 := e0 (by simp)
          have hl1 : ¬ ((r.length + 1 + 1 : Nat) : Int) = 1 := by omega
          have hl4 : ¬ ((r.length + 1 + 1 + 1 + 1 : Nat) : Int) < 2 := by omega
          clear h hw ha gb gc g3 g4 gr
          have hm : mdP (sayP t n) (.tuple (.str w :: qa :: (qb :: qc :: qr))) = false := by
            simp only [mdP, List.isEmpty, n0, n1, n2, n3, n4, n5, n6, ofString_inj, String.reduceEq, if_false, if_true, or_self, or_false, false_or, or_true, true_or, Bool.true_and, Bool.false_and]
          rw [hm]
          clear hm
          generalize wordP qa = bw at w1 w2 ⊢
          generalize alP (sayP t n) qa = bl at a2 ⊢
          generalize sayP t n qa = ba at s1 s2 ⊢
          unfold b_md
          walk_at "dn"
      · have hi := fun T => gx.isi T
        have hs := sub_str hx
        rw [md_str hx]
        clear h hw ha
        unfold b_md
        walk_at "dn"
  · have hi := fun T => gd.isi T
    have hs := sub_tup hp
    have hm : mdP (sayP t n) p = false := by cases p <;> first | rfl | exact absurd rfl hp
    rw [hm]
    clear h hw ha
    unfold b_md
    walk_at "dn"
end Dn

/-! Thg3: is it a saying -/
namespace Dn
open PySem PySem.Spec PyProof.Rows L2
local macro_rules | `(tactic| walk_at "dn") => `(tactic| simp (disch := first | assumption | exact gn_new | exact gn_at1 | exact gn_at2 | exact gn_at | (simp only [lowDs, lowD, enc_low, encs_low, Bool.and_self]; done) | (refine clo_t ?_; have hEn := fun n (E : Mh) (h : lowE E = true) => lowE_all n h; simp only [List.all_cons, List.all_nil, List.length_cons, List.length_nil, lowO, lowDs, lowD, low_ints, low_strs, encs_low, Nat.reduceAdd, Nat.reduceLT, lt_succ, List.all_append, List.length_append, decide_true, *, Bool.and_self, Bool.and_true]; done) | (simp only [Nat.reduceLeDiff, encs_len, List.length_cons, List.length_nil, Nat.reduceAdd, flatD, List.all_cons, List.all_nil, Bool.and_self, Bool.and_true, List.length_append, List.length_set, Nat.lt_add_one, *]; done) | (simp only [Dn.sizeLine_eq, PySem.Str.length_append, Nat.add_zero]; omega) | (simp only [encs_len, List.length_take, List.length_map, List.length_cons, List.length_append, List.length_nil]; omega) | omega) only [ret_run, bad_run, bind_run, noX_run, asB_run, eOp_run, eUn_run, eCb_run, aNil_run, aCons_run, eVar_run, eC_run, tCmpD_run, tTruD_run, tAndD_run, tOrD_run, tNotD_run, tYesD_run, eIf_run, eAnd_run, eOr_run, notD_run, eSl_run, oNone_run, oSome_run, sRet_run, sRetN_run, sExp_run, sNx_run, sBk_run, sCt_run, sIf_run, sSeq_run, sAsg_run, gNm_run, gsNil_run, gsCons_run, gSb_run, gTp_tup, gSt_tup, sPar_run, sFor_run, eComp_run, newT_s, newL_s, one1_run, eqD_run, neD_run, eqC_str, eqC_int, eqC_bl, inE_run, ninE_run, inCE_rod, inCE_tup, ixE_rod, ixE_tup, ixE_ls, ixE_ref, addD_int, addD_strok, addD_tup, addD_ref, subD_int, mulD_ok, fdivD_ok, modD_ok, powD_ok, ltD_int, leD_int, gtD_int, geD_int, truC_bl, lenD_tup, lenD_ref, lenD_ls, tupleD_ref, listD_tupn, listD_ref, gc_l0n, wkOf_tup, wkOf_ref, eJoin_run, eLm_run, setD_ref, atD_0, atD_1, atD_2, atD_3, atD_4, setL_0, setL_1, setL_2, setL_3, gs_eq, gs_ne, ga_lt,  List.length_set, List.length_map, set_app, List.set_set, decide_eq_true_eq, inF_nil, inF_int, inF_str, flatD, List.all_cons, List.all_nil, Bool.and_true, Bool.and_self, Bool.or_false, Bool.or_true, Bool.true_or, Bool.false_or, Int.reduceEq, Int.reduceLT, Int.reduceMod, Int.reduceNeg, st_len, st_app, st_at, wipeD, rng1_s, Dn.sizeLine_eq, Nat.reduceLT, Int.reduceToNat, List.length_range, List.length_take, Nat.min_def, compL_cons, compL_nil, stays_none, List.set_nil, fm_0, fm_1, fm_2, fm_3, fm_4, fm_5, fm_6, fm_7, fm_8, fm_9, fm_10, fm_11, fm_12, fm_13, Bool.true_and, Bool.false_and, sortedD_ref, allD_ref, anyD_ref, boolsOf_map, Int.toNat_natCast, isi_s, isi_t, cz_0, cz_1, cz_2, cz_3, eqC_0, slD_tup, joinD_ref, appD_run, stays_iff,  mkFn_run, List.map_cons, List.map_nil, List.reduceReplicate, gn_new, gn_at, List.append_assoc, gc_str, gc_str0, gc_bl, gc_bl0, gc_int, gc_int0, gc_enc, gc_enc0, gc_tup, gc_tup0, gc_zero, gc_nil, gc_l0, reduceCtorEq, Bool.not_eq_true, eq_self,  List.length_append, encs_len,    strsOf_map, pNil_run, pCons_run, eDisp_run, Option.isSome_some, Option.isSome_none, keysD, keyD, List.zip_cons_cons, List.zip_nil_left, List.zip_nil_right, List.foldl_cons, List.foldl_nil, 
  Nat.reduceAdd, Nat.reduceLeDiff, Nat.reduceEqDiff, Nat.reduceSub, String.reduceEq, reduceIte, Int.reduceLE, Nat.le_refl, ofString_inj, List.set_cons_succ, List.set_cons_zero, List.getElem?_cons_succ, List.getElem?_cons_zero, List.length_cons, List.length_nil, decide_true, decide_false, if_true, if_false, Bool.false_eq_true, List.take_succ_cons, List.take_zero, List.drop_succ_cons, List.drop_zero, List.cons_append, List.nil_append, ne_eq, not_false_eq_true, Bool.not_true, Bool.not_false, *])

noncomputable def b_sp (gm : Fn) : SD := (sRet (eCb gm (aCons (eVar 0) (aCons (eC (.glo "is_plain_saying")) aNil))))
theorem sp_ok {gm : Fn} {n : Nat} (h : MkOk false gm n) : SyOk false (mkFn 1 1 (b_sp gm)) (n + 1) := by
  intro d p j M cl gd hj hd h60
  have e := h d p j M cl gd hj hd h60
  have hs : sayP false (n + 1) p = mdP (sayP false n) p := rfl
  rw [hs]
  simp only [nmT, Bool.false_eq_true, if_false] at e
  generalize mdP (sayP false n) p = b at e
  clear h gd
  unfold b_sp
  walk_at "dn"
noncomputable def b_ss (gm gs : Fn) : SD := (sSeq (sIf (tOrD (tNotD (tTruD (eUn (isiD .tuple) (eVar 0)))) (tOrD (tCmpD neD (eCb (one1 lenD) (aCons (eVar 0) aNil)) (eC (.int 3))) (tOrD (tNotD (tTruD (eUn (isiD .str) (eOp ixE (eVar 0) (eC (.int 0)))))) (tCmpD neD (eOp ixE (eVar 0) (eC (.int 0))) (eC (.str "told")))))) (sRet (eCb gm (aCons (eVar 0) (aCons (eC (.glo "is_saying")) aNil)))) sNx) (sRet (eAnd (eCb gs (aCons (eOp ixE (eVar 0) (eC (.int 1))) aNil)) (eCb gs (aCons (eOp ixE (eVar 0) (eC (.int 2))) aNil)))))
theorem tld_none {p : PyData} (h : tld p = none) (n : Nat) : sayP true (n + 1) p = mdP (sayP true n) p := by
  rw [sayP]; simp only [if_true, h]
theorem ss_ok {gm gs : Fn} {n : Nat} (h : MkOk true gm n) (h2 : SyOk true gs n) : SyOk true (mkFn 1 1 (b_ss gm gs)) (n + 1) := by
  intro d p j M cl gd hj hd h60
  have e := h d p j M cl gd hj hd h60
  simp only [nmT, if_true] at e
  have fin : tld p = none → (tOrD (tNotD (tTruD (eUn (isiD .tuple) (eVar 0)))) (tOrD (tCmpD neD (eCb (one1 lenD) (aCons (eVar 0) aNil)) (eC (.int 3))) (tOrD (tNotD (tTruD (eUn (isiD .str) (eOp ixE (eVar 0) (eC (.int 0)))))) (tCmpD neD (eOp ixE (eVar 0) (eC (.int 0))) (eC (.str "told")))))) [some d] M = .ok true M → mkFn 1 1 (b_ss gm gs) [d] M = .ok (.bl (sayP true (n + 1) p)) M := fun hn ht => by
    rw [tld_none hn]
    generalize mdP (sayP true n) p = b at e
    clear h h2 gd
    refine mkFn_ok rfl (d := .bl b) (s' := [some d]) (M' := M) ?_ (gc_bl0 cl)
    unfold b_ss
    simp only [List.map_cons, List.map_nil, List.cons_append, List.nil_append, List.length_cons, List.length_nil, Nat.reduceAdd, Nat.reduceSub, List.reduceReplicate, sSeq_run, sIf_run, ht, if_true, sRet_run, eCb_run, aCons_run, aNil_run, eVar_run, eC_run, List.getElem?_cons_zero, e]
  by_cases hp : pty p = .tuple
  · obtain ⟨ds, rfl⟩ := pty_tup gd hp
    obtain ⟨ps, rfl, e1, e2, e3, e4⟩ := gd.items
    have gs' : Gs M j ds ps := ⟨e1, e2, e3⟩
    have hlen := gs'.len
    by_cases h3 : ds.length = 3
    · match ds, h3 with
      | [x, y, z], _ =>
        obtain ⟨qx, ps2, rfl, gx, g2⟩ := gs'.cons
        obtain ⟨qa, ps3, rfl, ga, g3⟩ := g2.cons
        obtain ⟨qb, ps4, rfl, gb, g4⟩ := g3.cons
        obtain rfl := g4.nil
        by_cases hx : pty qx = .str
        · obtain ⟨w, rfl, rfl⟩ := pty_str gx hx
          by_cases hw : w = "told"
          · subst hw
            simp only [PyData.depth, PyData.depthAll] at hd h60
            have sa := h2 y qa j M cl ga hj (by omega) (by omega)
            have sb := h2 z qb j M cl gb hj (by omega) (by omega)
            have hs : sayP true (n + 1) (.tuple [.str "told", qa, qb]) = (sayP true n qa && sayP true n qb) := by
              rw [sayP]; simp only [if_true, tld]
            rw [hs]
            generalize sayP true n qa = ba at sa
            generalize sayP true n qb = bb at sb
            clear fin e h h2 gd gx ga gb g2 g3 g4 gs'
            unfold b_ss
            cases ba <;> cases bb <;> walk_at "dn"
          · have hw' : ¬ ("told" : Str) = w := fun e => hw e.symm
            refine fin (by simp only [tld, hw, if_false]) ?_
            clear fin e h h2 gd gx ga gb g2 g3 g4 gs'
            walk_at "dn"
        · have hi := fun T => gx.isi T
          have hs := sub_str hx
          refine fin (by cases qx <;> first | rfl | exact absurd rfl hx) ?_
          clear fin e h h2 gd gx ga gb g2 g3 g4 gs'
          walk_at "dn"
    · have hn : tld (.tuple ps) = none := by
        match ps, hlen with
        | [], _ => rfl
        | [_], _ => unfold tld; split <;> simp_all
        | [_, _], _ => unfold tld; split <;> simp_all
        | [_, _, _], hl => exact absurd hl h3
        | _ :: _ :: _ :: _ :: _, _ => unfold tld; split <;> simp_all
      have h3' : ¬ (ds.length : Int) = 3 := by omega
      refine fin hn ?_
      clear fin e h h2 gd gs' hlen e1 e2 e3 e4
      walk_at "dn"
  · have hi := fun T => gd.isi T
    have hs := sub_tup hp
    refine fin (by cases p <;> first | rfl | exact absurd rfl hp) ?_
    clear fin e h h2 gd
    walk_at "dn"
end Dn

/-! Thg4: a law's own look at a saying -/
namespace Dn
open PySem PySem.Spec PyProof.Rows L2
theorem flt_gen (S : PyData → Bool) {w : Wk} {v : Nat} {tt : TD} {te : ED} {s0 : Sl} {M : Mh} {j : Nat} (hs : Stays w M) : ∀ (ds : List D) (ps : List PyData) (acc : List D), Gs M j ds ps → (∀ d p, G M j d p → p.depth ≤ PyData.depthAll ps → tt (s0.set v (some d)) M = .ok (!S p) M ∧ te (s0.set v (some d)) M = .ok d M) →
    ∃ ds' ps', compL w (gNm v) tt te s0 ds acc M = .ok (acc ++ ds') M ∧ Gs M j ds' ps' ∧ PyData.depthAll ps' ≤ PyData.depthAll ps ∧ ds'.isEmpty = ps.all S
  | [], ps, acc, g, _ => by
    obtain rfl := g.nil
    exact ⟨[], [], by rw [compL_nil, if_pos hs, List.append_nil], g, Nat.le_refl _, rfl⟩
  | d :: ds, ps, acc, g, h => by
    obtain ⟨q, qs, rfl, g1, g2⟩ := g.cons
    obtain ⟨ht, he⟩ := h d q g1 (by simp only [PyData.depthAll]; omega)
    have hh : ∀ d p, G M j d p → p.depth ≤ PyData.depthAll qs → tt (s0.set v (some d)) M = .ok (!S p) M ∧ te (s0.set v (some d)) M = .ok d M := fun d p g hp => h d p g (by simp only [PyData.depthAll]; omega)
    rw [compL_cons, if_pos hs]
    cases hq : S q with
    | true =>
      obtain ⟨ds', ps', e, g', hd', hb⟩ := flt_gen S hs ds qs acc g2 hh
      refine ⟨ds', ps', ?_, g', by simp only [PyData.depthAll]; omega, by rw [List.all_cons, hq, Bool.true_and, hb]⟩
      rw [hq] at ht
      simp only [bind_run, noX_run, gNm_run, ht, Bool.not_true, Bool.false_eq_true, if_false]
      exact e
    | false =>
      obtain ⟨ds', ps', e, g', hd', hb⟩ := flt_gen S hs ds qs (acc ++ [d]) g2 hh
      refine ⟨d :: ds', q :: ps', ?_, ⟨?_, ?_, ?_⟩, ?_, by rw [List.all_cons, hq, Bool.false_and]; rfl⟩
      · rw [hq] at ht
        simp only [bind_run, noX_run, gNm_run, ht, Bool.not_false, if_true, he]
        rw [e]; simp only [List.append_assoc, List.cons_append, List.nil_append]
      · have h1 := g1.t
        have h2 := g'.1
        simp only [toPs, h1, h2]
      · have h1 := g1.c
        have h2 := g'.2.1
        simp only [PyData.canLayAll0, h1, h2, Bool.and_self]
      · have h1 := g1.x
        have h2 := g'.2.2
        simp only [txsAll, h1, h2, Bool.and_self]
      · simp only [PyData.depthAll]; omega
local macro_rules | `(tactic| walk_at "dn") => `(tactic| simp (disch := first | assumption | exact gn_new | exact gn_at1 | exact gn_at2 | exact gn_at | (simp only [lowDs, lowD, enc_low, encs_low, Bool.and_self]; done) | (refine clo_t ?_; have hEn := fun n (E : Mh) (h : lowE E = true) => lowE_all n h; simp only [List.all_cons, List.all_nil, List.length_cons, List.length_nil, lowO, lowDs, lowD, low_ints, low_strs, encs_low, Nat.reduceAdd, Nat.reduceLT, lt_succ, List.all_append, List.length_append, decide_true, *, Bool.and_self, Bool.and_true]; done) | (simp only [Nat.reduceLeDiff, encs_len, List.length_cons, List.length_nil, Nat.reduceAdd, flatD, List.all_cons, List.all_nil, Bool.and_self, Bool.and_true, List.length_append, List.length_set, Nat.lt_add_one, *]; done) | (simp only [Dn.sizeLine_eq, PySem.Str.length_append, Nat.add_zero]; omega) | (simp only [encs_len, List.length_take, List.length_map, List.length_cons, List.length_append, List.length_nil]; omega) | omega) only [ret_run, bad_run, bind_run, noX_run, asB_run, eOp_run, eUn_run, eCb_run, aNil_run, aCons_run, eVar_run, eC_run, tCmpD_run, tTruD_run, tAndD_run, tOrD_run, tNotD_run, tYesD_run, eIf_run, eAnd_run, eOr_run, notD_run, eSl_run, oNone_run, oSome_run, sRet_run, sRetN_run, sExp_run, sNx_run, sBk_run, sCt_run, sIf_run, sSeq_run, sAsg_run, gNm_run, gsNil_run, gsCons_run, gSb_run, gTp_tup, gSt_tup, sPar_run, sFor_run, eComp_run, newT_s, newL_s, one1_run, eqD_run, neD_run, eqC_str, eqC_int, eqC_bl, inE_run, ninE_run, inCE_rod, inCE_tup, ixE_rod, ixE_tup, ixE_ls, ixE_ref, addD_int, addD_strok, addD_tup, addD_ref, subD_int, mulD_ok, fdivD_ok, modD_ok, powD_ok, ltD_int, leD_int, gtD_int, geD_int, truC_bl, lenD_tup, lenD_ref, lenD_ls, tupleD_ref, listD_tupn, listD_ref, gc_l0n, wkOf_tup, wkOf_ref, eJoin_run, eLm_run, setD_ref, atD_0, atD_1, atD_2, atD_3, atD_4, setL_0, setL_1, setL_2, setL_3, gs_eq, gs_ne, ga_lt,  List.length_set, List.length_map, set_app, List.set_set, decide_eq_true_eq, inF_nil, inF_int, inF_str, flatD, List.all_cons, List.all_nil, Bool.and_true, Bool.and_self, Bool.or_false, Bool.or_true, Bool.true_or, Bool.false_or, Int.reduceEq, Int.reduceLT, Int.reduceMod, Int.reduceNeg, st_len, st_app, st_at, wipeD, rng1_s, Dn.sizeLine_eq, Nat.reduceLT, Int.reduceToNat, List.length_range, List.length_take, Nat.min_def, compL_cons, compL_nil, stays_none, List.set_nil, fm_0, fm_1, fm_2, fm_3, fm_4, fm_5, fm_6, fm_7, fm_8, fm_9, fm_10, fm_11, fm_12, fm_13, Bool.true_and, Bool.false_and, sortedD_ref, allD_ref, anyD_ref, boolsOf_map, Int.toNat_natCast, isi_s, isi_t, cz_0, cz_1, cz_2, cz_3, eqC_0, slD_tup, joinD_ref, appD_run, stays_iff,  mkFn_run, List.map_cons, List.map_nil, List.reduceReplicate, gn_new, gn_at, List.append_assoc, gc_str, gc_str0, gc_bl, gc_bl0, gc_int, gc_int0, gc_enc, gc_enc0, gc_tup, gc_tup0, gc_zero, gc_nil, gc_l0, reduceCtorEq, Bool.not_eq_true, eq_self,  List.length_append, encs_len,    strsOf_map, pNil_run, pCons_run, eDisp_run, Option.isSome_some, Option.isSome_none, keysD, keyD, List.zip_cons_cons, List.zip_nil_left, List.zip_nil_right, List.foldl_cons, List.foldl_nil, 
  Nat.reduceAdd, Nat.reduceLeDiff, Nat.reduceEqDiff, Nat.reduceSub, String.reduceEq, reduceIte, Int.reduceLE, Nat.le_refl, ofString_inj, List.set_cons_succ, List.set_cons_zero, List.getElem?_cons_succ, List.getElem?_cons_zero, List.length_cons, List.length_nil, decide_true, decide_false, if_true, if_false, Bool.false_eq_true, List.take_succ_cons, List.take_zero, List.drop_succ_cons, List.drop_zero, List.cons_append, List.nil_append, ne_eq, not_false_eq_true, Bool.not_true, Bool.not_false, *])

noncomputable def b_ls (gw gs : Fn) : SD := (sSeq (sIf (tOrD (tNotD (tTruD (eUn (isiD .tuple) (eVar 0)))) (tOrD (tCmpD ltD (eCb (one1 lenD) (aCons (eVar 0) aNil)) (eC (.int 2))) (tNotD (tTruD (eUn (isiD .str) (eOp ixE (eVar 0) (eC (.int 0)))))))) (sRet (eC (.bl false))) sNx) (sSeq (sAsg (eOp ixE (eVar 0) (eC (.int 0))) (gNm 2)) (sSeq (sIf (tCmpD eqD (eVar 2) (eC (.str "letter"))) (sRet (eAnd (eOp eqD (eCb (one1 lenD) (aCons (eVar 0) aNil)) (eC (.int 2))) (eCb gw (aCons (eOp ixE (eVar 0) (eC (.int 1))) aNil)))) sNx) (sSeq (sIf (tCmpD eqD (eVar 2) (eC (.str "not"))) (sRet (eAnd (eOp eqD (eCb (one1 lenD) (aCons (eVar 0) aNil)) (eC (.int 2))) (eCb gs (aCons (eOp ixE (eVar 0) (eC (.int 1))) (aCons (eVar 1) aNil))))) sNx) (sSeq (sIf (tCmpD inE (eVar 2) (eCb newT (aCons (eC (.str "and")) (aCons (eC (.str "or")) aNil)))) (sSeq (sIf (tOrD (tCmpD neD (eCb (one1 lenD) (aCons (eVar 0) aNil)) (eC (.int 2))) (tNotD (tTruD (eUn (isiD .tuple) (eOp ixE (eVar 0) (eC (.int 1))))))) (sRet (eC (.bl false))) sNx) (sRet (eOp eqD (eComp [3] (fun s => ((eOp ixE (eVar 0) (eC (.int 1))) s).bind wkOf) (gNm 3) (tNotD (tTruD (eCb gs (aCons (eVar 3) (aCons (eVar 1) aNil))))) (eVar 3)) (eCb newL aNil)))) sNx) (sSeq (sIf (tCmpD neD (eCb (one1 lenD) (aCons (eVar 0) aNil)) (eC (.int 3))) (sRet (eC (.bl false))) sNx) (sSeq (sIf (tCmpD inE (eVar 2) (eCb newT (aCons (eC (.str "must")) (aCons (eC (.str "may")) aNil)))) (sRet (eAnd (eCb gw (aCons (eOp ixE (eVar 0) (eC (.int 1))) aNil)) (eCb gs (aCons (eOp ixE (eVar 0) (eC (.int 2))) (aCons (eVar 1) aNil))))) sNx) (sSeq (sIf (tOrD (tCmpD eqD (eVar 2) (eC (.str "so"))) (tAndD (tCmpD eqD (eVar 2) (eC (.str "told"))) (tTruD (eVar 1)))) (sRet (eAnd (eCb gs (aCons (eOp ixE (eVar 0) (eC (.int 1))) (aCons (eVar 1) aNil))) (eCb gs (aCons (eOp ixE (eVar 0) (eC (.int 2))) (aCons (eVar 1) aNil))))) sNx) (sRet (eC (.bl false)))))))))))
def LsOk (F : Fn) (n : Nat) : Prop := ∀ (t : Bool) (d : D) (p : PyData) (j : Nat) (M : Mh), Clo M → G M j d p → j ≤ 3 → p.depth ≤ n → p.depth ≤ 60 → F [d, .bl t] M = .ok (.bl (sayP t n p)) M
theorem sy_str {t : Bool} {n : Nat} {x : PyData} {r : List PyData} (h : pty x ≠ .str) : sayP t (n + 1) (.tuple (x :: r)) = false := by
  have h1 : tld (.tuple (x :: r)) = none := by cases x <;> first | rfl | exact absurd rfl h
  rw [sayP, h1]
  cases t <;> simp only [Bool.false_eq_true, if_false, if_true] <;> exact md_str h
theorem ls_ok {gw gs : Fn} {n : Nat} (h : LsOk gs n) (hw : WpOk gw) : LsOk (mkFn 4 2 (b_ls gw gs)) (n + 1) := by
  intro t d p j M cl gd hj hd h60
  by_cases hp : pty p = .tuple
  · obtain ⟨ds, rfl⟩ := pty_tup gd hp
    obtain ⟨ps, rfl, e1, e2, e3, e4⟩ := gd.items
    have gs' : Gs M j ds ps := ⟨e1, e2, e3⟩
    simp only [PyData.depth] at hd h60
    clear gd e1 e2 e3 e4 hp
    match ds, ps, gs', hd, h60 with
    | [], ps, gs', _, _ =>
      obtain rfl := gs'.nil
      have hm : sayP t (n + 1) (.tuple []) = false := by rw [sayP]; cases t <;> rfl
      rw [hm]
      clear h hw
      unfold b_ls
      walk_at "dn"
    | [x], ps, gs', _, _ =>
      obtain ⟨q, qs, rfl, gx, g2⟩ := gs'.cons
      obtain rfl := g2.nil
      have hm : sayP t (n + 1) (.tuple [q]) = false := by
        have h1 : tld (.tuple [q]) = none := by unfold tld; split <;> simp_all
        have h2 : mdP (sayP t n) (.tuple [q]) = false := by cases q <;> rfl
        rw [sayP, h1]
        cases t <;> simp only [Bool.false_eq_true, if_false, if_true] <;> exact h2
      rw [hm]
      clear h hw
      unfold b_ls
      walk_at "dn"
    | x :: y :: r, ps, gs', hd, h60 =>
      obtain ⟨qx, ps2, rfl, gx, g2⟩ := gs'.cons
      obtain ⟨qa, qr, rfl, ga1, gr⟩ := g2.cons
      simp only [PyData.depthAll] at hd h60
      have hl2 : ¬ ((r.length + 1 + 1 : Nat) : Int) < 2 := by omega
      by_cases hx : pty qx = .str
      · obtain ⟨w, rfl, rfl⟩ := pty_str gx hx
        have w1 := hw y qa j M cl ga1
        have s1 := h t y qa j M cl ga1 hj (by omega) (by omega)
        clear gx g2 gs' hx
        by_cases n0 : w = "must"
        · subst n0
          match r, qr, gr, hl2 with
          | [], qr, gr, hl2 =>
            obtain rfl := gr.nil
            have hm : sayP t (n + 1) (.tuple (.str "must" :: qa :: [])) = false := by
              rw [sayP]
              cases t <;> simp only [tld, mdP, List.isEmpty, ofString_inj, String.reduceEq, Bool.false_eq_true, if_false, if_true, or_self, or_false, false_or, or_true, true_or, Bool.true_and, Bool.false_and]
            rw [hm]
            clear hm
            generalize wordP qa = bw at w1 ⊢
            generalize sayP t n qa = ba at s1 ⊢
            clear h hw ga1 gr
            unfold b_ls
            walk_at "dn"
          | [b], qr, gr, hl2 =>
            obtain ⟨qb, qs, rfl, gb, g3⟩ := gr.cons
            obtain rfl := g3.nil
            simp only [PyData.depthAll] at hd h60
            have sb1 := h t b qb j M cl gb hj (by omega) (by omega)
            clear h hw gb g3 gr
            have hm : sayP t (n + 1) (.tuple (.str "must" :: qa :: [qb])) = (wordP qa && sayP t n qb) := by
              rw [sayP]
              cases t <;> simp only [tld, mdP, List.isEmpty, ofString_inj, String.reduceEq, Bool.false_eq_true, if_false, if_true, or_self, or_false, false_or, or_true, true_or, Bool.true_and, Bool.false_and]
            rw [hm]
            clear hm
            generalize wordP qa = bw at w1 ⊢
            generalize sayP t n qa = ba at s1 ⊢
            generalize sayP t n qb = bb at sb1 ⊢
            clear ga1
            unfold b_ls
            cases bw <;> cases bb <;> walk_at "dn"
          | b :: c :: r, qr, gr, hl2 =>
            obtain ⟨qb, qs, rfl, gb, g3⟩ := gr.cons
            obtain ⟨qc, qr, rfl, gc, g4⟩ := g3.cons
            have hl4 : ¬ ((r.length + 1 + 1 + 1 + 1 : Nat) : Int) < 2 := by omega
            have hl5 : ¬ ((r.length + 1 + 1 + 1 + 1 : Nat) : Int) = 2 := by omega
            have hl6 : ¬ ((r.length + 1 + 1 + 1 + 1 : Nat) : Int) = 3 := by omega
            clear h hw gb gc g3 g4 gr
            have hm : sayP t (n + 1) (.tuple (.str "must" :: qa :: (qb :: qc :: qr))) = false := by
              rw [sayP]
              cases t <;> simp only [tld, mdP, List.isEmpty, ofString_inj, String.reduceEq, Bool.false_eq_true, if_false, if_true, or_self, or_false, false_or, or_true, true_or, Bool.true_and, Bool.false_and]
            rw [hm]
            clear hm
            generalize wordP qa = bw at w1 ⊢
            generalize sayP t n qa = ba at s1 ⊢
            clear ga1
            unfold b_ls
            walk_at "dn"
        by_cases n1 : w = "may"
        · subst n1
          match r, qr, gr, hl2 with
          | [], qr, gr, hl2 =>
            obtain rfl := gr.nil
            have hm : sayP t (n + 1) (.tuple (.str "may" :: qa :: [])) = false := by
              rw [sayP]
              cases t <;> simp only [tld, mdP, List.isEmpty, ofString_inj, String.reduceEq, Bool.false_eq_true, if_false, if_true, or_self, or_false, false_or, or_true, true_or, Bool.true_and, Bool.false_and]
            rw [hm]
            clear hm
            generalize wordP qa = bw at w1 ⊢
            generalize sayP t n qa = ba at s1 ⊢
            clear h hw ga1 gr
            unfold b_ls
            walk_at "dn"
          | [b], qr, gr, hl2 =>
            obtain ⟨qb, qs, rfl, gb, g3⟩ := gr.cons
            obtain rfl := g3.nil
            simp only [PyData.depthAll] at hd h60
            have sb1 := h t b qb j M cl gb hj (by omega) (by omega)
            clear h hw gb g3 gr
            have hm : sayP t (n + 1) (.tuple (.str "may" :: qa :: [qb])) = (wordP qa && sayP t n qb) := by
              rw [sayP]
              cases t <;> simp only [tld, mdP, List.isEmpty, ofString_inj, String.reduceEq, Bool.false_eq_true, if_false, if_true, or_self, or_false, false_or, or_true, true_or, Bool.true_and, Bool.false_and]
            rw [hm]
            clear hm
            generalize wordP qa = bw at w1 ⊢
            generalize sayP t n qa = ba at s1 ⊢
            generalize sayP t n qb = bb at sb1 ⊢
            clear ga1
            unfold b_ls
            cases bw <;> cases bb <;> walk_at "dn"
          | b :: c :: r, qr, gr, hl2 =>
            obtain ⟨qb, qs, rfl, gb, g3⟩ := gr.cons
            obtain ⟨qc, qr, rfl, gc, g4⟩ := g3.cons
            have hl4 : ¬ ((r.length + 1 + 1 + 1 + 1 : Nat) : Int) < 2 := by omega
            have hl5 : ¬ ((r.length + 1 + 1 + 1 + 1 : Nat) : Int) = 2 := by omega
            have hl6 : ¬ ((r.length + 1 + 1 + 1 + 1 : Nat) : Int) = 3 := by omega
            clear h hw gb gc g3 g4 gr
            have hm : sayP t (n + 1) (.tuple (.str "may" :: qa :: (qb :: qc :: qr))) = false := by
              rw [sayP]
              cases t <;> simp only [tld, mdP, List.isEmpty, ofString_inj, String.reduceEq, Bool.false_eq_true, if_false, if_true, or_self, or_false, false_or, or_true, true_or, Bool.true_and, Bool.false_and]
            rw [hm]
            clear hm
            generalize wordP qa = bw at w1 ⊢
            generalize sayP t n qa = ba at s1 ⊢
            clear ga1
            unfold b_ls
            walk_at "dn"
        by_cases n2 : w = "so"
        · subst n2
          match r, qr, gr, hl2 with
          | [], qr, gr, hl2 =>
            obtain rfl := gr.nil
            have hm : sayP t (n + 1) (.tuple (.str "so" :: qa :: [])) = false := by
              rw [sayP]
              cases t <;> simp only [tld, mdP, List.isEmpty, ofString_inj, String.reduceEq, Bool.false_eq_true, if_false, if_true, or_self, or_false, false_or, or_true, true_or, Bool.true_and, Bool.false_and]
            rw [hm]
            clear hm
            generalize wordP qa = bw at w1 ⊢
            generalize sayP t n qa = ba at s1 ⊢
            clear h hw ga1 gr
            unfold b_ls
            walk_at "dn"
          | [b], qr, gr, hl2 =>
            obtain ⟨qb, qs, rfl, gb, g3⟩ := gr.cons
            obtain rfl := g3.nil
            simp only [PyData.depthAll] at hd h60
            have sb1 := h t b qb j M cl gb hj (by omega) (by omega)
            clear h hw gb g3 gr
            have hm : sayP t (n + 1) (.tuple (.str "so" :: qa :: [qb])) = (sayP t n qa && sayP t n qb) := by
              rw [sayP]
              cases t <;> simp only [tld, mdP, List.isEmpty, ofString_inj, String.reduceEq, Bool.false_eq_true, if_false, if_true, or_self, or_false, false_or, or_true, true_or, Bool.true_and, Bool.false_and]
            rw [hm]
            clear hm
            generalize wordP qa = bw at w1 ⊢
            generalize sayP t n qa = ba at s1 ⊢
            generalize sayP t n qb = bb at sb1 ⊢
            clear ga1
            unfold b_ls
            cases ba <;> cases bb <;> walk_at "dn"
          | b :: c :: r, qr, gr, hl2 =>
            obtain ⟨qb, qs, rfl, gb, g3⟩ := gr.cons
            obtain ⟨qc, qr, rfl, gc, g4⟩ := g3.cons
            have hl4 : ¬ ((r.length + 1 + 1 + 1 + 1 : Nat) : Int) < 2 := by omega
            have hl5 : ¬ ((r.length + 1 + 1 + 1 + 1 : Nat) : Int) = 2 := by omega
            have hl6 : ¬ ((r.length + 1 + 1 + 1 + 1 : Nat) : Int) = 3 := by omega
            clear h hw gb gc g3 g4 gr
            have hm : sayP t (n + 1) (.tuple (.str "so" :: qa :: (qb :: qc :: qr))) = false := by
              rw [sayP]
              cases t <;> simp only [tld, mdP, List.isEmpty, ofString_inj, String.reduceEq, Bool.false_eq_true, if_false, if_true, or_self, or_false, false_or, or_true, true_or, Bool.true_and, Bool.false_and]
            rw [hm]
            clear hm
            generalize wordP qa = bw at w1 ⊢
            generalize sayP t n qa = ba at s1 ⊢
            clear ga1
            unfold b_ls
            walk_at "dn"
        by_cases n3 : w = "letter"
        · subst n3
          match r, qr, gr, hl2 with
          | [], qr, gr, hl2 =>
            obtain rfl := gr.nil
            have hm : sayP t (n + 1) (.tuple (.str "letter" :: qa :: [])) = wordP qa := by
              rw [sayP]
              cases t <;> simp only [tld, mdP, List.isEmpty, ofString_inj, String.reduceEq, Bool.false_eq_true, if_false, if_true, or_self, or_false, false_or, or_true, true_or, Bool.true_and, Bool.false_and]
            rw [hm]
            clear hm
            generalize wordP qa = bw at w1 ⊢
            generalize sayP t n qa = ba at s1 ⊢
            clear h hw ga1 gr
            unfold b_ls
            cases bw <;> walk_at "dn"
          | [b], qr, gr, hl2 =>
            obtain ⟨qb, qs, rfl, gb, g3⟩ := gr.cons
            obtain rfl := g3.nil
            simp only [PyData.depthAll] at hd h60
            have sb1 := h t b qb j M cl gb hj (by omega) (by omega)
            clear h hw gb g3 gr
            have hm : sayP t (n + 1) (.tuple (.str "letter" :: qa :: [qb])) = false := by
              rw [sayP]
              cases t <;> simp only [tld, mdP, List.isEmpty, ofString_inj, String.reduceEq, Bool.false_eq_true, if_false, if_true, or_self, or_false, false_or, or_true, true_or, Bool.true_and, Bool.false_and]
            rw [hm]
            clear hm
            generalize wordP qa = bw at w1 ⊢
            generalize sayP t n qa = ba at s1 ⊢
            generalize sayP t n qb = bb at sb1 ⊢
            clear ga1
            unfold b_ls
            walk_at "dn"
          | b :: c :: r, qr, gr, hl2 =>
            obtain ⟨qb, qs, rfl, gb, g3⟩ := gr.cons
            obtain ⟨qc, qr, rfl, gc, g4⟩ := g3.cons
            have hl4 : ¬ ((r.length + 1 + 1 + 1 + 1 : Nat) : Int) < 2 := by omega
            have hl5 : ¬ ((r.length + 1 + 1 + 1 + 1 : Nat) : Int) = 2 := by omega
            have hl6 : ¬ ((r.length + 1 + 1 + 1 + 1 : Nat) : Int) = 3 := by omega
            clear h hw gb gc g3 g4 gr
            have hm : sayP t (n + 1) (.tuple (.str "letter" :: qa :: (qb :: qc :: qr))) = false := by
              rw [sayP]
              cases t <;> simp only [tld, mdP, List.isEmpty, ofString_inj, String.reduceEq, Bool.false_eq_true, if_false, if_true, or_self, or_false, false_or, or_true, true_or, Bool.true_and, Bool.false_and]
            rw [hm]
            clear hm
            generalize wordP qa = bw at w1 ⊢
            generalize sayP t n qa = ba at s1 ⊢
            clear ga1
            unfold b_ls
            walk_at "dn"
        by_cases n4 : w = "not"
        · subst n4
          match r, qr, gr, hl2 with
          | [], qr, gr, hl2 =>
            obtain rfl := gr.nil
            have hm : sayP t (n + 1) (.tuple (.str "not" :: qa :: [])) = sayP t n qa := by
              rw [sayP]
              cases t <;> simp only [tld, mdP, List.isEmpty, ofString_inj, String.reduceEq, Bool.false_eq_true, if_false, if_true, or_self, or_false, false_or, or_true, true_or, Bool.true_and, Bool.false_and]
            rw [hm]
            clear hm
            generalize wordP qa = bw at w1 ⊢
            generalize sayP t n qa = ba at s1 ⊢
            clear h hw ga1 gr
            unfold b_ls
            cases ba <;> walk_at "dn"
          | [b], qr, gr, hl2 =>
            obtain ⟨qb, qs, rfl, gb, g3⟩ := gr.cons
            obtain rfl := g3.nil
            simp only [PyData.depthAll] at hd h60
            have sb1 := h t b qb j M cl gb hj (by omega) (by omega)
            clear h hw gb g3 gr
            have hm : sayP t (n + 1) (.tuple (.str "not" :: qa :: [qb])) = false := by
              rw [sayP]
              cases t <;> simp only [tld, mdP, List.isEmpty, ofString_inj, String.reduceEq, Bool.false_eq_true, if_false, if_true, or_self, or_false, false_or, or_true, true_or, Bool.true_and, Bool.false_and]
            rw [hm]
            clear hm
            generalize wordP qa = bw at w1 ⊢
            generalize sayP t n qa = ba at s1 ⊢
            generalize sayP t n qb = bb at sb1 ⊢
            clear ga1
            unfold b_ls
            walk_at "dn"
          | b :: c :: r, qr, gr, hl2 =>
            obtain ⟨qb, qs, rfl, gb, g3⟩ := gr.cons
            obtain ⟨qc, qr, rfl, gc, g4⟩ := g3.cons
            have hl4 : ¬ ((r.length + 1 + 1 + 1 + 1 : Nat) : Int) < 2 := by omega
            have hl5 : ¬ ((r.length + 1 + 1 + 1 + 1 : Nat) : Int) = 2 := by omega
            have hl6 : ¬ ((r.length + 1 + 1 + 1 + 1 : Nat) : Int) = 3 := by omega
            clear h hw gb gc g3 g4 gr
            have hm : sayP t (n + 1) (.tuple (.str "not" :: qa :: (qb :: qc :: qr))) = false := by
              rw [sayP]
              cases t <;> simp only [tld, mdP, List.isEmpty, ofString_inj, String.reduceEq, Bool.false_eq_true, if_false, if_true, or_self, or_false, false_or, or_true, true_or, Bool.true_and, Bool.false_and]
            rw [hm]
            clear hm
            generalize wordP qa = bw at w1 ⊢
            generalize sayP t n qa = ba at s1 ⊢
            clear ga1
            unfold b_ls
            walk_at "dn"
        by_cases n5 : w = "and"
        · subst n5
          match r, qr, gr, hl2 with
          | [], qr, gr, hl2 =>
            obtain rfl := gr.nil
            have hm : sayP t (n + 1) (.tuple (.str "and" :: qa :: [])) = alP (sayP t n) qa := by
              rw [sayP]
              cases t <;> simp only [tld, mdP, List.isEmpty, ofString_inj, String.reduceEq, Bool.false_eq_true, if_false, if_true, or_self, or_false, false_or, or_true, true_or, Bool.true_and, Bool.false_and]
            rw [hm]
            clear hm
            by_cases hat : pty qa = .tuple
            · obtain ⟨es, rfl⟩ := pty_tup ga1 hat
              obtain ⟨pe, rfl, f1, f2, f3, f4⟩ := ga1.items
              have ge : Gs M j es pe := ⟨f1, f2, f3⟩
              simp only [PyData.depth] at hd h60
              obtain ⟨es', pe', ec, ge', hde, hb⟩ := flt_gen (sayP t n) (w := ⟨none, es⟩) (v := 3) (tt := tNotD (tTruD (eCb gs (aCons (eVar 3) (aCons (eVar 1) aNil))))) (te := eVar 3) (s0 := [some (.tup [.str "and", .tup es]), some (.bl t), some (.str "and"), none]) (stays_none.mpr trivial) es pe [] ge (fun d p g hp => by
                have e := h t d p j M cl g hj (by omega) (by omega)
                clear h hw w1 s1 ge f1 f2 f3 f4
                constructor <;> walk_at "dn")
              rw [List.nil_append] at ec
              have hel : es.length < 16777216 := by rw [ge.len]; omega
              have eq := eqC_nilG (M := M ++ [.lst es', .lst []]) gn_new gn_at1 (ge'.keep (kp_app M _)).1 hj ge'.2.1 (by omega)
              rw [hb] at eq
              have hal : alP (sayP t n) (.tuple pe) = pe.all (sayP t n) := rfl
              rw [hal]
              generalize pe.all (sayP t n) = bl at eq ⊢
              clear h hw w1 s1 ge f1 f2 f3 f4 hb hal ga1 gr
              unfold b_ls
              walk_at "dn"
            · have hi := fun T => ga1.isi T
              have hs := sub_tup hat
              have hal : alP (sayP t n) qa = false := by cases qa <;> first | rfl | exact absurd rfl hat
              rw [hal]
              clear h hw w1 s1 ga1 gr hal
              unfold b_ls
              walk_at "dn"
          | [b], qr, gr, hl2 =>
            obtain ⟨qb, qs, rfl, gb, g3⟩ := gr.cons
            obtain rfl := g3.nil
            simp only [PyData.depthAll] at hd h60
            have sb1 := h t b qb j M cl gb hj (by omega) (by omega)
            clear h hw gb g3 gr
            have hm : sayP t (n + 1) (.tuple (.str "and" :: qa :: [qb])) = false := by
              rw [sayP]
              cases t <;> simp only [tld, mdP, List.isEmpty, ofString_inj, String.reduceEq, Bool.false_eq_true, if_false, if_true, or_self, or_false, false_or, or_true, true_or, Bool.true_and, Bool.false_and]
            rw [hm]
            clear hm
            generalize wordP qa = bw at w1 ⊢
            generalize sayP t n qa = ba at s1 ⊢
            generalize sayP t n qb = bb at sb1 ⊢
            clear ga1
            unfold b_ls
            walk_at "dn"
          | b :: c :: r, qr, gr, hl2 =>
            obtain ⟨qb, qs, rfl, gb, g3⟩ := gr.cons
            obtain ⟨qc, qr, rfl, gc, g4⟩ := g3.cons
            have hl4 : ¬ ((r.length + 1 + 1 + 1 + 1 : Nat) : Int) < 2 := by omega
            have hl5 : ¬ ((r.length + 1 + 1 + 1 + 1 : Nat) : Int) = 2 := by omega
            have hl6 : ¬ ((r.length + 1 + 1 + 1 + 1 : Nat) : Int) = 3 := by omega
            clear h hw gb gc g3 g4 gr
            have hm : sayP t (n + 1) (.tuple (.str "and" :: qa :: (qb :: qc :: qr))) = false := by
              rw [sayP]
              cases t <;> simp only [tld, mdP, List.isEmpty, ofString_inj, String.reduceEq, Bool.false_eq_true, if_false, if_true, or_self, or_false, false_or, or_true, true_or, Bool.true_and, Bool.false_and]
            rw [hm]
            clear hm
            generalize wordP qa = bw at w1 ⊢
            generalize sayP t n qa = ba at s1 ⊢
            clear ga1
            unfold b_ls
            walk_at "dn"
        by_cases n6 : w = "or"
        · subst n6
          match r, qr, gr, hl2 with
          | [], qr, gr, hl2 =>
            obtain rfl := gr.nil
            have hm : sayP t (n + 1) (.tuple (.str "or" :: qa :: [])) = alP (sayP t n) qa := by
              rw [sayP]
              cases t <;> simp only [tld, mdP, List.isEmpty, ofString_inj, String.reduceEq, Bool.false_eq_true, if_false, if_true, or_self, or_false, false_or, or_true, true_or, Bool.true_and, Bool.false_and]
            rw [hm]
            clear hm
            by_cases hat : pty qa = .tuple
            · obtain ⟨es, rfl⟩ := pty_tup ga1 hat
              obtain ⟨pe, rfl, f1, f2, f3, f4⟩ := ga1.items
              have ge : Gs M j es pe := ⟨f1, f2, f3⟩
              simp only [PyData.depth] at hd h60
              obtain ⟨es', pe', ec, ge', hde, hb⟩ := flt_gen (sayP t n) (w := ⟨none, es⟩) (v := 3) (tt := tNotD (tTruD (eCb gs (aCons (eVar 3) (aCons (eVar 1) aNil))))) (te := eVar 3) (s0 := [some (.tup [.str "or", .tup es]), some (.bl t), some (.str "or"), none]) (stays_none.mpr trivial) es pe [] ge (fun d p g hp => by
                have e := h t d p j M cl g hj (by omega) (by omega)
                clear h hw w1 s1 ge f1 f2 f3 f4
                constructor <;> walk_at "dn")
              rw [List.nil_append] at ec
              have hel : es.length < 16777216 := by rw [ge.len]; omega
              have eq := eqC_nilG (M := M ++ [.lst es', .lst []]) gn_new gn_at1 (ge'.keep (kp_app M _)).1 hj ge'.2.1 (by omega)
              rw [hb] at eq
              have hal : alP (sayP t n) (.tuple pe) = pe.all (sayP t n) := rfl
              rw [hal]
              generalize pe.all (sayP t n) = bl at eq ⊢
              clear h hw w1 s1 ge f1 f2 f3 f4 hb hal ga1 gr
              unfold b_ls
              walk_at "dn"
            · have hi := fun T => ga1.isi T
              have hs := sub_tup hat
              have hal : alP (sayP t n) qa = false := by cases qa <;> first | rfl | exact absurd rfl hat
              rw [hal]
              clear h hw w1 s1 ga1 gr hal
              unfold b_ls
              walk_at "dn"
          | [b], qr, gr, hl2 =>
            obtain ⟨qb, qs, rfl, gb, g3⟩ := gr.cons
            obtain rfl := g3.nil
            simp only [PyData.depthAll] at hd h60
            have sb1 := h t b qb j M cl gb hj (by omega) (by omega)
            clear h hw gb g3 gr
            have hm : sayP t (n + 1) (.tuple (.str "or" :: qa :: [qb])) = false := by
              rw [sayP]
              cases t <;> simp only [tld, mdP, List.isEmpty, ofString_inj, String.reduceEq, Bool.false_eq_true, if_false, if_true, or_self, or_false, false_or, or_true, true_or, Bool.true_and, Bool.false_and]
            rw [hm]
            clear hm
            generalize wordP qa = bw at w1 ⊢
            generalize sayP t n qa = ba at s1 ⊢
            generalize sayP t n qb = bb at sb1 ⊢
            clear ga1
            unfold b_ls
            walk_at "dn"
          | b :: c :: r, qr, gr, hl2 =>
            obtain ⟨qb, qs, rfl, gb, g3⟩ := gr.cons
            obtain ⟨qc, qr, rfl, gc, g4⟩ := g3.cons
            have hl4 : ¬ ((r.length + 1 + 1 + 1 + 1 : Nat) : Int) < 2 := by omega
            have hl5 : ¬ ((r.length + 1 + 1 + 1 + 1 : Nat) : Int) = 2 := by omega
            have hl6 : ¬ ((r.length + 1 + 1 + 1 + 1 : Nat) : Int) = 3 := by omega
            clear h hw gb gc g3 g4 gr
            have hm : sayP t (n + 1) (.tuple (.str "or" :: qa :: (qb :: qc :: qr))) = false := by
              rw [sayP]
              cases t <;> simp only [tld, mdP, List.isEmpty, ofString_inj, String.reduceEq, Bool.false_eq_true, if_false, if_true, or_self, or_false, false_or, or_true, true_or, Bool.true_and, Bool.false_and]
            rw [hm]
            clear hm
            generalize wordP qa = bw at w1 ⊢
            generalize sayP t n qa = ba at s1 ⊢
            clear ga1
            unfold b_ls
            walk_at "dn"
        by_cases n7 : w = "told"
        · subst n7
          match r, qr, gr, hl2 with
          | [], qr, gr, hl2 =>
            obtain rfl := gr.nil
            have hm : sayP t (n + 1) (.tuple (.str "told" :: qa :: [])) = false := by
              rw [sayP]
              cases t <;> simp only [tld, mdP, List.isEmpty, ofString_inj, String.reduceEq, Bool.false_eq_true, if_false, if_true, or_self, or_false, false_or, or_true, true_or, Bool.true_and, Bool.false_and]
            rw [hm]
            clear hm
            generalize wordP qa = bw at w1 ⊢
            generalize sayP t n qa = ba at s1 ⊢
            clear h hw ga1 gr
            unfold b_ls
            cases t <;> walk_at "dn"
          | [b], qr, gr, hl2 =>
            obtain ⟨qb, qs, rfl, gb, g3⟩ := gr.cons
            obtain rfl := g3.nil
            simp only [PyData.depthAll] at hd h60
            have sb1 := h t b qb j M cl gb hj (by omega) (by omega)
            clear h hw gb g3 gr
            have hm : sayP t (n + 1) (.tuple (.str "told" :: qa :: [qb])) = (t && (sayP t n qa && sayP t n qb)) := by
              rw [sayP]
              cases t <;> simp only [tld, mdP, List.isEmpty, ofString_inj, String.reduceEq, Bool.false_eq_true, if_false, if_true, or_self, or_false, false_or, or_true, true_or, Bool.true_and, Bool.false_and]
            rw [hm]
            clear hm
            generalize wordP qa = bw at w1 ⊢
            generalize sayP t n qa = ba at s1 ⊢
            generalize sayP t n qb = bb at sb1 ⊢
            clear ga1
            unfold b_ls
            cases t <;> cases ba <;> cases bb <;> walk_at "dn"
          | b :: c :: r, qr, gr, hl2 =>
            obtain ⟨qb, qs, rfl, gb, g3⟩ := gr.cons
            obtain ⟨qc, qr, rfl, gc, g4⟩ := g3.cons
            have hl4 : ¬ ((r.length + 1 + 1 + 1 + 1 : Nat) : Int) < 2 := by omega
            have hl5 : ¬ ((r.length + 1 + 1 + 1 + 1 : Nat) : Int) = 2 := by omega
            have hl6 : ¬ ((r.length + 1 + 1 + 1 + 1 : Nat) : Int) = 3 := by omega
            clear h hw gb gc g3 g4 gr
            have hm : sayP t (n + 1) (.tuple (.str "told" :: qa :: (qb :: qc :: qr))) = false := by
              rw [sayP]
              cases t <;> simp only [tld, mdP, List.isEmpty, ofString_inj, String.reduceEq, Bool.false_eq_true, if_false, if_true, or_self, or_false, false_or, or_true, true_or, Bool.true_and, Bool.false_and]
            rw [hm]
            clear hm
            generalize wordP qa = bw at w1 ⊢
            generalize sayP t n qa = ba at s1 ⊢
            clear ga1
            unfold b_ls
            cases t <;> walk_at "dn"
        have m0 : ¬ ("must" : Str) = w := fun e => n0 e.symm
        have m1 : ¬ ("may" : Str) = w := fun e => n1 e.symm
        have m2 : ¬ ("so" : Str) = w := fun e => n2 e.symm
        have m3 : ¬ ("letter" : Str) = w := fun e => n3 e.symm
        have m4 : ¬ ("not" : Str) = w := fun e => n4 e.symm
        have m5 : ¬ ("and" : Str) = w := fun e => n5 e.symm
        have m6 : ¬ ("or" : Str) = w := fun e => n6 e.symm
        have m7 : ¬ ("told" : Str) = w := fun e => n7 e.symm
        match r, qr, gr, hl2 with
        | [], qr, gr, hl2 =>
          obtain rfl := gr.nil
          have hm : sayP t (n + 1) (.tuple (.str w :: qa :: [])) = false := by
            rw [sayP]
            cases t <;> simp only [tld, mdP, List.isEmpty, n0, n1, n2, n3, n4, n5, n6, n7, ofString_inj, String.reduceEq, Bool.false_eq_true, if_false, if_true, or_self, or_false, false_or, or_true, true_or, Bool.true_and, Bool.false_and]
          rw [hm]
          clear hm
          generalize wordP qa = bw at w1 ⊢
          generalize sayP t n qa = ba at s1 ⊢
          clear h hw ga1 gr
          unfold b_ls
          walk_at "dn"
        | [b], qr, gr, hl2 =>
          obtain ⟨qb, qs, rfl, gb, g3⟩ := gr.cons
          obtain rfl := g3.nil
          simp only [PyData.depthAll] at hd h60
          have sb1 := h t b qb j M cl gb hj (by omega) (by omega)
          clear h hw gb g3 gr
          have hm : sayP t (n + 1) (.tuple (.str w :: qa :: [qb])) = false := by
            rw [sayP]
            cases t <;> simp only [tld, mdP, List.isEmpty, n0, n1, n2, n3, n4, n5, n6, n7, ofString_inj, String.reduceEq, Bool.false_eq_true, if_false, if_true, or_self, or_false, false_or, or_true, true_or, Bool.true_and, Bool.false_and]
          rw [hm]
          clear hm
          generalize wordP qa = bw at w1 ⊢
          generalize sayP t n qa = ba at s1 ⊢
          generalize sayP t n qb = bb at sb1 ⊢
          clear ga1
          unfold b_ls
          walk_at "dn"
        | b :: c :: r, qr, gr, hl2 =>
          obtain ⟨qb, qs, rfl, gb, g3⟩ := gr.cons
          obtain ⟨qc, qr, rfl, gc, g4⟩ := g3.cons
          have hl4 : ¬ ((r.length + 1 + 1 + 1 + 1 : Nat) : Int) < 2 := by omega
          have hl5 : ¬ ((r.length + 1 + 1 + 1 + 1 : Nat) : Int) = 2 := by omega
          have hl6 : ¬ ((r.length + 1 + 1 + 1 + 1 : Nat) : Int) = 3 := by omega
          clear h hw gb gc g3 g4 gr
          have hm : sayP t (n + 1) (.tuple (.str w :: qa :: (qb :: qc :: qr))) = false := by
            rw [sayP]
            cases t <;> simp only [tld, mdP, List.isEmpty, n0, n1, n2, n3, n4, n5, n6, n7, ofString_inj, String.reduceEq, Bool.false_eq_true, if_false, if_true, or_self, or_false, false_or, or_true, true_or, Bool.true_and, Bool.false_and]
          rw [hm]
          clear hm
          generalize wordP qa = bw at w1 ⊢
          generalize sayP t n qa = ba at s1 ⊢
          clear ga1
          unfold b_ls
          walk_at "dn"
      · have hi := fun T => gx.isi T
        have hs := sub_str hx
        rw [sy_str hx]
        clear h hw gx g2 gs' ga1 gr
        unfold b_ls
        walk_at "dn"
  · have hi := fun T => gd.isi T
    have hs := sub_tup hp
    have hm : sayP t (n + 1) p = false := by
      have h1 : tld p = none := by cases p <;> first | rfl | exact absurd rfl hp
      have h2 : mdP (sayP t n) p = false := by cases p <;> first | rfl | exact absurd rfl hp
      rw [sayP, h1]
      cases t <;> simp only [Bool.false_eq_true, if_false, if_true] <;> exact h2
    rw [hm]
    clear h hw gd
    unfold b_ls
    walk_at "dn"
end Dn

/-! Thg5: both looks tell the same -/
namespace Dn
open PySem PySem.Spec PyProof.Rows L2
mutual
/-- no shorter than its text -/
def mz : PyData → Nat
  | .tuple xs => mzs xs + 6
  | .list xs => mzs xs + 6
  | p => p.shown.length
def mzs : List PyData → Nat
  | [] => 0
  | x :: xs => mz x + 2 + mzs xs
end
mutual
theorem shown_mz : ∀ p : PyData, p.shown.length ≤ mz p
  | .none => Nat.le_refl _
  | .bool _ => Nat.le_refl _
  | .int _ => Nat.le_refl _
  | .str _ => Nat.le_refl _
  | .dict _ => Nat.le_refl _
  | .tuple xs => by
    have := tupleText_len (PyData.shownAll xs)
    have := showns_mz xs
    simp only [PyData.shown, mz]; omega
  | .list xs => by
    have := listText_len (PyData.shownAll xs)
    have := showns_mz xs
    simp only [PyData.shown, mz]; omega
theorem showns_mz : ∀ l : List PyData, piled (PyData.shownAll l) ≤ mzs l
  | [] => by simp only [PyData.shownAll, piled_nil, mzs]; omega
  | x :: l => by
    have := shown_mz x
    have := showns_mz l
    simp only [PyData.shownAll, piled_cons, mzs]; omega
end
/-- a thing of which all can be asked -/
structure Tg (M : Mh) (d : D) (p : PyData) : Prop where
  g : G M 3 d p
  d : p.depth ≤ 60
  s : p.showable = true
  h : p.hasDict = false
  z : mz p ≤ 100000
theorem Tg.keep {M M' : Mh} {d : D} {p : PyData} (t : Tg M d p) (h : Kp M M') : Tg M' d p := ⟨t.g.keep h (Nat.le_refl _), t.d, t.s, t.h, t.z⟩
theorem Tg.repr {M : Mh} {d : D} {p : PyData} (t : Tg M d p) : reprD d M = .ok (.str p.shown) M := by
  rw [reprD_run, t.g.data (by omega)]
  have := shown_mz p
  have := t.z
  have := t.d
  exact if_pos ⟨t.s, t.h, by omega, by rw [Dn.sizeLine_eq]; omega⟩
theorem eqC_sstr (a : Str) (M : Mh) : eqC (.str a) (.str a) M = .ok true M := by
  unfold eqC eqS; simp only [decide_true]
theorem repr_b3 {M : Mh} {k : Nat} {a b c : Bool} (hk : M[k]? = some (.lst [.bl a, .bl b, .bl c])) : reprD (.ref k) M = .ok (.str (PyData.list [.bool a, .bool b, .bool c]).shown) M := by
  rw [reprD_run, dataOf_ref, hk]
  simp only [toPs, toP, Option.map_some]
  refine if_pos ⟨by simp only [PyData.showable, PyData.showableAll, Bool.and_self], by simp only [PyData.hasDict, PyData.hasDictAll, Bool.or_self], by simp only [PyData.depth, PyData.depthAll]; omega, ?_⟩
  rw [Dn.sizeLine_eq]
  have : (PyData.list [.bool a, .bool b, .bool c]).shown.length ≤ 100 := by cases a <;> cases b <;> cases c <;> decide +kernel
  omega
local macro_rules | `(tactic| walk_at "dn") => `(tactic| simp (disch := first | assumption | exact gn_new | exact gn_at1 | exact gn_at2 | exact gn_at | (simp only [lowDs, lowD, enc_low, encs_low, Bool.and_self]; done) | (refine clo_t ?_; have hEn := fun n (E : Mh) (h : lowE E = true) => lowE_all n h; simp only [List.all_cons, List.all_nil, List.length_cons, List.length_nil, lowO, lowDs, lowD, low_ints, low_strs, encs_low, Nat.reduceAdd, Nat.reduceLT, lt_succ, List.all_append, List.length_append, decide_true, *, Bool.and_self, Bool.and_true]; done) | (simp only [Nat.reduceLeDiff, encs_len, List.length_cons, List.length_nil, Nat.reduceAdd, flatD, List.all_cons, List.all_nil, Bool.and_self, Bool.and_true, List.length_append, List.length_set, Nat.lt_add_one, *]; done) | (simp only [Dn.sizeLine_eq, PySem.Str.length_append, Nat.add_zero]; omega) | (simp only [encs_len, List.length_take, List.length_map, List.length_cons, List.length_append, List.length_nil]; omega) | omega) only [ret_run, bad_run, bind_run, noX_run, asB_run, eOp_run, eUn_run, eCb_run, aNil_run, aCons_run, eVar_run, eC_run, tCmpD_run, tTruD_run, tAndD_run, tOrD_run, tNotD_run, tYesD_run, eIf_run, eAnd_run, eOr_run, notD_run, eSl_run, oNone_run, oSome_run, sRet_run, sRetN_run, sExp_run, sNx_run, sBk_run, sCt_run, sIf_run, sSeq_run, sAsg_run, gNm_run, gsNil_run, gsCons_run, gSb_run, gTp_tup, gSt_tup, sPar_run, sFor_run, eComp_run, newT_s, newL_s, one1_run, eqD_run, neD_run, eqC_str, eqC_int, eqC_bl, inE_run, ninE_run, inCE_rod, inCE_tup, ixE_rod, ixE_tup, ixE_ls, ixE_ref, addD_int, addD_strok, addD_tup, addD_ref, subD_int, mulD_ok, fdivD_ok, modD_ok, powD_ok, ltD_int, leD_int, gtD_int, geD_int, truC_bl, lenD_tup, lenD_ref, lenD_ls, tupleD_ref, listD_tupn, listD_ref, gc_l0n, wkOf_tup, wkOf_ref, eJoin_run, eLm_run, setD_ref, atD_0, atD_1, atD_2, atD_3, atD_4, setL_0, setL_1, setL_2, setL_3, gs_eq, gs_ne, ga_lt,  List.length_set, List.length_map, set_app, List.set_set, decide_eq_true_eq, inF_nil, inF_int, inF_str, flatD, List.all_cons, List.all_nil, Bool.and_true, Bool.and_self, Bool.or_false, Bool.or_true, Bool.true_or, Bool.false_or, Int.reduceEq, Int.reduceLT, Int.reduceMod, Int.reduceNeg, st_len, st_app, st_at, wipeD, rng1_s, Dn.sizeLine_eq, Nat.reduceLT, Int.reduceToNat, List.length_range, List.length_take, Nat.min_def, compL_cons, compL_nil, stays_none, List.set_nil, fm_0, fm_1, fm_2, fm_3, fm_4, fm_5, fm_6, fm_7, fm_8, fm_9, fm_10, fm_11, fm_12, fm_13, Bool.true_and, Bool.false_and, boolsOf_map, Int.toNat_natCast, eqC_sstr, joinD_ref, appD_run, stays_iff,  mkFn_run, List.map_cons, List.map_nil, List.reduceReplicate, gn_new, gn_at, List.append_assoc, gc_str, gc_str0, gc_bl, gc_bl0, gc_int, gc_int0, gc_enc, gc_enc0, gc_tup, gc_tup0, gc_zero, gc_nil, gc_l0, reduceCtorEq, Bool.not_eq_true, eq_self,  List.length_append, encs_len,    strsOf_map, pNil_run, pCons_run, eDisp_run, Option.isSome_some, Option.isSome_none, keysD, keyD, List.zip_cons_cons, List.zip_nil_left, List.zip_nil_right, List.foldl_cons, List.foldl_nil, 
  Nat.reduceAdd, Nat.reduceLeDiff, Nat.reduceEqDiff, Nat.reduceSub, String.reduceEq, reduceIte, Int.reduceLE, Nat.le_refl, ofString_inj, List.set_cons_succ, List.set_cons_zero, List.getElem?_cons_succ, List.getElem?_cons_zero, List.length_cons, List.length_nil, decide_true, decide_false, if_true, if_false, Bool.false_eq_true, List.take_succ_cons, List.take_zero, List.drop_succ_cons, List.drop_zero, List.cons_append, List.nil_append, ne_eq, not_false_eq_true, Bool.not_true, Bool.not_false, *])

noncomputable def lkB (g : Nat → Fn) : SD := (sSeq (sAsg (eCb (one1 reprD) (aCons (eVar 10) aNil)) (gNm 11)) (sSeq (sAsg (eCb newL (aCons (eCb (g 8) (aCons (eVar 10) aNil)) (aCons (eCb (g 9) (aCons (eVar 10) (aCons (eC (.bl true)) aNil))) (aCons (eCb (g 9) (aCons (eVar 10) (aCons (eC (.bl false)) aNil))) aNil)))) (gNm 12)) (sIf (tOrD (tCmpD neD (eCb (one1 reprD) (aCons (eCb newL (aCons (eCb (g 0) (aCons (eVar 10) aNil)) (aCons (eCb (g 4) (aCons (eVar 10) aNil)) (aCons (eCb (g 3) (aCons (eVar 10) aNil)) aNil)))) aNil)) (eCb (one1 reprD) (aCons (eVar 12) aNil))) (tCmpD neD (eCb (one1 reprD) (aCons (eVar 10) aNil)) (eVar 11))) (sRet (eC (.bl false))) sNx)))
theorem lk_ok {g : Nat → Fn} (t0 : WpOk (g 0)) (t8 : WpOk (g 8)) (t9 : LsOk (g 9) 60) (t4 : SyOk true (g 4) 60) (t3 : SyOk false (g 3) 60) {M : Mh} (cl : Clo M) {d : D} {p : PyData} (tg : Tg M d p) {x0 x1 x2 x3 x4 x5 x6 x7 x8 x9 x11 x12 : Option D} :
    ∃ y11 y12 E, lkB g [x0, x1, x2, x3, x4, x5, x6, x7, x8, x9, some d, x11, x12] M = .ok (.nx, [x0, x1, x2, x3, x4, x5, x6, x7, x8, x9, some d, y11, y12]) (M ++ E) ∧ lowE E = true := by
  have hd := tg.d
  let E1 : Mh := [.lst [.bl (wordP p), .bl (sayP true 60 p), .bl (sayP false 60 p)]]
  let E2 : Mh := [.lst [.bl (wordP p), .bl (sayP true 60 p), .bl (sayP false 60 p)], .lst [.bl (wordP p), .bl (sayP true 60 p), .bl (sayP false 60 p)]]
  have c1 : Clo (M ++ E1) := Clo_appE cl rfl
  have g1 := tg.keep (kp_app M E1)
  have g2 := tg.keep (kp_app M E2)
  have r0 := tg.repr
  have r2 := g2.repr
  have a8 := t8 d p 3 M cl tg.g
  have a9 := t9 true d p 3 M cl tg.g (by omega) (by omega) (by omega)
  have a9' := t9 false d p 3 M cl tg.g (by omega) (by omega) (by omega)
  have b0 := t0 d p 3 (M ++ E1) c1 g1.g
  have b4 := t4 d p 3 (M ++ E1) c1 g1.g (by omega) (by omega) (by omega)
  have b3 := t3 d p 3 (M ++ E1) c1 g1.g (by omega) (by omega) (by omega)
  have q1 := repr_b3 (M := M ++ E2) (k := M.length) (a := wordP p) (b := sayP true 60 p) (c := sayP false 60 p) gn_new
  have q2 := repr_b3 (M := M ++ E2) (k := M.length + 1) (a := wordP p) (b := sayP true 60 p) (c := sayP false 60 p) gn_at1
  refine ⟨some (.str p.shown), some (.ref M.length), E2, ?_, rfl⟩
  simp only [E1, E2] at b0 b4 b3 q1 q2 r2 ⊢
  clear t0 t8 t9 t4 t3 tg g1 g2 c1
  generalize wordP p = wb at *
  generalize sayP true 60 p = st at *
  generalize sayP false 60 p = sf at *
  generalize (PyData.list [.bool wb, .bool st, .bool sf]).shown = sh at q1 q2
  generalize p.shown = ps at *
  unfold lkB
  walk_at "dn"
end Dn

/-! Thg6: things without an inside -/
namespace Dn
open PySem PySem.Spec PyProof.Rows L2
theorem leaf_ty {p : PyData} (h : p.depth ≤ 0) : pty p ≠ .tuple := by
  cases p with
  | tuple xs => simp only [PyData.depth] at h; omega
  | _ => exact fun e => nomatch e
local macro_rules | `(tactic| walk_at "dn") => `(tactic| simp (disch := first | assumption | exact gn_new | exact gn_at1 | exact gn_at2 | exact gn_at | (simp only [lowDs, lowD, enc_low, encs_low, Bool.and_self]; done) | (refine clo_t ?_; have hEn := fun n (E : Mh) (h : lowE E = true) => lowE_all n h; simp only [List.all_cons, List.all_nil, List.length_cons, List.length_nil, lowO, lowDs, lowD, low_ints, low_strs, encs_low, Nat.reduceAdd, Nat.reduceLT, lt_succ, List.all_append, List.length_append, decide_true, *, Bool.and_self, Bool.and_true]; done) | (simp only [Nat.reduceLeDiff, encs_len, List.length_cons, List.length_nil, Nat.reduceAdd, flatD, List.all_cons, List.all_nil, Bool.and_self, Bool.and_true, List.length_append, List.length_set, Nat.lt_add_one, *]; done) | (simp only [Dn.sizeLine_eq, PySem.Str.length_append, Nat.add_zero]; omega) | (simp only [encs_len, List.length_take, List.length_map, List.length_cons, List.length_append, List.length_nil]; omega) | omega) only [ret_run, bad_run, bind_run, noX_run, asB_run, eOp_run, eUn_run, eCb_run, aNil_run, aCons_run, eVar_run, eC_run, tCmpD_run, tTruD_run, tAndD_run, tOrD_run, tNotD_run, tYesD_run, eIf_run, eAnd_run, eOr_run, notD_run, eSl_run, oNone_run, oSome_run, sRet_run, sRetN_run, sExp_run, sNx_run, sBk_run, sCt_run, sIf_run, sSeq_run, sAsg_run, gNm_run, gsNil_run, gsCons_run, gSb_run, gTp_tup, gSt_tup, sPar_run, sFor_run, eComp_run, newT_s, newL_s, one1_run, eqD_run, neD_run, eqC_str, eqC_int, eqC_bl, inE_run, ninE_run, inCE_rod, inCE_tup, ixE_rod, ixE_tup, ixE_ls, ixE_ref, addD_int, addD_strok, addD_tup, addD_ref, subD_int, mulD_ok, fdivD_ok, modD_ok, powD_ok, ltD_int, leD_int, gtD_int, geD_int, truC_bl, lenD_tup, lenD_ref, lenD_ls, tupleD_ref, listD_tupn, listD_ref, gc_l0n, wkOf_tup, wkOf_ref, eJoin_run, eLm_run, setD_ref, atD_0, atD_1, atD_2, atD_3, atD_4, setL_0, setL_1, setL_2, setL_3, gs_eq, gs_ne, ga_lt,  List.length_set, List.length_map, set_app, List.set_set, decide_eq_true_eq, inF_nil, inF_int, inF_str, flatD, List.all_cons, List.all_nil, Bool.and_true, Bool.and_self, Bool.or_false, Bool.or_true, Bool.true_or, Bool.false_or, Int.reduceEq, Int.reduceLT, Int.reduceMod, Int.reduceNeg, st_len, st_app, st_at, wipeD, rng1_s, Dn.sizeLine_eq, Nat.reduceLT, Int.reduceToNat, List.length_range, List.length_take, Nat.min_def, compL_cons, compL_nil, stays_none, List.set_nil, fm_0, fm_1, fm_2, fm_3, fm_4, fm_5, fm_6, fm_7, fm_8, fm_9, fm_10, fm_11, fm_12, fm_13, Bool.true_and, Bool.false_and, boolsOf_map, Int.toNat_natCast, joinD_ref, appD_run, stays_iff,  mkFn_run, List.map_cons, List.map_nil, List.reduceReplicate, gn_new, gn_at, List.append_assoc, gc_str, gc_str0, gc_bl, gc_bl0, gc_int, gc_int0, gc_enc, gc_enc0, gc_tup, gc_tup0, gc_zero, gc_nil, gc_l0, reduceCtorEq, Bool.not_eq_true, eq_self,  List.length_append, encs_len,    strsOf_map, pNil_run, pCons_run, eDisp_run, Option.isSome_some, Option.isSome_none, keysD, keyD, List.zip_cons_cons, List.zip_nil_left, List.zip_nil_right, List.foldl_cons, List.foldl_nil, 
  Nat.reduceAdd, Nat.reduceLeDiff, Nat.reduceEqDiff, Nat.reduceSub, String.reduceEq, reduceIte, Int.reduceLE, Nat.le_refl, ofString_inj, List.set_cons_succ, List.set_cons_zero, List.getElem?_cons_succ, List.getElem?_cons_zero, List.length_cons, List.length_nil, decide_true, decide_false, if_true, if_false, Bool.false_eq_true, List.take_succ_cons, List.take_zero, List.drop_succ_cons, List.drop_zero, List.cons_append, List.nil_append, ne_eq, not_false_eq_true, Bool.not_true, Bool.not_false, *])

theorem md_leaf {g : Nat → Fn} {gw ga : Fn} {d : D} {p : PyData} {j : Nat} {M : Mh} {x : Str} (cl : Clo M) (gd : G M j d p) (hp : pty p ≠ .tuple) : mkFn 5 2 (b_md g gw ga) [d, .glo x] M = .ok (.bl false) M := by
  have hi := fun T => gd.isi T
  have hs := sub_tup hp
  unfold b_md
  walk_at "dn"
theorem sp_0 {g : Nat → Fn} {gw ga : Fn} : SyOk false (mkFn 1 1 (b_sp (mkFn 5 2 (b_md g gw ga)))) 0 := by
  intro d p j M cl gd hj hd h60
  have e := md_leaf (g := g) (gw := gw) (ga := ga) (x := "is_plain_saying") cl gd (leaf_ty hd)
  show _ = R.ok (D.bl false) M
  generalize mkFn 5 2 (b_md g gw ga) = F at e
  unfold b_sp
  walk_at "dn"
theorem ss_0 {g : Nat → Fn} {gw ga gs : Fn} : SyOk true (mkFn 1 1 (b_ss (mkFn 5 2 (b_md g gw ga)) gs)) 0 := by
  intro d p j M cl gd hj hd h60
  have e := md_leaf (g := g) (gw := gw) (ga := ga) (x := "is_saying") cl gd (leaf_ty hd)
  have hi := fun T => gd.isi T
  have hs := sub_tup (leaf_ty hd)
  show _ = R.ok (D.bl false) M
  generalize mkFn 5 2 (b_md g gw ga) = F at e
  unfold b_ss
  walk_at "dn"
theorem ls_0 {gw gs : Fn} : LsOk (mkFn 4 2 (b_ls gw gs)) 0 := by
  intro t d p j M cl gd hj hd h60
  have hi := fun T => gd.isi T
  have hs := sub_tup (leaf_ty hd)
  show _ = R.ok (D.bl false) M
  unfold b_ls
  walk_at "dn"
end Dn

/-! Thg7: things put together -/
namespace Dn
open PySem PySem.Spec PyProof.Rows L2
/-- a thing with its bounds: lists j deep, text z, depth e -/
structure Tb (M : Mh) (j : Nat) (d : D) (p : PyData) (z e : Nat) : Prop where
  g : G M j d p
  s : p.showable = true
  h : p.hasDict = false
  z : mz p ≤ z
  e : p.depth ≤ e
theorem Tb.keep {M M' : Mh} {j k : Nat} {d : D} {p : PyData} {z e z' e' : Nat} (t : Tb M j d p z e) (h : Kp M M') (hj : j ≤ k) (hz : z ≤ z') (he : e ≤ e') : Tb M' k d p z' e' :=
  ⟨t.g.keep h hj, t.s, t.h, by have := t.z; omega, by have := t.e; omega⟩
theorem Tb.tg {M : Mh} {j : Nat} {d : D} {p : PyData} {z e : Nat} (t : Tb M j d p z e) (hj : j ≤ 3) (hz : z ≤ 100000) (he : e ≤ 60) : Tg M d p :=
  ⟨t.g.keep (kp_refl M) hj, by have := t.e; omega, t.s, t.h, by have := t.z; omega⟩
/-- many things with their bounds -/
structure Ts (M : Mh) (j : Nat) (ds : List D) (ps : List PyData) (z e : Nat) : Prop where
  g : Gs M j ds ps
  s : PyData.showableAll ps = true
  h : PyData.hasDictAll ps = false
  z : mzs ps ≤ z
  e : PyData.depthAll ps ≤ e
theorem Ts.nil (M : Mh) (j : Nat) : Ts M j [] [] 0 0 := ⟨⟨rfl, rfl, rfl⟩, rfl, rfl, Nat.le_refl _, Nat.le_refl _⟩
theorem Ts.cons {M : Mh} {j : Nat} {d : D} {p : PyData} {z e : Nat} {ds : List D} {ps : List PyData} {z' e' : Nat} (a : Tb M j d p z e) (b : Ts M j ds ps z' e') : Ts M j (d :: ds) (p :: ps) (z + 2 + z') (max e e') := by
  have g1 := a.g.t; have g2 := a.g.c; have g3 := a.g.x
  obtain ⟨h1, h2, h3⟩ := b.g
  refine ⟨⟨by simp only [toPs, g1, h1], by simp only [PyData.canLayAll0, g2, h2, Bool.and_self], by simp only [txsAll, g3, h3, Bool.and_self]⟩, by simp only [PyData.showableAll, a.s, b.s, Bool.and_self], by simp only [PyData.hasDictAll, a.h, b.h, Bool.or_self], ?_, ?_⟩
  · have := a.z; have := b.z; simp only [mzs]; omega
  · have := a.e; have := b.e; simp only [PyData.depthAll]; omega
theorem Ts.tup {M : Mh} {j : Nat} {ds : List D} {ps : List PyData} {z e : Nat} (b : Ts M j ds ps z e) (hl : ds.length ≤ 10000) : Tb M j (.tup ds) (.tuple ps) (z + 6) (e + 1) := by
  obtain ⟨h1, h2, h3⟩ := b.g
  have hl2 := Gs.len b.g
  refine ⟨⟨by simp only [toP, h1, Option.map_some], by simp only [PyData.canLay0, h2], by simp only [txs, h3, Bool.and_true]; exact decide_eq_true (by omega)⟩, by simp only [PyData.showable, b.s], by simp only [PyData.hasDict, b.h], ?_, ?_⟩
  · have := b.z; simp only [mz]; omega
  · have := b.e; simp only [PyData.depth]; omega
theorem Ts.list {M : Mh} {j k : Nat} {ds : List D} {ps : List PyData} {z e : Nat} (b : Ts M j ds ps z e) (hl : ds.length ≤ 10000) (hk : 2 ≤ k) (hm : M[k]? = some (.lst ds)) : Tb M (j + 1) (.ref k) (.list ps) (z + 6) (e + 1) := by
  obtain ⟨h1, h2, h3⟩ := b.g
  have hl2 := Gs.len b.g
  refine ⟨⟨?_, by simp only [PyData.canLay0, h2], by simp only [txs, h3, Bool.and_true]; exact decide_eq_true (by omega)⟩, by simp only [PyData.showable, b.s], by simp only [PyData.hasDict, b.h], ?_, ?_⟩
  · show hQ M (j + 1) k = _
    unfold hQ
    rw [if_neg (by omega), hm]
    simp only [h1, Option.map_some]
  · have := b.z; simp only [mz]; omega
  · have := b.e; simp only [PyData.depth]; omega
theorem tb_str {M : Mh} {z : Str} (hz : z.length ≤ 1000) (ho : PyData.strOk z = true) : Tb M 0 (.str z) (.str z) (10 * z.length + 2) 0 :=
  ⟨⟨rfl, ho, decide_eq_true hz⟩, rfl, rfl, by
    refine PySem.StrLaws.reprText_len z fun c hc => ?_
    unfold PyData.strOk at ho
    rw [Array.all_eq_true'] at ho
    have := ho c (Array.mem_def.mpr hc)
    have : c < 0x110000 := by simpa using this
    omega, Nat.le_refl _⟩
theorem tb_non {M : Mh} : Tb M 0 .non .none 4 0 := ⟨⟨rfl, rfl, rfl⟩, rfl, rfl, by decide +kernel, Nat.le_refl _⟩
theorem tb_bl {M : Mh} (b : Bool) : Tb M 0 (.bl b) (.bool b) 5 0 := ⟨⟨rfl, rfl, rfl⟩, rfl, rfl, by cases b <;> decide +kernel, Nat.le_refl _⟩
mutual
theorem mz_dat : ∀ s : Sy, s.okw Shrt → mz (dat s) + 2 ≤ 100 * s.sz
  | .letter w, h => by
    have : (reprText w).length ≤ 20 := h.2.1
    have h8 := r_letter
    simp only [dat, mz, mzs, PyData.shown, Sy.sz]; omega
  | .neg s, h => by have := mz_dat s h; have := r_not; simp only [dat, mz, mzs, PyData.shown, Sy.sz]; omega
  | .conj l, h => by have := mzs_dats l h; have := r_and; simp only [dat, mz, mzs, PyData.shown, Sy.sz]; omega
  | .disj l, h => by have := mzs_dats l h; have := r_or; simp only [dat, mz, mzs, PyData.shown, Sy.sz]; omega
  | .so s t, h => by have := mz_dat s h.1; have := mz_dat t h.2; have := r_so; simp only [dat, mz, mzs, PyData.shown, Sy.sz]; omega
  | .must w s, h => by
    have := mz_dat s h.2; have := h.1.2.1; have := r_must; simp only [dat, mz, mzs, PyData.shown, Sy.sz]; omega
  | .may w s, h => by
    have := mz_dat s h.2; have := h.1.2.1; have := r_may; simp only [dat, mz, mzs, PyData.shown, Sy.sz]; omega
  | .told s t, h => by have := mz_dat s h.1; have := mz_dat t h.2; have := r_told; simp only [dat, mz, mzs, PyData.shown, Sy.sz]; omega
theorem mzs_dats : ∀ l : List Sy, okws Shrt l → mzs (dats l) ≤ 100 * szs l
  | [], _ => by simp only [dats, mzs, szs]; omega
  | s :: l, h => by have := mz_dat s h.1; have := mzs_dats l h.2; have := sz_pos s; simp only [dats, mzs, szs]; omega
end
end Dn

/-! Thg8: a thing behind a call -/
namespace Dn
open PySem PySem.Spec PyProof.Rows L2
mutual
theorem toP_back {h h' : Nat → Option PyData} {n : Nat} (hh : ∀ k q, k < n → h k = some q → h' k = some q) : ∀ (d : D) (p : PyData), lowD n d = true → toP h d = some p → toP h' d = some p
  | .non, p, _, e => e
  | .bl b, p, _, e => e
  | .int i, p, _, e => e
  | .str x, p, _, e => e
  | .tup ds, p, l, e => by
    simp only [lowD] at l
    simp only [toP, Option.map_eq_some_iff] at e ⊢
    obtain ⟨ps, e1, e2⟩ := e
    exact ⟨ps, toPs_back hh ds ps l e1, e2⟩
  | .ls ds, p, l, e => by
    simp only [lowD] at l
    simp only [toP, Option.map_eq_some_iff] at e ⊢
    obtain ⟨ps, e1, e2⟩ := e
    exact ⟨ps, toPs_back hh ds ps l e1, e2⟩
  | .ref k, p, l, e => hh k p (by simpa [lowD] using l) e
  | .glo _, _, _, e => by simp only [toP] at e; cases e
  | .rod _, _, _, e => by simp only [toP] at e; cases e
theorem toPs_back {h h' : Nat → Option PyData} {n : Nat} (hh : ∀ k q, k < n → h k = some q → h' k = some q) : ∀ (ds : List D) (ps : List PyData), lowDs n ds = true → toPs h ds = some ps → toPs h' ds = some ps
  | [], ps, _, e => e
  | d :: ds, ps, l, e => by
    simp only [lowDs, Bool.and_eq_true] at l
    obtain ⟨q, qs, rfl, e1, e2⟩ := toPs_cons e
    simp only [toPs, toP_back hh d q l.1 e1, toPs_back hh ds qs l.2 e2]
end
theorem hQ_back {M0 E : Mh} (cl : Clo M0) : ∀ {j k : Nat} {q : PyData}, k < M0.length → hQ (M0 ++ E) j k = some q → hQ M0 j k = some q
  | 0, _, _, _, e => by cases e
  | j + 1, k, q, hk, e => by
    unfold hQ at e ⊢
    by_cases hn : k ≤ 1
    · rw [if_pos hn] at e; cases e
    · rw [if_neg hn] at e ⊢
      rw [ga_lt hk] at e
      cases hm : M0[k]? with
      | none => rw [hm] at e; cases e
      | some o =>
        rw [hm] at e
        cases o with
        | lst ds =>
          simp only [Option.map_eq_some_iff] at e ⊢
          obtain ⟨ps, e1, e2⟩ := e
          have lo : lowDs M0.length ds = true := by
            have h : M0.all (lowO M0.length) = true := cl
            rw [List.all_eq_true] at h
            exact h _ (List.mem_of_getElem? hm)
          exact ⟨ps, toPs_back (fun k q hk h => hQ_back cl hk h) ds ps lo e1, e2⟩
        | _ => cases e
/-- what a call answers, be it low, a new list, or a thing with new lists inside -/
theorem gc_thing {M0 E : Mh} {j : Nat} {d : D} {p : PyData} {z e : Nat} (c0 : Clo M0) (cl : Clo (M0 ++ E)) (h2 : 2 ≤ M0.length) (t : Tb (M0 ++ E) j d p z e) : ∃ d' E', gcD M0.length d (M0 ++ E) = .ok d' (M0 ++ E') ∧ Clo (M0 ++ E') ∧ Tb (M0 ++ E') j d' p z e := by
  have ht : (M0 ++ E).take M0.length = M0 := List.take_left ..
  have hc : ((M0 ++ E).take M0.length).all (lowO M0.length) = true ∧ M0.length ≤ (M0 ++ E).length := ⟨by rw [ht]; exact c0, by rw [List.length_append]; omega⟩
  unfold gcD
  rw [if_pos hc, ht]
  by_cases hl : lowD M0.length d = true
  · rw [if_pos hl]
    refine ⟨d, [], by rw [List.append_nil], by rw [List.append_nil]; exact c0, ⟨⟨?_, t.g.c, t.g.x⟩, t.s, t.h, t.z, t.e⟩⟩
    rw [List.append_nil]
    exact toP_back (fun k q hk h => hQ_back c0 hk h) d p hl t.g.t
  · rw [if_neg hl]
    have stay : ∃ d' E', (R.ok d (M0 ++ E) : R D) = .ok d' (M0 ++ E') ∧ Clo (M0 ++ E') ∧ Tb (M0 ++ E') j d' p z e := ⟨d, E, rfl, cl, t⟩
    cases d with
    | ref k =>
      simp only
      cases hm : (M0 ++ E)[k]? with
      | none =>
        have := t.g.t
        have e1 : hQ (M0 ++ E) j k = some p := this
        cases j with
        | zero => cases e1
        | succ j =>
          unfold hQ at e1
          by_cases hn : k ≤ 1
          · rw [if_pos hn] at e1; cases e1
          · rw [if_neg hn, hm] at e1; cases e1
      | some o =>
        simp only
        by_cases ho : lowO M0.length o = true
        · rw [if_pos ho]
          have e1 : hQ (M0 ++ E) j k = some p := t.g.t
          refine ⟨.ref M0.length, [o], rfl, c0.snoc (lowO_mono (by omega) ho), ⟨⟨?_, t.g.c, t.g.x⟩, t.s, t.h, t.z, t.e⟩⟩
          show hQ (M0 ++ [o]) j M0.length = some p
          cases j with
          | zero => cases e1
          | succ j =>
            unfold hQ at e1 ⊢
            by_cases hn : k ≤ 1
            · rw [if_pos hn] at e1; cases e1
            · rw [if_neg hn, hm] at e1
              rw [if_neg (by omega), gn_new]
              cases o with
              | lst ds =>
                simp only [Option.map_eq_some_iff] at e1 ⊢
                obtain ⟨ps, e2, e3⟩ := e1
                have e4 := toPs_back (h' := hQ M0 j) (fun k q hk h => hQ_back c0 hk h) ds ps ho e2
                exact ⟨ps, toPs_mono (fun n q h => hQ_keep (kp_app M0 [.lst ds]) (Nat.le_refl _) h) ds ps e4, e3⟩
              | _ => cases e1
        · rw [if_neg ho]
          exact stay
    | _ => exact stay
end Dn

/-! Thg9: tuples cut and joined -/
namespace Dn
open PySem PySem.Spec PyProof.Rows L2
theorem mzs_app : ∀ a b : List PyData, mzs (a ++ b) = mzs a + mzs b
  | [], b => by simp only [List.nil_append, mzs]; omega
  | x :: a, b => by have := mzs_app a b; simp only [List.cons_append, mzs]; omega
theorem Ts.uncons {M : Mh} {j : Nat} {d : D} {ds : List D} {ps : List PyData} {z e : Nat} (t : Ts M j (d :: ds) ps z e) : ∃ q qs, ps = q :: qs ∧ Tb M j d q (mz q) e ∧ Ts M j ds qs (mzs qs) e ∧ mz q + 2 + mzs qs ≤ z := by
  obtain ⟨q, qs, rfl, g1, g2⟩ := t.g.cons
  have hs := t.s; have hh := t.h; have hz := t.z; have he := t.e
  simp only [PyData.showableAll, Bool.and_eq_true] at hs
  simp only [PyData.hasDictAll, Bool.or_eq_false_iff] at hh
  simp only [mzs] at hz
  simp only [PyData.depthAll] at he
  exact ⟨q, qs, rfl, ⟨g1, hs.1, hh.1, Nat.le_refl _, by omega⟩, ⟨g2, hs.2, hh.2, Nat.le_refl _, by omega⟩, hz⟩
theorem Ts.split {M : Mh} {j : Nat} {e : Nat} : ∀ {a b : List D} {ps : List PyData} {z : Nat}, Ts M j (a ++ b) ps z e → ∃ pa pb, ps = pa ++ pb ∧ Ts M j a pa (mzs pa) e ∧ Ts M j b pb (mzs pb) e ∧ mzs pa + mzs pb ≤ z
  | [], b, ps, z, t => ⟨[], ps, rfl, ⟨⟨rfl, rfl, rfl⟩, rfl, rfl, Nat.le_refl _, Nat.zero_le _⟩, ⟨t.g, t.s, t.h, Nat.le_refl _, t.e⟩, by have := t.z; simp only [mzs]; omega⟩
  | d :: a, b, ps, z, t => by
    obtain ⟨q, qs, rfl, h1, h2, hz⟩ := Ts.uncons (ds := a ++ b) t
    obtain ⟨pa, pb, rfl, h3, h4, hz2⟩ := Ts.split h2
    have h5 := Ts.cons h1 h3
    exact ⟨q :: pa, pb, rfl, ⟨h5.g, h5.s, h5.h, Nat.le_refl _, by have := h5.e; omega⟩, h4, by simp only [mzs]; omega⟩
theorem Ts.append {M : Mh} {j : Nat} {e : Nat} {b : List D} {pb : List PyData} {zb : Nat} (tb : Ts M j b pb zb e) : ∀ {a : List D} {pa : List PyData} {za : Nat}, Ts M j a pa za e → Ts M j (a ++ b) (pa ++ pb) (za + zb) e
  | [], pa, za, t => by
    obtain rfl := t.g.nil
    exact ⟨tb.g, tb.s, tb.h, by have := tb.z; simp only [List.nil_append]; omega, tb.e⟩
  | d :: a, pa, za, t => by
    obtain ⟨q, qs, rfl, h1, h2, hz⟩ := t.uncons
    have h3 := Ts.append tb h2
    have h4 := Ts.cons h1 h3
    exact ⟨h4.g, h4.s, h4.h, by have := h4.z; simp only [List.cons_append] at this ⊢; omega, by have := h4.e; simp only [List.cons_append] at this ⊢; omega⟩
theorem Ts.len {M : Mh} {j : Nat} {ds : List D} {ps : List PyData} {z e : Nat} (t : Ts M j ds ps z e) : ds.length = ps.length := Gs.len t.g
theorem mzs_len : ∀ l : List PyData, 2 * l.length ≤ mzs l
  | [] => by simp only [List.length_nil, mzs]; omega
  | x :: l => by have := mzs_len l; simp only [List.length_cons, mzs]; omega
theorem cut_lo (xs : List D) (k : Nat) : cutD xs (some (k : Int)) none = xs.drop k := by
  unfold cutD
  have h : HT.sIx xs.length 0 (some (k : Int)) = min k xs.length := by
    unfold HT.sIx
    simp only
    first | (split <;> omega) | omega
  have h2 : HT.sIx xs.length xs.length none = xs.length := rfl
  rw [h, h2]
  by_cases hk : k ≤ xs.length
  · rw [Nat.min_eq_left hk, List.take_of_length_le (by rw [List.length_drop]; omega)]
  · rw [Nat.min_eq_right (by omega), List.drop_length, List.drop_of_length_le (by omega), List.take_nil]
end Dn

/-! Thg10: drawn letters -/
namespace Dn
open PySem PySem.Spec PyProof.Rows L2
theorem draw_fd2 {M : Mh} {f c : Nat} {ns : List Int} {i r n : Int} (h : Fd M f c ns i r n) {dr : Fn} (hd : DrawOk dr) (m : Int) (hn : n < 2 ^ 40) (hm : 1 ≤ m) (hm2 : m < 1000000) :
    ∃ q i' r', dr [.ref f, .int m] M = .ok (.int q) (M.set f (.lst [.ref c, .int i', .int r', .int (n + 1)])) ∧ 0 ≤ q ∧ q < m ∧ 0 ≤ i' := hd M f c ns i r n m h.cl h.hf h.hc h.nfc h.hn hn h.hi hm hm2
theorem atD_in {xs : List D} {q : Int} (h0 : 0 ≤ q) (h : q < xs.length) : ∃ d, d ∈ xs ∧ atD xs q = some d := by
  obtain ⟨k, rfl⟩ := Int.eq_ofNat_of_zero_le h0
  have hk : k < xs.length := by omega
  exact ⟨xs[k], List.getElem_mem hk, atD_get (List.getElem?_eq_getElem hk)⟩
local macro_rules | `(tactic| walk_at "dn") => `(tactic| simp (disch := first | assumption | exact gn_new | exact gn_at1 | exact gn_at2 | exact gn_at | (simp only [lowDs, lowD, enc_low, encs_low, Bool.and_self]; done) | (refine clo_t ?_; have hEn := fun n (E : Mh) (h : lowE E = true) => lowE_all n h; simp only [List.all_cons, List.all_nil, List.length_cons, List.length_nil, lowO, lowDs, lowD, low_ints, low_strs, encs_low, Nat.reduceAdd, Nat.reduceLT, lt_succ, List.all_append, List.length_append, decide_true, *, Bool.and_self, Bool.and_true]; done) | (simp only [Nat.reduceLeDiff, encs_len, List.length_cons, List.length_nil, Nat.reduceAdd, flatD, List.all_cons, List.all_nil, Bool.and_self, Bool.and_true, List.length_append, List.length_set, Nat.lt_add_one, *]; done) | (simp only [Dn.sizeLine_eq, PySem.Str.length_append, Nat.add_zero]; omega) | (simp only [encs_len, List.length_take, List.length_map, List.length_cons, List.length_append, List.length_nil]; omega) | omega) only [ret_run, bad_run, bind_run, noX_run, asB_run, eOp_run, eUn_run, eCb_run, aNil_run, aCons_run, eVar_run, eC_run, tCmpD_run, tTruD_run, tAndD_run, tOrD_run, tNotD_run, tYesD_run, eIf_run, eAnd_run, eOr_run, notD_run, eSl_run, oNone_run, oSome_run, sRet_run, sRetN_run, sExp_run, sNx_run, sBk_run, sCt_run, sIf_run, sSeq_run, sAsg_run, gNm_run, gsNil_run, gsCons_run, gSb_run, gTp_tup, gSt_tup, sPar_run, sFor_run, eComp_run, newT_s, newL_s, one1_run, eqD_run, neD_run, eqC_str, eqC_int, eqC_bl, inE_run, ninE_run, inCE_rod, inCE_tup, ixE_rod, ixE_tup, ixE_ls, ixE_ref, addD_int, addD_strok, addD_tup, addD_ref, subD_int, mulD_ok, fdivD_ok, modD_ok, powD_ok, ltD_int, leD_int, gtD_int, geD_int, truC_bl, lenD_tup, lenD_ref, lenD_ls, tupleD_ref, listD_tupn, listD_ref, gc_l0n, wkOf_tup, wkOf_ref, eJoin_run, eLm_run, setD_ref, atD_0, atD_1, atD_2, atD_3, atD_4, setL_0, setL_1, setL_2, setL_3, gs_eq, gs_ne, ga_lt,  List.length_set, List.length_map, set_app, List.set_set, decide_eq_true_eq, inF_nil, inF_int, inF_str, flatD, List.all_cons, List.all_nil, Bool.and_true, Bool.and_self, Bool.or_false, Bool.or_true, Bool.true_or, Bool.false_or, Int.reduceEq, Int.reduceLT, Int.reduceMod, Int.reduceNeg, st_len, st_app, st_at, wipeD, rng1_s, Dn.sizeLine_eq, Nat.reduceLT, Int.reduceToNat, List.length_range, List.length_take, Nat.min_def, compL_cons, compL_nil, stays_none, List.set_nil, fm_0, fm_1, fm_2, fm_3, fm_4, fm_5, fm_6, fm_7, fm_8, fm_9, fm_10, fm_11, fm_12, fm_13, Bool.true_and, boolsOf_map, Int.toNat_natCast, joinD_ref, appD_run, stays_iff,  mkFn_run, List.map_cons, List.map_nil, List.reduceReplicate, gn_new, gn_at, List.append_assoc, gc_str, gc_str0, gc_bl, gc_bl0, gc_int, gc_int0, gc_enc, gc_enc0, gc_tup, gc_tup0, gc_zero, gc_nil, gc_l0, reduceCtorEq, Bool.not_eq_true, eq_self,  List.length_append, encs_len,    strsOf_map, pNil_run, pCons_run, eDisp_run, Option.isSome_some, Option.isSome_none, keysD, keyD, List.zip_cons_cons, List.zip_nil_left, List.zip_nil_right, List.foldl_cons, List.foldl_nil, 
  Nat.reduceAdd, Nat.reduceLeDiff, Nat.reduceEqDiff, Nat.reduceSub, String.reduceEq, reduceIte, Int.reduceLE, Nat.le_refl, ofString_inj, List.set_cons_succ, List.set_cons_zero, List.getElem?_cons_succ, List.getElem?_cons_zero, List.length_cons, List.length_nil, decide_true, decide_false, if_true, if_false, Bool.false_eq_true, List.take_succ_cons, List.take_zero, List.drop_succ_cons, List.drop_zero, List.cons_append, List.nil_append, ne_eq, not_false_eq_true, Bool.not_true, Bool.not_false, *])

noncomputable def n0 (dr : Fn) : SD := (sAsg (eOp addD (eC (.str "abcmyzaz")) (eOp ixE (eCb newL (aCons (eC (.str "a")) (aCons (eC (.str "A")) (aCons (eC (.str " ")) (aCons (eC (.str "0")) (aCons (eC (.str "`")) (aCons (eC (.str "{")) (aCons (eC (.str "z")) (aCons (eC (.str "-")) aNil))))))))) (eCb dr (aCons (eVar 0) (aCons (eC (.int 8)) aNil))))) (gNm 1))
noncomputable def n1 (dr : Fn) : SD := (sAsg (eCb dr (aCons (eVar 0) (aCons (eC (.int 10)) aNil))) (gNm 2))
noncomputable def n2 (dr : Fn) : SD := (sRet (eJoin (eC (.str "")) (eComp [3] (fun s => ((aCons (eVar 2) aNil) s).bind rng1) (gNm 3) tYesD (eOp ixE (eVar 1) (eCb dr (aCons (eVar 0) (aCons (eC (.int 9)) aNil)))))))
noncomputable def b_let (dr : Fn) : SD := sSeq (n0 dr) (sSeq (n1 dr) (n2 dr))
def L8 : List Str := ["a", "A", " ", "0", "`", "{", "z", "-"]
theorem n0_ok {dr : Fn} (hd : DrawOk dr) {M : Mh} {ns : List Int} {i r n : Int} (h : Fd M 1 0 ns i r n) (hn : n ≤ 2 ^ 38) :
    ∃ z i' r', n0 dr [some (.ref 1), none, none, none] M = .ok (.nx, [some (.ref 1), some (.str z), none, none]) (M.set 1 (.lst [.ref 0, .int i', .int r', .int (n + 1)]) ++ [.lst (L8.map D.str)]) ∧ 0 ≤ i' ∧ z.length = 9 ∧ PyData.strOk z = true := by
  have h1 := h.app (E := [.lst (L8.map D.str)]) rfl
  obtain ⟨q, i', r', e, hq0, hq8, hi⟩ := draw_fd2 h1 hd 8 (by omega) (by omega) (by omega)
  have lf := lt_of_get h.hf
  rw [set_app lf] at e
  obtain ⟨d, hd, ha⟩ := atD_in (xs := L8.map D.str) hq0 hq8
  obtain ⟨c, hc, rfl⟩ := List.mem_map.mp hd
  have hc2 : c.length = 1 ∧ PyData.strOk c = true := by
    have : ∀ x, x ∈ L8 → x.length = 1 ∧ PyData.strOk x = true := by
      intro x hx
      simp only [L8, List.mem_cons, List.not_mem_nil, or_false] at hx
      rcases hx with rfl | rfl | rfl | rfl | rfl | rfl | rfl | rfl <;> exact ⟨by decide +kernel, by decide +kernel⟩
    exact this c hc
  have l8 : (PySem.Str.length "abcmyzaz") = 8 := by decide +kernel
  have o8 : PyData.strOk "abcmyzaz" = true := by decide +kernel
  have hs : ∀ N, addD (.str "abcmyzaz") (.str c) N = .ok (.str ("abcmyzaz" ++ c)) N := fun N => addD_strok (by rw [Dn.sizeLine_eq, l8, hc2.1]; omega)
  have hlen : (M.set 1 (.lst [.ref 0, .int i', .int r', .int (n + 1)])).length = M.length := List.length_set ..
  have hg : (M.set 1 (.lst [.ref 0, .int i', .int r', .int (n + 1)]) ++ [MO.lst (L8.map D.str)])[M.length]? = some (.lst (L8.map D.str)) := by rw [← hlen]; exact gn_new
  refine ⟨"abcmyzaz" ++ c, i', r', ?_, hi, by rw [PySem.Str.length_append, l8, hc2.1], by rw [strOk_app, o8, hc2.2]; rfl⟩
  have eL : L8.map D.str = [.str "a", .str "A", .str " ", .str "0", .str "`", .str "{", .str "z", .str "-"] := rfl
  rw [eL] at e ha hg ⊢
  generalize M.set 1 (.lst [.ref 0, .int i', .int r', .int (n + 1)]) = N at e hg
  clear h h1 hd hc hc2 hlen eL l8 o8
  unfold n0
  walk_at "dn"
theorem ix_txt {z : Str} {q : Int} {M : Mh} (h0 : 0 ≤ q) (h : q < z.length) (hz : z.length ≤ 1000) : ∃ c, c ∈ z.cps.toList ∧ ixE (.str z) (.int q) M = .ok (.str ⟨#[c]⟩) M := by
  obtain ⟨k, rfl⟩ := Int.eq_ofNat_of_zero_le h0
  have hk : k < z.cps.toList.length := by
    rw [Array.length_toList]
    have : ((k : Nat) : Int) < (z.cps.size : Int) := h
    omega
  refine ⟨z.cps.toList[k], List.getElem_mem hk, ?_⟩
  have e : atI z.cps.toList (k : Int) = some z.cps.toList[k] := by
    show (ixN _ (Int.ofNat k)).bind _ = _
    rw [ixN_lit, if_pos hk]
    exact List.getElem?_eq_getElem hk
  show ixD (.str z) (.int (k : Int)) M = _
  unfold ixD
  simp only [e]
  exact if_pos (by rw [Dn.sizeLine_eq]; omega)
theorem let_comp {dr : Fn} {ns : List Int} {ws : List D} {z : Str} (hd : DrawOk dr) (hz : z.length = 9) (ho : PyData.strOk z = true) {x2 : Option D} : ∀ (ds acc : List D) (M : Mh) (i r n : Int), Fd M 1 0 ns i r n → n + (ds.length : Int) ≤ 2 ^ 39 →
    ∃ (xs : List Str) (i' r' n' : Int), compL ⟨none, ws⟩ (gNm 3) tYesD (eOp ixE (eVar 1) (eCb dr (aCons (eVar 0) (aCons (eC (.int 9)) aNil)))) [some (.ref 1), some (.str z), x2, none] ds acc M = .ok (acc ++ xs.map D.str) (M.set 1 (.lst [.ref 0, .int i', .int r', .int n'])) ∧ xs.length = ds.length ∧ 0 ≤ i' ∧ n' = n + (ds.length : Int) ∧ ∀ x, x ∈ xs → x.length = 1 ∧ PyData.strOk x = true
  | [], acc, M, i, r, n, h, hn => by
    refine ⟨[], i, r, n, ?_, rfl, h.hi, by simp, fun _ h => nomatch h⟩
    rw [compL_nil, if_pos (stays_none.mpr trivial), List.map_nil, List.append_nil, set_self h.hf]
  | d :: ds, acc, M, i, r, n, h, hn => by
    rw [List.length_cons] at hn
    have lf := lt_of_get h.hf
    obtain ⟨q, i1, r1, e1, hq0, hq9, hi1⟩ := draw_fd2 h hd 9 (by omega) (by omega) (by omega)
    have h2 := h.set (r' := r1) (n' := n + 1) (E := []) hi1 (by have := h.hn; omega) rfl
    rw [List.append_nil] at h2
    obtain ⟨c, hc, ei⟩ := ix_txt (z := z) (q := q) (M := M.set 1 (.lst [.ref 0, .int i1, .int r1, .int (n + 1)])) hq0 (by omega) (by omega)
    obtain ⟨xs, i2, r2, n2, e2, hl, hi2, hn2, hx⟩ := let_comp hd hz ho (ws := ws) (x2 := x2) ds (acc ++ [.str ⟨#[c]⟩]) _ i1 r1 (n + 1) h2 (by omega)
    refine ⟨⟨#[c]⟩ :: xs, i2, r2, n2, ?_, by rw [List.length_cons, List.length_cons, hl], hi2, by rw [List.length_cons]; omega, fun x hx' => ?_⟩
    · have et : (eOp ixE (eVar 1) (eCb dr (aCons (eVar 0) (aCons (eC (.int 9)) aNil)))) [some (.ref 1), some (.str z), x2, some d] M = .ok (.str ⟨#[c]⟩) (M.set 1 (.lst [.ref 0, .int i1, .int r1, .int (n + 1)])) := by
        simp only [eOp_run, eVar_run, eCb_run, aCons_run, aNil_run, eC_run, List.getElem?_cons_zero, List.getElem?_cons_succ, e1, ei]
      rw [compL_cons, if_pos (stays_none.mpr trivial)]
      simp only [bind_run, noX_run, gNm_run, tYesD_run, if_true, List.set_cons_succ, List.set_cons_zero, et]
      rw [e2, List.set_set]
      simp only [List.append_assoc, List.map_cons, List.cons_append, List.nil_append]
    · rcases List.mem_cons.mp hx' with rfl | hx'
      · refine ⟨rfl, ?_⟩
        unfold PyData.strOk at ho ⊢
        rw [Array.all_eq_true'] at ho
        have := ho c (Array.mem_def.mpr hc)
        simpa using this
      · exact hx x hx'
theorem n1_ok {dr : Fn} (hd : DrawOk dr) {M : Mh} {ns : List Int} {i r n : Int} (h : Fd M 1 0 ns i r n) (hn : n ≤ 2 ^ 38) {x1 : Option D} :
    ∃ q i' r', n1 dr [some (.ref 1), x1, none, none] M = .ok (.nx, [some (.ref 1), x1, some (.int q), none]) (M.set 1 (.lst [.ref 0, .int i', .int r', .int (n + 1)])) ∧ 0 ≤ q ∧ q < 10 ∧ 0 ≤ i' := by
  obtain ⟨q, i', r', e, hq0, hq10, hi⟩ := draw_fd2 h hd 10 (by omega) (by omega) (by omega)
  refine ⟨q, i', r', ?_, hq0, hq10, hi⟩
  generalize M.set 1 (.lst [.ref 0, .int i', .int r', .int (n + 1)]) = N at e
  clear h
  unfold n1
  walk_at "dn"
theorem sum_ones : ∀ xs : List Str, (∀ x, x ∈ xs → x.length = 1 ∧ PyData.strOk x = true) → (xs.map (·.length)).sum = xs.length
  | [], _ => rfl
  | x :: xs, h => by
    rw [List.map_cons, List.sum_cons, sum_ones xs fun y hy => h y (List.mem_cons_of_mem _ hy), (h x (List.mem_cons_self ..)).1, List.length_cons]; omega
theorem n2_ok {dr : Fn} (hd : DrawOk dr) {M : Mh} {ns : List Int} {i r n q : Int} (h : Fd M 1 0 ns i r n) (hn : n ≤ 2 ^ 38) (hq0 : 0 ≤ q) (hq : q < 10) {z : Str} (hz : z.length = 9) (ho : PyData.strOk z = true) :
    ∃ y i' r' n' E, n2 dr [some (.ref 1), some (.str z), some (.int q), none] M = .ok (.rt (.str y), [some (.ref 1), some (.str z), some (.int q), none]) (M.set 1 (.lst [.ref 0, .int i', .int r', .int n']) ++ E) ∧ 0 ≤ i' ∧ n ≤ n' ∧ n' ≤ n + 10 ∧ y.length ≤ 9 ∧ PyData.strOk y = true := by
  have hln : ((List.range q.toNat).map fun i => D.int (0 + (i : Nat))).length = q.toNat := by rw [List.length_map, List.length_range]
  obtain ⟨xs, i', r', n', e, hl, hi, hn', hx⟩ := let_comp (ws := (List.range q.toNat).map fun i => .int (0 + (i : Nat))) hd hz ho (x2 := some (.int q)) ((List.range q.toNat).map fun i => .int (0 + (i : Nat))) [] M i r n h (by rw [hln]; omega)
  rw [hln] at hl hn'
  have hs := sum_ones xs hx
  have l0 : (PySem.Str.length "") = 0 := by decide +kernel
  have hjl := join_len "" xs
  rw [l0, hs] at hjl
  refine ⟨Txt.join "" xs, i', r', n', [.lst (xs.map D.str)], ?_, hi, by omega, by omega, by omega, strOk_join (by decide +kernel) xs (List.all_eq_true.mpr fun x h => (hx x h).2)⟩
  have hr : rng1 [.int q] M = .ok ⟨none, (List.range q.toNat).map fun i => .int (0 + (i : Nat))⟩ M := rng1_s hq0 (by omega)
  have hlw : ((List.range q.toNat).map fun i => D.int (0 + (i : Nat))).length < 16777216 := by rw [hln]; omega
  have hb : (xs.map (·.length)).sum + xs.length * (PySem.Str.length "") ≤ 16777216 := by rw [hs, l0]; omega
  rw [List.nil_append] at e
  generalize (List.range q.toNat).map (fun i => D.int (0 + (i : Nat))) = rg at e hr hlw
  generalize M.set 1 (.lst [.ref 0, .int i', .int r', .int n']) = N at e
  have hj : joinD (.str "") (.ref N.length) (N ++ [.lst (xs.map D.str)]) = .ok (.str (Txt.join "" xs)) (N ++ [.lst (xs.map D.str)]) := by
    rw [joinD_ref, gn_new]
    simp only [strsOf_map]
    exact if_pos hb
  clear h hx hs hjl hb
  unfold n2
  walk_at "dn"
def LtrOk (F : Fn) : Prop := ∀ (M : Mh) (ns : List Int) (i r n : Int), Fd M 1 0 ns i r n → n ≤ 2 ^ 37 → ∃ y i' r' n', F [.ref 1] M = .ok (.str y) (M.set 1 (.lst [.ref 0, .int i', .int r', .int n'])) ∧ 0 ≤ i' ∧ n ≤ n' ∧ n' ≤ n + 20 ∧ y.length ≤ 9 ∧ PyData.strOk y = true
theorem ltr1_ok {dr : Fn} (hd : DrawOk dr) : LtrOk (mkFn 4 1 (b_let dr)) := by
  intro M ns i r n h hn
  have lf := lt_of_get h.hf
  obtain ⟨z, i0, r0, e0, hi0, hz, ho⟩ := n0_ok hd h (by omega)
  have h0 := h.set (r' := r0) (n' := n + 1) (E := [.lst (L8.map D.str)]) hi0 (by have := h.hn; omega) rfl
  obtain ⟨q, i1, r1, e1, hq0, hq, hi1⟩ := n1_ok hd h0 (by omega) (x1 := some (.str z))
  have h1 := h0.set (r' := r1) (n' := n + 1 + 1) (E := []) hi1 (by have := h.hn; omega) rfl
  rw [List.append_nil] at h1
  obtain ⟨y, i2, r2, n2', E, e2, hi2, hn1, hn2, hy, hyo⟩ := n2_ok hd h1 (by omega) hq0 hq hz ho
  have hs := h.set (r' := r2) (n' := n2') (E := []) hi2 (by have := h.hn; omega) rfl
  rw [List.append_nil] at hs
  refine ⟨y, i2, r2, n2', ?_, hi2, by omega, by omega, hy, hyo⟩
  have hl : 1 < (M.set 1 (.lst [.ref 0, .int i0, .int r0, .int (n + 1)])).length := by rw [List.length_set]; exact lf
  have em : ((M.set 1 (.lst [.ref 0, .int i0, .int r0, .int (n + 1)]) ++ [MO.lst (L8.map D.str)]).set 1 (.lst [.ref 0, .int i1, .int r1, .int (n + 1 + 1)])).set 1 (.lst [.ref 0, .int i2, .int r2, .int n2']) = M.set 1 (.lst [.ref 0, .int i2, .int r2, .int n2']) ++ [MO.lst (L8.map D.str)] := by
    rw [List.set_set, set_app hl, List.set_set]
  rw [em, List.append_assoc] at e2
  refine mkFn_ok rfl (d := .str y) (s' := [some (.ref 1), some (.str z), some (.int q), none]) (M' := M.set 1 (.lst [.ref 0, .int i2, .int r2, .int n2']) ++ ([MO.lst (L8.map D.str)] ++ E)) ?_ ?_
  · unfold b_let
    simp only [List.map_cons, List.map_nil, List.cons_append, List.nil_append, List.length_cons, List.length_nil, Nat.reduceAdd, Nat.reduceSub, List.reduceReplicate, sSeq_run] at e0 e1 e2 ⊢
    simp only [e0, e1, e2]
  · exact gc_low hs.cl (List.length_set ..) rfl
end Dn

/-! Thg11: sayings as things; tuples turned and shortened -/
namespace Dn
open PySem PySem.Spec PyProof.Rows L2
theorem dats_len : ∀ l : List Sy, (dats l).length = l.length
  | [] => rfl
  | s :: l => by simp only [dats, List.length_cons, dats_len l]
theorem kl_letter : decide ((Str.ofString "letter").length ≤ 1000) = true := by decide +kernel
theorem kl_not : decide ((Str.ofString "not").length ≤ 1000) = true := by decide +kernel
theorem kl_and : decide ((Str.ofString "and").length ≤ 1000) = true := by decide +kernel
theorem kl_or : decide ((Str.ofString "or").length ≤ 1000) = true := by decide +kernel
theorem kl_so : decide ((Str.ofString "so").length ≤ 1000) = true := by decide +kernel
theorem kl_must : decide ((Str.ofString "must").length ≤ 1000) = true := by decide +kernel
theorem kl_may : decide ((Str.ofString "may").length ≤ 1000) = true := by decide +kernel
theorem kl_told : decide ((Str.ofString "told").length ≤ 1000) = true := by decide +kernel
theorem kn_2 : decide (0 + 1 + 1 ≤ 10000) = true := by decide
theorem kn_3 : decide (0 + 1 + 1 + 1 ≤ 10000) = true := by decide
mutual
theorem txs_dat : ∀ s : Sy, s.okw Shrt → s.sz ≤ 10000 → txs (dat s) = true
  | .letter w, h, _ => by
    have h8 : w.length ≤ 8 := h.1
    simp only [dat, txs, txsAll, List.length_cons, List.length_nil, Bool.and_true]
    rw [decide_eq_true (show w.length ≤ 1000 by omega)]
    simp only [kn_2, kn_3, kl_letter, kl_not, kl_and, kl_or, kl_so, kl_must, kl_may, kl_told, Bool.and_self]
  | .neg s, h, hz => by
    simp only [Sy.sz] at hz
    simp only [dat, txs, txsAll, List.length_cons, List.length_nil, Bool.and_true, txs_dat s h (by omega)]
    simp only [kn_2, kn_3, kl_letter, kl_not, kl_and, kl_or, kl_so, kl_must, kl_may, kl_told, Bool.and_self]
  | .conj l, h, hz => by
    simp only [Sy.sz] at hz
    have := len_sz l
    simp only [dat, txs, txsAll, List.length_cons, List.length_nil, Bool.and_true, dats_len, txs_dats l h (by omega)]
    rw [decide_eq_true (show l.length ≤ 10000 by omega)]
    simp only [kn_2, kn_3, kl_letter, kl_not, kl_and, kl_or, kl_so, kl_must, kl_may, kl_told, Bool.and_self]
  | .disj l, h, hz => by
    simp only [Sy.sz] at hz
    have := len_sz l
    simp only [dat, txs, txsAll, List.length_cons, List.length_nil, Bool.and_true, dats_len, txs_dats l h (by omega)]
    rw [decide_eq_true (show l.length ≤ 10000 by omega)]
    simp only [kn_2, kn_3, kl_letter, kl_not, kl_and, kl_or, kl_so, kl_must, kl_may, kl_told, Bool.and_self]
  | .so s t, h, hz => by
    simp only [Sy.sz] at hz
    simp only [dat, txs, txsAll, List.length_cons, List.length_nil, Bool.and_true, txs_dat s h.1 (by omega), txs_dat t h.2 (by omega)]
    simp only [kn_2, kn_3, kl_letter, kl_not, kl_and, kl_or, kl_so, kl_must, kl_may, kl_told, Bool.and_self]
  | .must w s, h, hz => by
    have h8 : w.length ≤ 8 := h.1.1
    simp only [Sy.sz] at hz
    simp only [dat, txs, txsAll, List.length_cons, List.length_nil, Bool.and_true, txs_dat s h.2 (by omega)]
    rw [decide_eq_true (show w.length ≤ 1000 by omega)]
    simp only [kn_2, kn_3, kl_letter, kl_not, kl_and, kl_or, kl_so, kl_must, kl_may, kl_told, Bool.and_self]
  | .may w s, h, hz => by
    have h8 : w.length ≤ 8 := h.1.1
    simp only [Sy.sz] at hz
    simp only [dat, txs, txsAll, List.length_cons, List.length_nil, Bool.and_true, txs_dat s h.2 (by omega)]
    rw [decide_eq_true (show w.length ≤ 1000 by omega)]
    simp only [kn_2, kn_3, kl_letter, kl_not, kl_and, kl_or, kl_so, kl_must, kl_may, kl_told, Bool.and_self]
  | .told s t, h, hz => by
    simp only [Sy.sz] at hz
    simp only [dat, txs, txsAll, List.length_cons, List.length_nil, Bool.and_true, txs_dat s h.1 (by omega), txs_dat t h.2 (by omega)]
    simp only [kn_2, kn_3, kl_letter, kl_not, kl_and, kl_or, kl_so, kl_must, kl_may, kl_told, Bool.and_self]
theorem txs_dats : ∀ l : List Sy, okws Shrt l → szs l ≤ 10000 → txsAll (dats l) = true
  | [], _, _ => rfl
  | s :: l, h, hz => by
    simp only [szs] at hz
    simp only [dats, txsAll, txs_dat s h.1 (by omega), txs_dats l h.2 (by omega), Bool.and_self]
end
theorem tb_enc {M : Mh} {s : Sy} (hw : s.okw Shrt) (hz : s.sz ≤ 10000) : Tb M 0 (enc s) (dat s) (100 * s.sz) (2 * s.dep) :=
  ⟨⟨enc_dat _ s, lay_dat s hw, txs_dat s hw hz⟩, dat_showable s, dat_noDict s, by have := mz_dat s hw; omega, dat_depth s⟩
theorem Ts.rev {M : Mh} {j : Nat} {e : Nat} : ∀ {a : List D} {pa : List PyData} {za : Nat}, Ts M j a pa za e → ∃ pr, Ts M j a.reverse pr za e
  | [], pa, za, t => ⟨[], by obtain rfl := t.g.nil; exact t⟩
  | d :: a, pa, za, t => by
    obtain ⟨q, qs, rfl, h1, h2, hz⟩ := t.uncons
    obtain ⟨pr, h3⟩ := h2.rev
    have h5 : Ts M j [d] [q] (mz q + 2) e := by
      have := Ts.cons h1 (Ts.nil M j)
      exact ⟨this.g, this.s, this.h, by have := this.z; omega, by have := this.e; omega⟩
    have h4 := Ts.append h5 h3
    rw [← List.reverse_cons] at h4
    exact ⟨_, h4.g, h4.s, h4.h, by have := h4.z; omega, h4.e⟩
theorem cut_last (xs : List D) : cutD xs none (some (-1)) = xs.take (xs.length - 1) := by
  unfold cutD
  rw [HT.sIx_none, List.drop_zero, Nat.sub_zero]
  have h : HT.sIx xs.length xs.length (some (-1)) = xs.length - 1 := by
    show (if (-1 : Int) < 0 then ((-1 : Int) + (xs.length : Int)).toNat else min (-1 : Int).toNat xs.length) = _
    rw [if_pos (by omega)]; omega
  rw [h]
end Dn

/-! Thg12: pure things put together; lists of things; the law's near -/
namespace Dn
open PySem PySem.Spec PyProof.Rows L2
theorem Tb.low {M : Mh} {j : Nat} {d : D} {p : PyData} {z e : Nat} (t : Tb M j d p z e) : lowD M.length d = true := toP_low d p t.g.t
theorem Ts.low {M : Mh} {j : Nat} {ds : List D} {ps : List PyData} {z e : Nat} (t : Ts M j ds ps z e) : lowDs M.length ds = true := toPs_low ds ps t.g.1
theorem Tb.pure {M M' : Mh} {j : Nat} {d : D} {p : PyData} {z e : Nat} (t : Tb M 0 d p z e) : Tb M' j d p z e :=
  ⟨⟨toP_mono (fun n q h => by cases h) d p t.g.t, t.g.c, t.g.x⟩, t.s, t.h, t.z, t.e⟩
theorem Ts.pure {M M' : Mh} {j : Nat} {ds : List D} {ps : List PyData} {z e : Nat} (t : Ts M 0 ds ps z e) : Ts M' j ds ps z e :=
  ⟨⟨toPs_mono (fun n q h => by cases h) ds ps t.g.1, t.g.2.1, t.g.2.2⟩, t.s, t.h, t.z, t.e⟩
theorem Tb.wk {M : Mh} {j : Nat} {d : D} {p : PyData} {z e z' e' : Nat} (t : Tb M j d p z e) (hz : z ≤ z') (he : e ≤ e') : Tb M j d p z' e' := t.keep (kp_refl M) (Nat.le_refl _) hz he
theorem Ts.wk {M : Mh} {j : Nat} {ds : List D} {ps : List PyData} {z e z' e' : Nat} (t : Ts M j ds ps z e) (hz : z ≤ z') (he : e ≤ e') : Ts M j ds ps z' e' := ⟨t.g, t.s, t.h, by have := t.z; omega, by have := t.e; omega⟩
theorem Ts.keep {M M' : Mh} {j : Nat} {ds : List D} {ps : List PyData} {z e : Nat} (t : Ts M j ds ps z e) (h : Kp M M') : Ts M' j ds ps z e := ⟨Gs.keep t.g h, t.s, t.h, t.z, t.e⟩
/-- pure things -/
def PO (t : ED) (s : Sl) (z e : Nat) : Prop := ∀ M, ∃ d p, t s M = .ok d M ∧ Tb [] 0 d p z e
def PA (t : AD) (s : Sl) (z e l : Nat) : Prop := ∀ M, ∃ ds ps, t s M = .ok ds M ∧ Ts [] 0 ds ps z e ∧ ds.length = l
def PT (t : ED) (s : Sl) (z e l : Nat) : Prop := ∀ M, ∃ ds ps, t s M = .ok (.tup ds) M ∧ Ts [] 0 ds ps z e ∧ ds.length = l
section
variable {s : Sl} {te tf : ED} {t u : AD} {z e z' e' l l' : Nat}
theorem PO.val {d : D} {p : PyData} (h : ∀ M, te s M = .ok d M) (b : Tb [] 0 d p z e) : PO te s z e := fun M => ⟨d, p, h M, b⟩
theorem PO.var {i : Nat} {d : D} {p : PyData} (h : s[i]? = some (some d)) (b : Tb [] 0 d p z e) : PO (eVar i) s z e := PO.val (fun M => by rw [eVar_run, h]) b
theorem PO.wk (a : PO te s z e) (hz : z ≤ z') (he : e ≤ e') : PO te s z' e' := fun M => let ⟨d, p, h, b⟩ := a M; ⟨d, p, h, b.wk hz he⟩
theorem PO.str {c : Str} (h1 : c.length ≤ 20) (h2 : PyData.strOk c = true) : PO (eC (.str c)) s 202 0 := PO.val (fun _ => rfl) ((tb_str (by omega) h2).wk (by omega) (Nat.le_refl _))
theorem PO.non : PO (eC .non) s 4 0 := PO.val (fun _ => rfl) tb_non
theorem tb_one {M : Mh} : Tb M 0 (.int 1) (.int 1) 4 0 := ⟨⟨rfl, rfl, rfl⟩, rfl, rfl, by decide +kernel, Nat.le_refl _⟩
theorem PO.one : PO (eC (.int 1)) s 4 0 := PO.val (fun _ => rfl) tb_one
theorem PA.nil : PA aNil s 0 0 0 := fun M => ⟨[], [], rfl, Ts.nil _ _, rfl⟩
theorem PA.cons (a : PO te s z e) (b : PA t s z' e' l) : PA (aCons te t) s (z + 2 + z') (max e e') (l + 1) := fun M => by
  obtain ⟨d, p, h1, t1⟩ := a M
  obtain ⟨ds, ps, h2, t2, h3⟩ := b M
  exact ⟨d :: ds, p :: ps, by rw [aCons_run, h1]; simp only [h2], Ts.cons t1 t2, by rw [List.length_cons, h3]⟩
theorem PT.new (a : PA t s z e l) (hl : l ≤ 10000) : PT (eCb newT t) s z e l := fun M => by
  obtain ⟨ds, ps, h, t1, h2⟩ := a M
  exact ⟨ds, ps, by rw [eCb_run, h]; exact newT_s (by omega), t1, h2⟩
theorem PT.po (a : PT te s z e l) (hl : l ≤ 10000 := by omega) : PO te s (z + 6) (e + 1) := fun M => by
  obtain ⟨ds, ps, h, t1, h2⟩ := a M
  exact ⟨.tup ds, .tuple ps, h, t1.tup (by omega)⟩
theorem PO.tup (a : PA t s z e l) (hl : l ≤ 10000) : PO (eCb newT t) s (z + 6) (e + 1) := (PT.new a hl).po hl
theorem PT.var {i : Nat} {ds : List D} {ps : List PyData} (h : s[i]? = some (some (.tup ds))) (b : Ts [] 0 ds ps z e) (hl : ds.length = l) : PT (eVar i) s z e l := fun M => ⟨ds, ps, by rw [eVar_run, h], b, hl⟩
theorem PT.add (a : PT te s z e l) (b : PT tf s z' e' l') (hl : l + l' ≤ 100000) : PT (eOp addD te tf) s (z + z') (max e e') (l + l') := fun M => by
  obtain ⟨ds, ps, h1, t1, l1⟩ := a M
  obtain ⟨es, qs, h2, t2, l2⟩ := b M
  refine ⟨ds ++ es, ps ++ qs, ?_, Ts.append (t2.wk (Nat.le_refl _) (by omega)) (t1.wk (Nat.le_refl _) (by omega)), by rw [List.length_append, l1, l2]⟩
  rw [eOp_run, h1]
  simp only [h2]
  rw [addD_tup, if_pos (by rw [Dn.sizeLine_eq]; omega)]
theorem PT.last {ds : List D} {ps : List PyData} (h : s[0]? = some (some (.tup ds))) (b : Ts [] 0 ds ps z e) (hl : ds.length ≤ 10000) : PO (eSl (eVar 0) oNone (oSome (eUn negD (eC (.int 1))))) s (z + 6) (e + 1) := fun M => by
  have b2 := b
  rw [← List.take_append_drop (ds.length - 1) ds] at b2
  obtain ⟨pa, pb, rfl, h1, h2, hz⟩ := b2.split
  refine ⟨.tup (ds.take (ds.length - 1)), .tuple pa, ?_, (h1.tup (by rw [List.length_take]; omega)).wk (by omega) (Nat.le_refl _)⟩
  have en : ∀ N : Mh, negD (.int 1) N = .ok (.int (-1)) N := fun _ => rfl
  simp only [eSl_run, eVar_run, h, oNone_run, oSome_run, eUn_run, eC_run, en, slD_tup, cut_last]
theorem PT.rev {ds : List D} {ps : List PyData} (h : s[0]? = some (some (.tup ds))) (b : Ts [] 0 ds ps z e) (hl : ds.length ≤ 10000) : PO (eRev (eVar 0) (eUn negD (eC (.int 1)))) s (z + 6) (e + 1) := fun M => by
  obtain ⟨pr, b2⟩ := b.rev
  refine ⟨.tup ds.reverse, .tuple pr, ?_, b2.tup (by rw [List.length_reverse]; omega)⟩
  unfold eRev
  have en : ∀ N : Mh, negD (.int 1) N = .ok (.int (-1)) N := fun _ => rfl
  have er : ∀ N : Mh, revD (.tup ds) (.int (-1)) N = .ok (.tup ds.reverse) N := fun _ => by unfold revD; simp only [if_true, ret_run]
  simp only [bind_run, eVar_run, h, eUn_run, eC_run, en, er]
end
/-! ### things in lists -/
def Al (M : Mh) (j : Nat) (ds : List D) (z e : Nat) : Prop := ∀ d, d ∈ ds → ∃ p, Tb M j d p z e
theorem Al.keep {M M' : Mh} {ds : List D} {z e j : Nat} (a : Al M j ds z e) (h : Kp M M') : Al M' j ds z e := fun d hd => let ⟨p, t⟩ := a d hd; ⟨p, t.keep h (Nat.le_refl _) (Nat.le_refl _) (Nat.le_refl _)⟩
theorem lowDs_of {n : Nat} : ∀ {ds : List D}, (∀ d, d ∈ ds → lowD n d = true) → lowDs n ds = true
  | [], _ => rfl
  | d :: ds, h => by simp only [lowDs, h d (List.mem_cons_self ..), lowDs_of fun x hx => h x (List.mem_cons_of_mem _ hx), Bool.and_self]
theorem lowDs_at {n : Nat} : ∀ {ds : List D}, lowDs n ds = true → ∀ d, d ∈ ds → lowD n d = true
  | d :: ds, h, x, hx => by
    simp only [lowDs, Bool.and_eq_true] at h
    rcases List.mem_cons.mp hx with rfl | hx
    · exact h.1
    · exact lowDs_at h.2 x hx
theorem Al.low {M : Mh} {ds : List D} {z e j : Nat} (a : Al M j ds z e) : lowDs M.length ds = true := lowDs_of fun d hd => let ⟨_, t⟩ := a d hd; t.low
theorem Al.up {M : Mh} {ds : List D} {z e z' e' j k : Nat} (a : Al M j ds z e) (hj : j ≤ k) (hz : z ≤ z') (he : e ≤ e') : Al M k ds z' e' := fun d hd => let ⟨p, t⟩ := a d hd; ⟨p, t.keep (kp_refl M) hj hz he⟩
theorem Al.app {M : Mh} {ds es : List D} {z e j : Nat} (a : Al M j ds z e) (b : Al M j es z e) : Al M j (ds ++ es) z e := fun d hd => by
  rcases List.mem_append.mp hd with h | h
  · exact a d h
  · exact b d h
def EO (j : Nat) (t : ED) (s : Sl) (z e : Nat) : Prop := ∀ M, Clo M → 2 ≤ M.length → ∃ d p E, t s M = .ok d (M ++ E) ∧ Clo (M ++ E) ∧ Tb (M ++ E) j d p z e
def LA (j : Nat) (t : AD) (s : Sl) (z e l : Nat) : Prop := ∀ M, Clo M → 2 ≤ M.length → ∃ ds E, t s M = .ok ds (M ++ E) ∧ Clo (M ++ E) ∧ Al (M ++ E) j ds z e ∧ ds.length = l
section
variable {s : Sl} {te tf : ED} {t u : AD} {z e z' e' l l' j : Nat}
theorem EO.lst (a : PA t s z e l) (hl : l ≤ 10000) (hj : 1 ≤ j := by omega) : EO j (eCb newL t) s (z + 6) (e + 1) := fun M cl h2 => by
  obtain ⟨ds, ps, h, t1, hl1⟩ := a M
  have t2 : Ts (M ++ [.lst ds]) 0 ds ps z e := t1.pure
  refine ⟨.ref M.length, .list ps, [.lst ds], ?_, clo_low cl (lowDs_of fun d hd => ?_), (t2.list (by omega) h2 gn_new).keep (kp_refl _) hj (Nat.le_refl _) (Nat.le_refl _)⟩
  · rw [eCb_run, h]; exact newL_s (by omega)
  · exact lowDs_at (show lowDs M.length ds = true from (Ts.pure t1 : Ts M 0 ds ps z e).low) d hd
theorem EO.list0 {ds : List D} {ps : List PyData} (h : s[0]? = some (some (.tup ds))) (b : Ts [] 0 ds ps z e) (hl : ds.length ≤ 10000) (hj : 1 ≤ j := by omega) : EO j (eCb (one1 listD) (aCons (eVar 0) aNil)) s (z + 6) (e + 1) := fun M cl h2 => by
  have t2 : Ts (M ++ [.lst ds]) 0 ds ps z e := b.pure
  refine ⟨.ref M.length, .list ps, [.lst ds], ?_, clo_low cl (Ts.pure b : Ts M 0 ds ps z e).low, (t2.list (by omega) h2 gn_new).keep (kp_refl _) hj (Nat.le_refl _) (Nat.le_refl _)⟩
  simp only [eCb_run, aCons_run, aNil_run, eVar_run, h, one1_run, listD_tupn]
  exact newL_s (by omega)
theorem EO.two (a : PO te s z e) (b : EO j tf s z' e') : EO j (eCb newT (aCons te (aCons tf aNil))) s (z + 2 + (z' + 2) + 6) (max e e' + 1) := fun M cl h2 => by
  obtain ⟨d, p, h1, t1⟩ := a M
  obtain ⟨d', p', E, h2, c2, t2⟩ := b M cl h2
  have t1' : Tb (M ++ E) j d p z e := t1.pure
  have h3 := Ts.cons t1' (Ts.cons t2 (Ts.nil _ _))
  refine ⟨.tup [d, d'], .tuple [p, p'], E, ?_, c2, (h3.tup (by simp only [List.length_cons, List.length_nil]; omega)).wk (by omega) (by omega)⟩
  simp only [eCb_run, aCons_run, aNil_run, h1, h2]
  exact newT_s (by simp only [List.length_cons, List.length_nil]; omega)
theorem LA.nil : LA j aNil s z e 0 := fun M cl h2 => ⟨[], [], by rw [List.append_nil]; rfl, by rw [List.append_nil]; exact cl, (fun d hd => nomatch hd), rfl⟩
theorem LA.cons (a : PO te s z' e') (hz : z' ≤ z) (he : e' ≤ e) (b : LA j t s z e l) : LA j (aCons te t) s z e (l + 1) := fun M cl h2 => by
  obtain ⟨d, p, h1, t1⟩ := a M
  obtain ⟨ds, E, h3, c3, a3, l3⟩ := b M cl h2
  refine ⟨d :: ds, E, by rw [aCons_run, h1]; simp only [h3], c3, fun x hx => ?_, by rw [List.length_cons, l3]⟩
  rcases List.mem_cons.mp hx with rfl | hx
  · exact ⟨p, t1.pure.wk hz he⟩
  · exact a3 x hx
theorem LA.consE (a : EO j te s z' e') (hz : z' ≤ z) (he : e' ≤ e) (b : LA j t s z e l) : LA j (aCons te t) s z e (l + 1) := fun M cl h2 => by
  obtain ⟨d, p, E, h1, c1, t1⟩ := a M cl h2
  obtain ⟨ds, E', h3, c3, a3, l3⟩ := b (M ++ E) c1 (by rw [List.length_append]; omega)
  rw [List.append_assoc] at h3 c3 a3
  refine ⟨d :: ds, E ++ E', by rw [aCons_run, h1]; simp only [h3], c3, fun x hx => ?_, by rw [List.length_cons, l3]⟩
  rcases List.mem_cons.mp hx with rfl | hx
  · refine ⟨p, t1.keep ?_ (Nat.le_refl _) hz he⟩
    rw [← List.append_assoc]; exact kp_app _ _
  · exact a3 x hx
/-- the list stands last -/
def NrB (j : Nat) (M0 M : Mh) (k z e n : Nat) : Prop := ∃ M1 ds, M = M1 ++ [.lst ds] ∧ k = M1.length ∧ Clo M1 ∧ Al M1 j ds z e ∧ ds.length ≤ n ∧ 2 ≤ M1.length ∧ ∃ E, M1 = M0 ++ E
theorem nr_new {M : Mh} (hA : LA j t s z e l) (cl : Clo M) (h2 : 2 ≤ M.length) (hl : l ≤ 100000) : ∃ k M', eCb newL t s M = .ok (.ref k) M' ∧ NrB j M M' k z e l ∧ ∃ ds, M'[k]? = some (.lst ds) ∧ ds.length = l := by
  obtain ⟨ds, E, h3, c3, a3, l3⟩ := hA M cl h2
  refine ⟨(M ++ E).length, M ++ E ++ [.lst ds], ?_, ⟨M ++ E, ds, rfl, rfl, c3, a3, by omega, by rw [List.length_append]; omega, E, rfl⟩, ds, gn_new, l3⟩
  rw [eCb_run, h3]; exact newL_s (by omega)
theorem NrB.clo {M0 M : Mh} {k n : Nat} (h : NrB j M0 M k z e n) : Clo M := by
  obtain ⟨M1, ds, rfl, rfl, c1, a1, _⟩ := h
  exact clo_low c1 a1.low
theorem NrB.two {M0 M : Mh} {k n : Nat} (h : NrB j M0 M k z e n) : 2 ≤ M.length := by
  obtain ⟨M1, ds, rfl, rfl, c1, a1, _, h2, _⟩ := h
  rw [List.length_append]; omega
theorem nr_more {M0 M : Mh} {k n i : Nat} (nr : NrB j M0 M k z e n) (hs : s[i]? = some (some (.ref k))) (hA : LA j t s z e l) (hn : n + l ≤ 100000) : ∃ k' M', eOp addD (eVar i) (eCb newL t) s M = .ok (.ref k') M' ∧ NrB j M0 M' k' z e (n + l) ∧ NrB j M M' k' z e (n + l) := by
  have cM := nr.clo
  have hM2 := nr.two
  obtain ⟨M1, ds, rfl, rfl, c1, a1, hl, h2, E0, rfl⟩ := nr
  obtain ⟨ds2, E, h3, c3, a3, l3⟩ := hA _ cM hM2
  have g1 : (M0 ++ E0 ++ [MO.lst ds] ++ E ++ [MO.lst ds2])[(M0 ++ E0).length]? = some (.lst ds) := by
    rw [List.append_assoc, List.append_assoc]; exact gn_new
  have g2 : (M0 ++ E0 ++ [MO.lst ds] ++ E ++ [MO.lst ds2])[(M0 ++ E0 ++ [MO.lst ds] ++ E).length]? = some (.lst ds2) := gn_new
  have hal : Al (M0 ++ E0 ++ [MO.lst ds] ++ E ++ [MO.lst ds2]) j (ds ++ ds2) z e := (a1.keep (by rw [List.append_assoc, List.append_assoc]; exact kp_app _ _)).app (a3.keep (kp_app _ _))
  have hlen : (ds ++ ds2).length ≤ n + l := by rw [List.length_append]; omega
  have h2' : 2 ≤ (M0 ++ E0 ++ [MO.lst ds] ++ E ++ [MO.lst ds2]).length := by simp only [List.length_append] at h2 ⊢; omega
  refine ⟨(M0 ++ E0 ++ [MO.lst ds] ++ E ++ [MO.lst ds2]).length, M0 ++ E0 ++ [MO.lst ds] ++ E ++ [MO.lst ds2] ++ [MO.lst (ds ++ ds2)], ?_, ⟨M0 ++ E0 ++ [MO.lst ds] ++ E ++ [MO.lst ds2], ds ++ ds2, rfl, rfl, clo_low c3 a3.low, hal, hlen, h2', E0 ++ [MO.lst ds] ++ E ++ [MO.lst ds2], by simp only [List.append_assoc]⟩, ⟨M0 ++ E0 ++ [MO.lst ds] ++ E ++ [MO.lst ds2], ds ++ ds2, rfl, rfl, clo_low c3 a3.low, hal, hlen, h2', E ++ [MO.lst ds2], by simp only [List.append_assoc]⟩⟩
  · simp only [eOp_run, eVar_run, hs, eCb_run, h3, newL_s (show ds2.length ≤ 100000 by omega), addD_ref, g1, g2]
    exact newL_s (by rw [List.length_append]; omega)
theorem nr_grow {M0 M : Mh} {k n i : Nat} (nr : NrB j M0 M k z e n) (hs : s[i]? = some (some (.ref k))) (hA : LA j t s z e l) (hn : n + l ≤ 100000) : ∃ k' M', sAsg (eOp addD (eVar i) (eCb newL t)) (gNm i) s M = .ok (.nx, s.set i (some (.ref k'))) M' ∧ NrB j M0 M' k' z e (n + l) := by
  obtain ⟨k', M', e1, h1, _⟩ := nr_more nr hs hA hn
  exact ⟨k', M', by rw [sAsg_run, e1]; rfl, h1⟩
theorem nr_app {M0 M : Mh} {k n i : Nat} (nr : NrB j M0 M k z e n) (hs : s[i]? = some (some (.ref k))) (hA : PO te s z e) (hn : n ≤ 100000) : ∃ M', sExp (eLm appD (eVar i) (aCons te aNil)) s M = .ok (.nx, s) M' ∧ NrB j M0 M' k z e (n + 1) := by
  obtain ⟨M1, ds, rfl, rfl, c1, a1, hl, h2, hE⟩ := nr
  obtain ⟨d, p, h1, t1⟩ := hA (M1 ++ [.lst ds])
  have g1 : (M1 ++ [MO.lst ds])[M1.length]? = some (.lst ds) := gn_new
  refine ⟨M1 ++ [.lst (ds ++ [d])], ?_, M1, ds ++ [d], rfl, rfl, c1, a1.app fun x hx => ?_, by rw [List.length_append]; simp only [List.length_cons, List.length_nil]; omega, h2, hE⟩
  · have hz : ds.length < PySem.sizeLine := by rw [Dn.sizeLine_eq]; omega
    have es : (M1 ++ [MO.lst ds]).set M1.length (MO.lst (ds ++ [d])) = M1 ++ [MO.lst (ds ++ [d])] := by
      rw [List.set_append_right _ _ (Nat.le_refl _), Nat.sub_self]; rfl
    simp only [sExp_run, eLm_run, eVar_run, hs, g1, aCons_run, aNil_run, h1, appD_run, if_pos hz, es]
  · have : x = d := by simpa using hx
    subst this
    exact ⟨p, t1.pure⟩
end
/-- behind a call -/
theorem nr_gc {M0 M : Mh} {k z e n j : Nat} (nr : NrB j M0 M k z e n) (c0 : Clo M0) (h0 : 2 ≤ M0.length) : ∃ k' M', gcD M0.length (.ref k) M = .ok (.ref k') M' ∧ NrB j M0 M' k' z e n := by
  have nr0 := nr
  obtain ⟨M1, ds, rfl, rfl, c1, a1, hl, h2, E, rfl⟩ := nr
  have ht : (M0 ++ E ++ [MO.lst ds]).take M0.length = M0 := by rw [List.append_assoc]; exact List.take_left ..
  have hc : ((M0 ++ E ++ [MO.lst ds]).take M0.length).all (lowO M0.length) = true ∧ M0.length ≤ (M0 ++ E ++ [MO.lst ds]).length := ⟨by rw [ht]; exact c0, by simp only [List.length_append]; omega⟩
  have hlow : ¬ lowD M0.length (.ref (M0 ++ E).length) = true := by
    simp only [lowD, decide_eq_true_eq, List.length_append]; omega
  have hg : (M0 ++ E ++ [MO.lst ds])[(M0 ++ E).length]? = some (.lst ds) := gn_new
  unfold gcD
  rw [if_pos hc, if_neg hlow, ht]
  simp only [hg]
  by_cases hb : lowO M0.length (.lst ds) = true
  · rw [if_pos hb]
    refine ⟨M0.length, M0 ++ [.lst ds], rfl, M0, ds, rfl, rfl, c0, fun d hd => ?_, hl, h0, [], by rw [List.append_nil]⟩
    obtain ⟨p, t⟩ := a1 d hd
    exact ⟨p, ⟨toP_back (fun k q hk h => hQ_back c0 hk h) d p (lowDs_at hb d hd) t.g.t, t.g.c, t.g.x⟩, t.s, t.h, t.z, t.e⟩
  · rw [if_neg hb]
    exact ⟨_, _, rfl, nr0⟩
/-! ### the law's near -/
noncomputable def q0 : SD := (sAsg (eCb newT (aCons (eC (.str "letter")) (aCons (eC (.str "a")) aNil))) (gNm 1))
noncomputable def q1 : SD := (sAsg (eCb newL (aCons (eVar 0) (aCons (eCb (one1 listD) (aCons (eVar 0) aNil)) (aCons (eOp addD (eVar 0) (eCb newT (aCons (eVar 1) aNil))) (aCons (eSl (eVar 0) oNone (oSome (eUn negD (eC (.int 1))))) (aCons (eRev (eVar 0) (eUn negD (eC (.int 1)))) (aCons (eCb newT (aCons (eVar 0) aNil)) (aCons (eCb newT (aCons (eC (.str "not")) (aCons (eVar 0) aNil))) (aCons (eCb newT (aCons (eC (.str "not")) (aCons (eVar 0) (aCons (eVar 0) aNil)))) (aCons (eCb newT (aCons (eC (.str "not")) aNil)) (aCons (eCb newT (aCons (eC (.str "not")) (aCons (eCb newT (aCons (eVar 0) aNil)) aNil))) aNil))))))))))) (gNm 2))
noncomputable def q2b : SD := (sSeq (sAsg (eOp addD (eVar 2) (eCb newL (aCons (eCb newT (aCons (eVar 3) (aCons (eCb newT (aCons (eVar 0) aNil)) aNil))) (aCons (eCb newT (aCons (eVar 3) (aCons (eCb newT (aCons (eVar 0) (aCons (eVar 1) aNil))) aNil))) (aCons (eCb newT (aCons (eVar 3) (aCons (eCb newT aNil) aNil))) (aCons (eCb newT (aCons (eVar 3) (aCons (eVar 0) aNil))) (aCons (eCb newT (aCons (eVar 3) (aCons (eCb newL (aCons (eVar 0) aNil)) aNil))) (aCons (eCb newT (aCons (eVar 3) (aCons (eCb newT (aCons (eVar 0) (aCons (eC .non) aNil))) aNil))) aNil)))))))) (gNm 2)) (sExp (eLm appD (eVar 2) (aCons (eCb newT (aCons (eVar 3) (aCons (eVar 0) (aCons (eVar 1) aNil)))) aNil))))
noncomputable def q2 : SD := (sFor (fun s => ((eCb newT (aCons (eC (.str "and")) (aCons (eC (.str "or")) (aCons (eC (.str "xor")) (aCons (eC (.str "And")) (aCons (eC (.str "")) aNil)))))) s).bind wkOf) (gNm 3) q2b)
noncomputable def q3b : SD := (sSeq (sAsg (eOp addD (eVar 2) (eCb newL (aCons (eCb newT (aCons (eVar 3) (aCons (eVar 0) (aCons (eVar 1) aNil)))) (aCons (eCb newT (aCons (eVar 3) (aCons (eVar 1) (aCons (eVar 0) aNil)))) (aCons (eCb newT (aCons (eVar 3) (aCons (eVar 0) aNil))) (aCons (eCb newT (aCons (eVar 3) (aCons (eC (.str "h")) (aCons (eVar 0) aNil)))) (aCons (eCb newT (aCons (eVar 3) (aCons (eVar 0) (aCons (eC (.str "h")) aNil)))) (aCons (eCb newT (aCons (eVar 3) (aCons (eC (.str "H")) (aCons (eVar 0) aNil)))) aNil)))))))) (gNm 2)) (sAsg (eOp addD (eVar 2) (eCb newL (aCons (eCb newT (aCons (eVar 3) (aCons (eC (.str "")) (aCons (eVar 0) aNil)))) (aCons (eCb newT (aCons (eVar 3) (aCons (eC (.str "abcdefghi")) (aCons (eVar 0) aNil)))) (aCons (eCb newT (aCons (eVar 3) (aCons (eVar 0) (aCons (eVar 1) (aCons (eVar 0) aNil))))) (aCons (eCb newT (aCons (eVar 3) (aCons (eC (.str "h")) (aCons (eC (.str "k")) (aCons (eVar 0) aNil))))) (aCons (eCb newT (aCons (eVar 3) (aCons (eC (.int 1)) (aCons (eVar 0) aNil)))) aNil))))))) (gNm 2)))
noncomputable def q3 : SD := (sFor (fun s => ((eCb newT (aCons (eC (.str "so")) (aCons (eC (.str "told")) (aCons (eC (.str "must")) (aCons (eC (.str "may")) (aCons (eC (.str "tell")) aNil)))))) s).bind wkOf) (gNm 3) q3b)
noncomputable def q4 : SD := (sAsg (eOp addD (eVar 2) (eCb newL (aCons (eCb newT (aCons (eC (.str "letter")) (aCons (eC (.str "a")) (aCons (eC (.str "b")) aNil)))) (aCons (eCb newT (aCons (eC (.str "letter")) (aCons (eC (.str "A")) aNil))) (aCons (eCb newT (aCons (eC (.str "letter")) (aCons (eC (.str "")) aNil))) (aCons (eCb newT (aCons (eC (.str "letter")) (aCons (eVar 0) aNil))) (aCons (eCb newT (aCons (eC (.str "letter")) (aCons (eC (.str "abcdefgh")) aNil))) aNil))))))) (gNm 2))
noncomputable def q5 : SD := (sRet (eOp addD (eVar 2) (eCb newL (aCons (eCb newT (aCons (eC (.str "letter")) aNil)) aNil))))
noncomputable def b_near : SD := sSeq q0 (sSeq q1 (sSeq q2 (sSeq q3 (sSeq q4 q5))))
section
variable {M0 M : Mh} {ds : List D} {ps : List PyData} {k n : Nat} {w : Str} {x3 : Option D}
abbrev dA : D := .tup [.str "letter", .str "a"]
theorem tb_w {w : Str} (h1 : w.length ≤ 20) (h2 : PyData.strOk w = true) : Tb [] 0 (.str w) (.str w) 202 0 := (tb_str (by omega) h2).wk (by omega) (Nat.le_refl _)
theorem tb_a : Tb [] 0 dA (.tuple [.str "letter", .str "a"]) 414 1 :=
  ((Ts.cons (tb_w (w := "letter") (by decide +kernel) (by decide +kernel)) (Ts.cons (tb_w (w := "a") (by decide +kernel) (by decide +kernel)) (Ts.nil _ _))).tup (by decide)).wk (by omega) (by omega)
theorem q1_ok (ts : Ts [] 0 ds ps 6000 40) (hl : ds.length ≤ 3000) (cl : Clo M) (h2 : 2 ≤ M.length) : ∃ k' M', q1 [some (.tup ds), some dA, none, none] M = .ok (.nx, [some (.tup ds), some dA, some (.ref k'), none]) M' ∧ NrB 1 M M' k' 20000 46 10 := by
  have v0 : PO (eVar 0) [some (.tup ds), some dA, none, none] 6006 41 := PO.var rfl (ts.tup (by omega))
  have v1 : PO (eVar 1) [some (.tup ds), some dA, none, none] 414 1 := PO.var rfl tb_a
  have hA : LA 1 (aCons (eVar 0) (aCons (eCb (one1 listD) (aCons (eVar 0) aNil)) (aCons (eOp addD (eVar 0) (eCb newT (aCons (eVar 1) aNil))) (aCons (eSl (eVar 0) oNone (oSome (eUn negD (eC (.int 1))))) (aCons (eRev (eVar 0) (eUn negD (eC (.int 1)))) (aCons (eCb newT (aCons (eVar 0) aNil)) (aCons (eCb newT (aCons (eC (.str "not")) (aCons (eVar 0) aNil))) (aCons (eCb newT (aCons (eC (.str "not")) (aCons (eVar 0) (aCons (eVar 0) aNil)))) (aCons (eCb newT (aCons (eC (.str "not")) aNil)) (aCons (eCb newT (aCons (eC (.str "not")) (aCons (eCb newT (aCons (eVar 0) aNil)) aNil))) aNil)))))))))) [some (.tup ds), some dA, none, none] 20000 46 10 := (LA.cons v0 (by omega) (by omega) (LA.consE (EO.list0 rfl ts (by omega)) (by omega) (by omega) (LA.cons (PT.add (PT.var rfl ts rfl) (PT.new (PA.cons v1 PA.nil) (by omega)) (by omega)).po (by omega) (by omega) (LA.cons (PT.last rfl ts (by omega)) (by omega) (by omega) (LA.cons (PT.rev rfl ts (by omega)) (by omega) (by omega) (LA.cons (PO.tup (PA.cons v0 PA.nil) (by omega)) (by omega) (by omega) (LA.cons (PO.tup (PA.cons (PO.str (by decide +kernel) (by decide +kernel)) (PA.cons v0 PA.nil)) (by omega)) (by omega) (by omega) (LA.cons (PO.tup (PA.cons (PO.str (by decide +kernel) (by decide +kernel)) (PA.cons v0 (PA.cons v0 PA.nil))) (by omega)) (by omega) (by omega) (LA.cons (PO.tup (PA.cons (PO.str (by decide +kernel) (by decide +kernel)) PA.nil) (by omega)) (by omega) (by omega) (LA.cons (PO.tup (PA.cons (PO.str (by decide +kernel) (by decide +kernel)) (PA.cons (PO.tup (PA.cons v0 PA.nil) (by omega)) PA.nil)) (by omega)) (by omega) (by omega) LA.nil))))))))))
  obtain ⟨k', M', e1, h1, _⟩ := nr_new hA cl h2 (by omega)
  exact ⟨k', M', by unfold q1; rw [sAsg_run, e1]; rfl, h1⟩
theorem q2b_ok (ts : Ts [] 0 ds ps 6000 40) (hl : ds.length ≤ 3000) (nr : NrB 1 M0 M k 20000 46 n) (hn : n ≤ 1000) (hw : w.length ≤ 20) (ho : PyData.strOk w = true) : ∃ k' M', q2b [some (.tup ds), some dA, some (.ref k), some (.str w)] M = .ok (.nx, [some (.tup ds), some dA, some (.ref k'), some (.str w)]) M' ∧ NrB 1 M0 M' k' 20000 46 (n + 6 + 1) := by
  have v0 : PO (eVar 0) [some (.tup ds), some dA, some (.ref k), some (.str w)] 6006 41 := PO.var rfl (ts.tup (by omega))
  have v1 : PO (eVar 1) [some (.tup ds), some dA, some (.ref k), some (.str w)] 414 1 := PO.var rfl tb_a
  have v3 : PO (eVar 3) [some (.tup ds), some dA, some (.ref k), some (.str w)] 202 0 := PO.var rfl (tb_w hw ho)
  have hA : LA 1 (aCons (eCb newT (aCons (eVar 3) (aCons (eCb newT (aCons (eVar 0) aNil)) aNil))) (aCons (eCb newT (aCons (eVar 3) (aCons (eCb newT (aCons (eVar 0) (aCons (eVar 1) aNil))) aNil))) (aCons (eCb newT (aCons (eVar 3) (aCons (eCb newT aNil) aNil))) (aCons (eCb newT (aCons (eVar 3) (aCons (eVar 0) aNil))) (aCons (eCb newT (aCons (eVar 3) (aCons (eCb newL (aCons (eVar 0) aNil)) aNil))) (aCons (eCb newT (aCons (eVar 3) (aCons (eCb newT (aCons (eVar 0) (aCons (eC .non) aNil))) aNil))) aNil)))))) [some (.tup ds), some dA, some (.ref k), some (.str w)] 20000 46 6 := (LA.cons (PO.tup (PA.cons v3 (PA.cons (PO.tup (PA.cons v0 PA.nil) (by omega)) PA.nil)) (by omega)) (by omega) (by omega) (LA.cons (PO.tup (PA.cons v3 (PA.cons (PO.tup (PA.cons v0 (PA.cons v1 PA.nil)) (by omega)) PA.nil)) (by omega)) (by omega) (by omega) (LA.cons (PO.tup (PA.cons v3 (PA.cons (PO.tup PA.nil (by omega)) PA.nil)) (by omega)) (by omega) (by omega) (LA.cons (PO.tup (PA.cons v3 (PA.cons v0 PA.nil)) (by omega)) (by omega) (by omega) (LA.consE (EO.two v3 (EO.lst (PA.cons v0 PA.nil) (by omega))) (by omega) (by omega) (LA.cons (PO.tup (PA.cons v3 (PA.cons (PO.tup (PA.cons v0 (PA.cons PO.non PA.nil)) (by omega)) PA.nil)) (by omega)) (by omega) (by omega) LA.nil))))))
  obtain ⟨k1, M1, e1, h1⟩ := nr_grow (i := 2) nr rfl hA (by omega)
  have w0 : PO (eVar 0) [some (.tup ds), some dA, some (.ref k1), some (.str w)] 6006 41 := PO.var rfl (ts.tup (by omega))
  have w1 : PO (eVar 1) [some (.tup ds), some dA, some (.ref k1), some (.str w)] 414 1 := PO.var rfl tb_a
  have w3 : PO (eVar 3) [some (.tup ds), some dA, some (.ref k1), some (.str w)] 202 0 := PO.var rfl (tb_w hw ho)
  have hT : PO (eCb newT (aCons (eVar 3) (aCons (eVar 0) (aCons (eVar 1) aNil)))) [some (.tup ds), some dA, some (.ref k1), some (.str w)] 20000 46 := PO.wk (PO.tup (PA.cons w3 (PA.cons w0 (PA.cons w1 PA.nil))) (by omega)) (by omega) (by omega)
  obtain ⟨M2, e2, h2⟩ := nr_app (i := 2) h1 rfl hT (by omega)
  refine ⟨k1, M2, ?_, h2⟩
  unfold q2b
  rw [sSeq_run, e1]
  exact e2
theorem q3b_ok (ts : Ts [] 0 ds ps 6000 40) (hl : ds.length ≤ 3000) (nr : NrB 1 M0 M k 20000 46 n) (hn : n ≤ 1000) (hw : w.length ≤ 20) (ho : PyData.strOk w = true) : ∃ k' M', q3b [some (.tup ds), some dA, some (.ref k), some (.str w)] M = .ok (.nx, [some (.tup ds), some dA, some (.ref k'), some (.str w)]) M' ∧ NrB 1 M0 M' k' 20000 46 (n + 6 + 5) := by
  have v0 : PO (eVar 0) [some (.tup ds), some dA, some (.ref k), some (.str w)] 6006 41 := PO.var rfl (ts.tup (by omega))
  have v1 : PO (eVar 1) [some (.tup ds), some dA, some (.ref k), some (.str w)] 414 1 := PO.var rfl tb_a
  have v3 : PO (eVar 3) [some (.tup ds), some dA, some (.ref k), some (.str w)] 202 0 := PO.var rfl (tb_w hw ho)
  have hA : LA 1 (aCons (eCb newT (aCons (eVar 3) (aCons (eVar 0) (aCons (eVar 1) aNil)))) (aCons (eCb newT (aCons (eVar 3) (aCons (eVar 1) (aCons (eVar 0) aNil)))) (aCons (eCb newT (aCons (eVar 3) (aCons (eVar 0) aNil))) (aCons (eCb newT (aCons (eVar 3) (aCons (eC (.str "h")) (aCons (eVar 0) aNil)))) (aCons (eCb newT (aCons (eVar 3) (aCons (eVar 0) (aCons (eC (.str "h")) aNil)))) (aCons (eCb newT (aCons (eVar 3) (aCons (eC (.str "H")) (aCons (eVar 0) aNil)))) aNil)))))) [some (.tup ds), some dA, some (.ref k), some (.str w)] 20000 46 6 := (LA.cons (PO.tup (PA.cons v3 (PA.cons v0 (PA.cons v1 PA.nil))) (by omega)) (by omega) (by omega) (LA.cons (PO.tup (PA.cons v3 (PA.cons v1 (PA.cons v0 PA.nil))) (by omega)) (by omega) (by omega) (LA.cons (PO.tup (PA.cons v3 (PA.cons v0 PA.nil)) (by omega)) (by omega) (by omega) (LA.cons (PO.tup (PA.cons v3 (PA.cons (PO.str (by decide +kernel) (by decide +kernel)) (PA.cons v0 PA.nil))) (by omega)) (by omega) (by omega) (LA.cons (PO.tup (PA.cons v3 (PA.cons v0 (PA.cons (PO.str (by decide +kernel) (by decide +kernel)) PA.nil))) (by omega)) (by omega) (by omega) (LA.cons (PO.tup (PA.cons v3 (PA.cons (PO.str (by decide +kernel) (by decide +kernel)) (PA.cons v0 PA.nil))) (by omega)) (by omega) (by omega) LA.nil))))))
  obtain ⟨k1, M1, e1, h1⟩ := nr_grow (i := 2) nr rfl hA (by omega)
  have w0 : PO (eVar 0) [some (.tup ds), some dA, some (.ref k1), some (.str w)] 6006 41 := PO.var rfl (ts.tup (by omega))
  have w1 : PO (eVar 1) [some (.tup ds), some dA, some (.ref k1), some (.str w)] 414 1 := PO.var rfl tb_a
  have w3 : PO (eVar 3) [some (.tup ds), some dA, some (.ref k1), some (.str w)] 202 0 := PO.var rfl (tb_w hw ho)
  have hT : LA 1 (aCons (eCb newT (aCons (eVar 3) (aCons (eC (.str "")) (aCons (eVar 0) aNil)))) (aCons (eCb newT (aCons (eVar 3) (aCons (eC (.str "abcdefghi")) (aCons (eVar 0) aNil)))) (aCons (eCb newT (aCons (eVar 3) (aCons (eVar 0) (aCons (eVar 1) (aCons (eVar 0) aNil))))) (aCons (eCb newT (aCons (eVar 3) (aCons (eC (.str "h")) (aCons (eC (.str "k")) (aCons (eVar 0) aNil))))) (aCons (eCb newT (aCons (eVar 3) (aCons (eC (.int 1)) (aCons (eVar 0) aNil)))) aNil))))) [some (.tup ds), some dA, some (.ref k1), some (.str w)] 20000 46 5 := (LA.cons (PO.tup (PA.cons w3 (PA.cons (PO.str (by decide +kernel) (by decide +kernel)) (PA.cons w0 PA.nil))) (by omega)) (by omega) (by omega) (LA.cons (PO.tup (PA.cons w3 (PA.cons (PO.str (by decide +kernel) (by decide +kernel)) (PA.cons w0 PA.nil))) (by omega)) (by omega) (by omega) (LA.cons (PO.tup (PA.cons w3 (PA.cons w0 (PA.cons w1 (PA.cons w0 PA.nil)))) (by omega)) (by omega) (by omega) (LA.cons (PO.tup (PA.cons w3 (PA.cons (PO.str (by decide +kernel) (by decide +kernel)) (PA.cons (PO.str (by decide +kernel) (by decide +kernel)) (PA.cons w0 PA.nil)))) (by omega)) (by omega) (by omega) (LA.cons (PO.tup (PA.cons w3 (PA.cons PO.one (PA.cons w0 PA.nil))) (by omega)) (by omega) (by omega) LA.nil)))))
  obtain ⟨k2, M2, e2, h2⟩ := nr_grow (i := 2) h1 rfl hT (by omega)
  refine ⟨k2, M2, ?_, h2⟩
  unfold q3b
  rw [sSeq_run, e1]
  exact e2
/-- five words -/
theorem near_for {body : SD} {ws : List Str} (c : Nat) (hb : ∀ (w : Str) (k n : Nat) (M : Mh), w ∈ ws → NrB 1 M0 M k 20000 46 n → n ≤ 1000 → ∃ k' M', body [some (.tup ds), some dA, some (.ref k), some (.str w)] M = .ok (.nx, [some (.tup ds), some dA, some (.ref k'), some (.str w)]) M' ∧ NrB 1 M0 M' k' 20000 46 (n + c)) (nr : NrB 1 M0 M k 20000 46 n) (hn : n + ws.length * c ≤ 1000) (wk : Wk) (hwk : wk = ⟨none, ws.map D.str⟩) :
    ∃ k' M' y3, loopD wk (gNm 3) body (ws.map D.str) [some (.tup ds), some dA, some (.ref k), x3] M = .ok (.nx, [some (.tup ds), some dA, some (.ref k'), y3]) M' ∧ NrB 1 M0 M' k' 20000 46 (n + ws.length * c) := by
  subst hwk
  obtain ⟨s', M', e1, k', y3, rfl, h1⟩ := loop_ix (w := ⟨none, ws.map D.str⟩) (g := gNm 3) (body := body) (fun i s M => ∃ k' y3, s = [some (.tup ds), some dA, some (.ref k'), y3] ∧ NrB 1 M0 M k' 20000 46 (n + i * c)) (fun _ _ _ _ => stays_none.mpr trivial) (ws.map D.str) 0 [some (.tup ds), some dA, some (.ref k), x3] M ⟨k, x3, rfl, by rw [Nat.zero_mul]; exact nr⟩ (fun j d s M hj ⟨k1, y, hs, h1⟩ => by
    subst hs
    rw [List.getElem?_map, Option.map_eq_some_iff] at hj
    obtain ⟨w, hw, rfl⟩ := hj
    have hj2 : j < ws.length := (List.getElem?_eq_some_iff.mp hw).1
    have hle : j * c ≤ ws.length * c := Nat.mul_le_mul_right _ (by omega)
    rw [Nat.zero_add] at h1 ⊢
    obtain ⟨k2, M2, e2, h2⟩ := hb w k1 (n + j * c) M (List.mem_of_getElem? hw) h1 (by omega)
    refine ⟨[some (.tup ds), some dA, some (.ref k1), some (.str w)], M, _, M2, rfl, e2, k2, _, rfl, ?_⟩
    rw [Nat.succ_mul, ← Nat.add_assoc]; exact h2)
  rw [Nat.zero_add, List.length_map] at h1
  exact ⟨k', M', y3, e1, h1⟩
def NearOk (F : Fn) : Prop := ∀ (M : Mh) (ds : List D) (ps : List PyData), Clo M → 2 ≤ M.length → Ts [] 0 ds ps 6000 40 → ds.length ≤ 3000 → ∃ k M', F [.tup ds] M = .ok (.ref k) M' ∧ NrB 1 M M' k 20000 46 200
theorem near_ok : NearOk (mkFn 4 1 b_near) := by
  intro M ds ps cl h2 ts hl
  have e0 : q0 [some (.tup ds), none, none, none] M = .ok (.nx, [some (.tup ds), some dA, none, none]) M := by
    unfold q0
    simp only [sAsg_run, eCb_run, aCons_run, aNil_run, eC_run, newT_s (show [D.str "letter", .str "a"].length ≤ 100000 by decide), gNm_run]
    rfl
  obtain ⟨k1, M1, e1, h1⟩ := q1_ok ts hl cl h2
  have w1 : ∀ w, w ∈ (["and", "or", "xor", "And", ""] : List Str) → w.length ≤ 20 ∧ PyData.strOk w = true := by
    intro w hw
    simp only [List.mem_cons, List.not_mem_nil, or_false] at hw
    rcases hw with rfl | rfl | rfl | rfl | rfl <;> exact ⟨by decide +kernel, by decide +kernel⟩
  have w2 : ∀ w, w ∈ (["so", "told", "must", "may", "tell"] : List Str) → w.length ≤ 20 ∧ PyData.strOk w = true := by
    intro w hw
    simp only [List.mem_cons, List.not_mem_nil, or_false] at hw
    rcases hw with rfl | rfl | rfl | rfl | rfl <;> exact ⟨by decide +kernel, by decide +kernel⟩
  obtain ⟨k2, M2, y2, e2, h2'⟩ := near_for (body := q2b) (ws := ["and", "or", "xor", "And", ""]) (x3 := none) (6 + 1) (fun w k n M hw nr hn => q2b_ok ts hl nr hn (w1 w hw).1 (w1 w hw).2) h1 (by decide) _ rfl
  obtain ⟨k3, M3, y3, e3, h3⟩ := near_for (body := q3b) (ws := ["so", "told", "must", "may", "tell"]) (x3 := y2) (6 + 5) (fun w k n M hw nr hn => q3b_ok ts hl nr hn (w2 w hw).1 (w2 w hw).2) h2' (by decide) _ rfl
  have v0 : PO (eVar 0) [some (.tup ds), some dA, some (.ref k3), y3] 6006 41 := PO.var rfl (ts.tup (by omega))
  have hA : LA 1 (aCons (eCb newT (aCons (eC (.str "letter")) (aCons (eC (.str "a")) (aCons (eC (.str "b")) aNil)))) (aCons (eCb newT (aCons (eC (.str "letter")) (aCons (eC (.str "A")) aNil))) (aCons (eCb newT (aCons (eC (.str "letter")) (aCons (eC (.str "")) aNil))) (aCons (eCb newT (aCons (eC (.str "letter")) (aCons (eVar 0) aNil))) (aCons (eCb newT (aCons (eC (.str "letter")) (aCons (eC (.str "abcdefgh")) aNil))) aNil))))) [some (.tup ds), some dA, some (.ref k3), y3] 20000 46 5 := (LA.cons (PO.tup (PA.cons (PO.str (by decide +kernel) (by decide +kernel)) (PA.cons (PO.str (by decide +kernel) (by decide +kernel)) (PA.cons (PO.str (by decide +kernel) (by decide +kernel)) PA.nil))) (by omega)) (by omega) (by omega) (LA.cons (PO.tup (PA.cons (PO.str (by decide +kernel) (by decide +kernel)) (PA.cons (PO.str (by decide +kernel) (by decide +kernel)) PA.nil)) (by omega)) (by omega) (by omega) (LA.cons (PO.tup (PA.cons (PO.str (by decide +kernel) (by decide +kernel)) (PA.cons (PO.str (by decide +kernel) (by decide +kernel)) PA.nil)) (by omega)) (by omega) (by omega) (LA.cons (PO.tup (PA.cons (PO.str (by decide +kernel) (by decide +kernel)) (PA.cons v0 PA.nil)) (by omega)) (by omega) (by omega) (LA.cons (PO.tup (PA.cons (PO.str (by decide +kernel) (by decide +kernel)) (PA.cons (PO.str (by decide +kernel) (by decide +kernel)) PA.nil)) (by omega)) (by omega) (by omega) LA.nil)))))
  obtain ⟨k4, M4, e4, h4⟩ := nr_grow (i := 2) h3 rfl hA (by decide)
  have hB : LA 1 (aCons (eCb newT (aCons (eC (.str "letter")) aNil)) aNil) [some (.tup ds), some dA, some (.ref k4), y3] 20000 46 1 := (LA.cons (PO.tup (PA.cons (PO.str (by decide +kernel) (by decide +kernel)) PA.nil) (by omega)) (by omega) (by omega) LA.nil)
  obtain ⟨k5, M5, e5, h5, _⟩ := nr_more (i := 2) h4 rfl hB (by decide)
  obtain ⟨k6, M6, e6, h6⟩ := nr_gc h5 cl h2
  have h6' : NrB 1 M M6 k6 20000 46 200 := by
    obtain ⟨N1, es, a, b, c, d, hl6, f⟩ := h6
    exact ⟨N1, es, a, b, c, d, Nat.le_trans hl6 (by decide), f⟩
  refine ⟨k6, M6, mkFn_ok (M' := M5) (d := .ref k5) (s' := [some (.tup ds), some dA, some (.ref k4), y3]) rfl ?_ e6, h6'⟩
  have e4' : q4 [some (.tup ds), some dA, some (.ref k3), y3] M3 = .ok (.nx, [some (.tup ds), some dA, some (.ref k4), y3]) M4 := e4
  have e5' : q5 [some (.tup ds), some dA, some (.ref k4), y3] M4 = .ok (.rt (.ref k5), [some (.tup ds), some dA, some (.ref k4), y3]) M5 := by
    unfold q5; rw [sRet_run, e5]
  have e2' : q2 [some (.tup ds), some dA, some (.ref k1), none] M1 = .ok (.nx, [some (.tup ds), some dA, some (.ref k2), y2]) M2 := e2
  have e3' : q3 [some (.tup ds), some dA, some (.ref k2), y2] M2 = .ok (.nx, [some (.tup ds), some dA, some (.ref k3), y3]) M3 := e3
  show b_near [some (.tup ds), none, none, none] M = _
  unfold b_near
  simp only [sSeq_run, e0, e1, e2', e3', e4', e5']
end
end Dn

/-! Thg13: the law's spoilt -/
namespace Dn
open PySem PySem.Spec PyProof.Rows L2
local macro_rules | `(tactic| walk_at "dn") => `(tactic| simp (disch := first | assumption | exact gn_new | exact gn_at1 | exact gn_at2 | exact gn_at | (simp only [lowDs, lowD, enc_low, encs_low, Bool.and_self]; done) | (refine clo_t ?_; have hEn := fun n (E : Mh) (h : lowE E = true) => lowE_all n h; simp only [List.all_cons, List.all_nil, List.length_cons, List.length_nil, lowO, lowDs, lowD, low_ints, low_strs, encs_low, Nat.reduceAdd, Nat.reduceLT, lt_succ, List.all_append, List.length_append, decide_true, *, Bool.and_self, Bool.and_true]; done) | (simp only [Nat.reduceLeDiff, encs_len, List.length_cons, List.length_nil, Nat.reduceAdd, flatD, List.all_cons, List.all_nil, Bool.and_self, Bool.and_true, List.length_append, List.length_set, Nat.lt_add_one, *]; done) | (simp only [Dn.sizeLine_eq, PySem.Str.length_append, Nat.add_zero]; omega) | (simp only [encs_len, List.length_take, List.length_map, List.length_cons, List.length_append, List.length_nil]; omega) | omega) only [ret_run, bad_run, bind_run, noX_run, asB_run, eOp_run, eUn_run, eCb_run, aNil_run, aCons_run, eVar_run, eC_run, tCmpD_run, tTruD_run, tAndD_run, tOrD_run, tNotD_run, tYesD_run, eIf_run, eAnd_run, eOr_run, notD_run, eSl_run, oNone_run, oSome_run, sRet_run, sRetN_run, sExp_run, sNx_run, sBk_run, sCt_run, sIf_run, sSeq_run, sAsg_run, gNm_run, gsNil_run, gsCons_run, gSb_run, gTp_tup, gSt_tup, sPar_run, sFor_run, eComp_run, newT_s, newL_s, one1_run, eqD_run, neD_run, eqC_str, eqC_int, eqC_bl, inE_run, ninE_run, inCE_rod, inCE_tup, ixE_rod, ixE_tup, ixE_ls, ixE_ref, addD_int, addD_strok, addD_tup, addD_ref, subD_int, mulD_ok, fdivD_ok, modD_ok, powD_ok, ltD_int, leD_int, gtD_int, geD_int, truC_bl, lenD_tup, lenD_ref, lenD_ls, tupleD_ref, listD_tupn, listD_ref, gc_l0n, wkOf_tup, wkOf_ref, eJoin_run, eLm_run, setD_ref, atD_0, atD_1, atD_2, atD_3, atD_4, setL_0, setL_1, setL_2, setL_3, gs_eq, gs_ne, ga_lt,  List.length_set, List.length_map, set_app, List.set_set, decide_eq_true_eq, inF_nil, inF_int, inF_str, flatD, List.all_cons, List.all_nil, Bool.and_true, Bool.and_self, Bool.or_false, Bool.or_true, Bool.true_or, Bool.false_or, Int.reduceEq, Int.reduceLT, Int.reduceMod, Int.reduceNeg, st_len, st_app, st_at, wipeD, rng1_s, Dn.sizeLine_eq, Nat.reduceLT, Int.reduceToNat, List.length_range, List.length_take, Nat.min_def, compL_cons, compL_nil, stays_none, List.set_nil, fm_0, fm_1, fm_2, fm_3, fm_4, fm_5, fm_6, fm_7, fm_8, fm_9, fm_10, fm_11, fm_12, fm_13,  joinD_ref, appD_run, stays_iff,  mkFn_run, List.map_cons, List.map_nil, List.reduceReplicate, gn_new, gn_at, List.append_assoc, gc_str, gc_str0, gc_bl, gc_bl0, gc_int, gc_int0, gc_enc, gc_enc0, gc_tup, gc_tup0, gc_zero, gc_nil, gc_l0, reduceCtorEq, Bool.not_eq_true, eq_self,  List.length_append, encs_len,    strsOf_map, pNil_run, pCons_run, eDisp_run, Option.isSome_some, Option.isSome_none, keysD, keyD, List.zip_cons_cons, List.zip_nil_left, List.zip_nil_right, List.foldl_cons, List.foldl_nil, 
  Nat.reduceAdd, Nat.reduceLeDiff, Nat.reduceEqDiff, Nat.reduceSub, String.reduceEq, reduceIte, Int.reduceLE, Nat.le_refl, ofString_inj, List.set_cons_succ, List.set_cons_zero, List.getElem?_cons_succ, List.getElem?_cons_zero, List.length_cons, List.length_nil, decide_true, decide_false, if_true, if_false, Bool.false_eq_true, List.take_succ_cons, List.take_zero, List.drop_succ_cons, List.drop_zero, List.cons_append, List.nil_append, ne_eq, not_false_eq_true, Bool.not_true, Bool.not_false, *])

theorem kp_set1 {M : Mh} {o : MO} : Kp M (M.set 1 o) := fun k ds h e => by rw [List.getElem?_set_ne (by omega)]; exact e
theorem Ts.set {M : Mh} {j : Nat} {e : Nat} {x : D} {px : PyData} {zx : Nat} (tx : Tb M j x px zx e) : ∀ {ds : List D} {ps : List PyData} {z : Nat} (a : Nat), Ts M j ds ps z e → Ts M j (ds.set a x) (ps.set a px) (z + zx) e
  | [], ps, z, a, t => by
    obtain rfl := t.g.nil
    exact t.wk (by omega) (Nat.le_refl _)
  | d :: ds, ps, z, 0, t => by
    obtain ⟨q, qs, rfl, h1, h2, hz⟩ := t.uncons
    exact (Ts.cons tx h2).wk (by omega) (by omega)
  | d :: ds, ps, z, a + 1, t => by
    obtain ⟨q, qs, rfl, h1, h2, hz⟩ := t.uncons
    exact (Ts.cons h1 (Ts.set tx a h2)).wk (by omega) (by omega)
theorem Ts.up {M M' : Mh} {j k : Nat} {ds : List D} {ps : List PyData} {z e z' e' : Nat} (t : Ts M j ds ps z e) (h : Kp M M') (hj : j ≤ k) (hz : z ≤ z') (he : e ≤ e') : Ts M' k ds ps z' e' :=
  ⟨⟨toPs_mono (fun n q x => hQ_keep h hj x) ds ps t.g.1, t.g.2.1, t.g.2.2⟩, t.s, t.h, by have := t.z; omega, by have := t.e; omega⟩
theorem Ts.get {M : Mh} {j : Nat} {e : Nat} {y : D} : ∀ {ds : List D} {ps : List PyData} {z : Nat} (b : Nat), Ts M j ds ps z e → ds[b]? = some y → ∃ py, Tb M j y py (mz py) e ∧ mz py + 2 ≤ z
  | [], ps, z, b, t, h => by simp at h
  | d :: ds, ps, z, 0, t, h => by
    obtain ⟨q, qs, rfl, h1, h2, hz⟩ := t.uncons
    have : d = y := by simpa using h
    subst this
    exact ⟨q, h1, by omega⟩
  | d :: ds, ps, z, b + 1, t, h => by
    obtain ⟨q, qs, rfl, h1, h2, hz⟩ := t.uncons
    obtain ⟨py, h3, h4⟩ := Ts.get b h2 (by simpa using h)
    exact ⟨py, h3, by omega⟩
/-- the menu stands -/
structure Mn (M : Mh) (m : Nat) (menu : List D) : Prop where
  h : M[m]? = some (.lst menu)
  l : 2 ≤ m
  a : Al M 1 menu 100 2
  n1 : 1 ≤ menu.length
  n2 : menu.length ≤ 1000
theorem Mn.keep {M M' : Mh} {m : Nat} {menu : List D} (h : Mn M m menu) (k : Kp M M') : Mn M' m menu := ⟨k _ _ h.l h.h, h.l, h.a.keep k, h.n1, h.n2⟩
abbrev fdO (i r n : Int) : MO := .lst [.ref 0, .int i, .int r, .int n]
theorem Fd.set1 {M : Mh} {ns : List Int} {i r n : Int} (h : Fd M 1 0 ns i r n) {i' r' n' : Int} (hi : 0 ≤ i') (hn : 0 ≤ n') : Fd (M.set 1 (fdO i' r' n')) 1 0 ns i' r' n' := by
  have := h.set (i' := i') (r' := r') (n' := n') (E := []) hi hn rfl
  rwa [List.append_nil] at this
/-- the ends of a spoiling -/
def SpE (M : Mh) (n : Int) (u j z e : Nat) (r : R D) : Prop := ∃ d' p' i' r' n' E, r = .ok d' (M.set 1 (fdO i' r' n') ++ E) ∧ Clo (M.set 1 (fdO i' r' n') ++ E) ∧ 0 ≤ i' ∧ n ≤ n' ∧ n' ≤ n + u ∧ Tb (M.set 1 (fdO i' r' n') ++ E) j d' p' z e
def SpOk (F : Fn) (e : Nat) : Prop := ∀ (M : Mh) (ns : List Int) (i r n : Int) (d : D) (p : PyData) (j z m : Nat) (menu : List D), Fd M 1 0 ns i r n → n + 4 * (e + 1) ≤ 2 ^ 38 → 2 ≤ M.length → Mn M m menu → Tb M j d p z e → j ≤ 3 → e ≤ 50 → z ≤ 16000 → SpE M n (4 * (e + 1)) (j + 1) (3 * z + 200) (e + 2) (F [.ref 1, d, .ref m] M)
noncomputable def m0 (dr : Fn) : SD := (sAsg (eCb dr (aCons (eVar 0) (aCons (eC (.int 9)) aNil))) (gNm 3))
noncomputable def m1 (dr : Fn) : SD := (sIf (tOrD (tNotD (tTruD (eUn (isiD .tuple) (eVar 1)))) (tOrD (tCmpD eqD (eVar 1) (eCb newT aNil)) (tCmpD eqD (eVar 3) (eC (.int 0))))) (sRet (eOp ixE (eVar 2) (eCb dr (aCons (eVar 0) (aCons (eCb (one1 lenD) (aCons (eVar 2) aNil)) aNil))))) sNx)
noncomputable def m2 (dr : Fn) : SD := (sAsg (eCb dr (aCons (eVar 0) (aCons (eCb (one1 lenD) (aCons (eVar 1) aNil)) aNil))) (gNm 4))
noncomputable def mt (dr sp : Fn) : SD := (sSeq (sIf (tCmpD eqD (eVar 3) (eC (.int 1))) (sRet (eOp addD (eSl (eVar 1) oNone (oSome (eVar 4))) (eSl (eVar 1) (oSome (eOp addD (eVar 4) (eC (.int 1)))) oNone))) sNx) (sSeq (sIf (tCmpD eqD (eVar 3) (eC (.int 2))) (sRet (eOp addD (eOp addD (eSl (eVar 1) oNone (oSome (eVar 4))) (eSl (eVar 1) (oSome (eVar 4)) (oSome (eOp addD (eVar 4) (eC (.int 1)))))) (eSl (eVar 1) (oSome (eVar 4)) oNone))) sNx) (sSeq (sIf (tCmpD eqD (eVar 3) (eC (.int 3))) (sRet (eOp addD (eOp addD (eSl (eVar 1) oNone (oSome (eVar 4))) (eCb newT (aCons (eOp ixE (eVar 2) (eCb dr (aCons (eVar 0) (aCons (eCb (one1 lenD) (aCons (eVar 2) aNil)) aNil)))) aNil))) (eSl (eVar 1) (oSome (eVar 4)) oNone))) sNx) (sSeq (sIf (tCmpD eqD (eVar 3) (eC (.int 4))) (sSeq (sPar [5, 6] (aCons (eCb dr (aCons (eVar 0) (aCons (eCb (one1 lenD) (aCons (eVar 1) aNil)) aNil))) (aCons (eCb (one1 listD) (aCons (eVar 1) aNil)) aNil))) (sSeq (sAsg (eCb newT (aCons (eOp ixE (eVar 1) (eVar 5)) (aCons (eOp ixE (eVar 1) (eVar 4)) aNil))) (gTp 2 (gsCons (gSb (eVar 6) (eVar 4)) (gsCons (gSb (eVar 6) (eVar 5)) gsNil)))) (sRet (eCb (one1 tupleD) (aCons (eVar 6) aNil))))) sNx) (sSeq (sIf (tCmpD eqD (eVar 3) (eC (.int 5))) (sRet (eCb (one1 listD) (aCons (eVar 1) aNil))) sNx) (sRet (eOp addD (eOp addD (eSl (eVar 1) oNone (oSome (eVar 4))) (eCb newT (aCons (eCb sp (aCons (eVar 0) (aCons (eOp ixE (eVar 1) (eVar 4)) (aCons (eVar 2) aNil)))) aNil))) (eSl (eVar 1) (oSome (eOp addD (eVar 4) (eC (.int 1)))) oNone))))))))
noncomputable def b_sp_ (dr sp : Fn) : SD := sSeq (m0 dr) (sSeq (m1 dr) (sSeq (m2 dr) (mt dr sp)))
section
variable {dr sp : Fn} {M : Mh} {ns : List Int} {i r n : Int} {m : Nat} {menu : List D} {d : D}
/-- one of the menu -/
theorem pick_ok (hd : DrawOk dr) (h : Fd M 1 0 ns i r n) (hn : n < 2 ^ 39) (mn : Mn M m menu) {s : Sl} (h0 : s[0]? = some (some (.ref 1))) (h2 : s[2]? = some (some (.ref m))) :
    ∃ x i' r', (eOp ixE (eVar 2) (eCb dr (aCons (eVar 0) (aCons (eCb (one1 lenD) (aCons (eVar 2) aNil)) aNil)))) s M = .ok x (M.set 1 (fdO i' r' (n + 1))) ∧ x ∈ menu ∧ 0 ≤ i' := by
  have n1 := mn.n1; have n2 := mn.n2
  obtain ⟨q, i', r', e, hq0, hq, hi⟩ := draw_fd2 h hd (menu.length : Int) (by omega) (by omega) (by omega)
  obtain ⟨x, hx, ha⟩ := atD_in (xs := menu) hq0 hq
  have hg : (M.set 1 (fdO i' r' (n + 1)))[m]? = some (.lst menu) := kp_set1 _ _ mn.l mn.h
  refine ⟨x, i', r', ?_, hx, hi⟩
  have hm := mn.h
  simp only [eOp_run, eVar_run, h0, h2, eCb_run, aCons_run, aNil_run, one1_run, lenD_ref, hm, e, ixE_ref, hg, ha]
theorem eq_nil {M : Mh} {ds : List D} {p : PyData} {j z e : Nat} (t : Tb M j (.tup ds) p z e) (hj : j ≤ 3) (he : e ≤ 50) : eqC (.tup ds) (.tup []) M = .ok (decide (ds = [])) M := by
  have e1 : dataOf M (.tup ds) = some p := t.g.data (by omega)
  have e2 : dataOf M (.tup []) = some (.tuple []) := rfl
  obtain ⟨ps, rfl, g1, g2, g3, g4⟩ := t.g.items
  have hl : ds.length = ps.length := Gs.len ⟨g1, g2, g3⟩
  have hs : SeqAt.shaped (.tuple ps) = true := by
    unfold SeqAt.shaped
    rw [Bool.and_eq_true]
    refine ⟨t.g.c, decide_eq_true ?_⟩
    have := t.e
    omega
  have hs2 : SeqAt.shaped (.tuple []) = true := by decide +kernel
  have e3 : eqS (.tup ds) (.tup []) = none := rfl
  unfold eqC
  simp only [e3, e1, e2, hs, hs2, and_self, if_true]
  cases ds with
  | nil =>
    have : ps = [] := List.eq_nil_of_length_eq_zero (by rw [← hl]; rfl)
    subst this
    simp only [PyData.eqv, PyData.eqvAll, decide_true]
  | cons a b =>
    cases ps with
    | nil => rw [List.length_cons, List.length_nil] at hl; omega
    | cons x y => simp only [PyData.eqv, PyData.eqvAll]; simp
theorem m0_ok (hd : DrawOk dr) (h : Fd M 1 0 ns i r n) (hn : n < 2 ^ 39) {x2 x3 x4 x5 x6 : Option D} :
    ∃ q i' r', m0 dr [some (.ref 1), some d, x2, x3, x4, x5, x6] M = .ok (.nx, [some (.ref 1), some d, x2, some (.int q), x4, x5, x6]) (M.set 1 (fdO i' r' (n + 1))) ∧ 0 ≤ q ∧ q < 9 ∧ 0 ≤ i' := by
  obtain ⟨q, i', r', e, hq0, hq, hi⟩ := draw_fd2 h hd 9 (by omega) (by omega) (by omega)
  refine ⟨q, i', r', ?_, hq0, hq, hi⟩
  unfold m0
  simp only [sAsg_run, eCb_run, aCons_run, aNil_run, eVar_run, List.getElem?_cons_zero, eC_run, e, gNm_run, List.set_cons_succ, List.set_cons_zero]
theorem m2_ok (hd : DrawOk dr) (h : Fd M 1 0 ns i r n) (hn : n < 2 ^ 39) {ds : List D} (hl1 : ds ≠ []) (hl2 : ds.length ≤ 10000) {x2 x3 x4 x5 x6 : Option D} :
    ∃ a i' r', m2 dr [some (.ref 1), some (.tup ds), x2, x3, x4, x5, x6] M = .ok (.nx, [some (.ref 1), some (.tup ds), x2, x3, some (.int (Int.ofNat a)), x5, x6]) (M.set 1 (fdO i' r' (n + 1))) ∧ a < ds.length ∧ 0 ≤ i' := by
  have : 1 ≤ ds.length := by
    cases ds with
    | nil => exact (hl1 rfl).elim
    | cons _ _ => rw [List.length_cons]; omega
  obtain ⟨q, i', r', e, hq0, hq, hi⟩ := draw_fd2 h hd (ds.length : Int) (by omega) (by omega) (by omega)
  obtain ⟨a, rfl⟩ := Int.eq_ofNat_of_zero_le hq0
  refine ⟨a, i', r', ?_, by omega, hi⟩
  unfold m2
  simp only [sAsg_run, eCb_run, aCons_run, aNil_run, eVar_run, List.getElem?_cons_zero, List.getElem?_cons_succ, one1_run, lenD_tup, e, gNm_run, List.set_cons_succ, List.set_cons_zero]
  rfl
/-- no tuple, the empty one, or the way 0 -/
theorem m1_menu (hd : DrawOk dr) (h : Fd M 1 0 ns i r n) (hn : n < 2 ^ 39) (mn : Mn M m menu) {p : PyData} {j z e : Nat} (t : Tb M j d p z e) (hj : j ≤ 3) (he : e ≤ 50) {q : Int} (hc : pty p ≠ .tuple ∨ d = .tup [] ∨ q = 0) :
    ∃ x i' r', m1 dr [some (.ref 1), some d, some (.ref m), some (.int q), none, none, none] M = .ok (.rt x, [some (.ref 1), some d, some (.ref m), some (.int q), none, none, none]) (M.set 1 (fdO i' r' (n + 1))) ∧ x ∈ menu ∧ 0 ≤ i' := by
  obtain ⟨x, i', r', e1, hx, hi⟩ := pick_ok hd h hn mn (s := [some (.ref 1), some d, some (.ref m), some (.int q), none, none, none]) rfl rfl
  refine ⟨x, i', r', ?_, hx, hi⟩
  have hi := fun T => t.g.isi T
  generalize M.set 1 (fdO i' r' (n + 1)) = N at e1
  by_cases hp : pty p = .tuple
  · obtain ⟨ds, rfl⟩ := pty_tup t.g hp
    have hq := eq_nil t hj he
    have hs : Ty.tuple.sub .tuple = true := rfl
    rw [hp] at hi
    have hdn : decide (ds = []) = true ∨ q = 0 := by
      rcases hc with h | h | h
      · exact absurd hp h
      · cases h; exact .inl rfl
      · exact .inr h
    clear h mn t hd
    unfold m1
    generalize (eOp ixE (eVar 2) (eCb dr (aCons (eVar 0) (aCons (eCb (one1 lenD) (aCons (eVar 2) aNil)) aNil)))) = pk at *
    by_cases h0 : decide (ds = []) = true
    · rw [h0] at hq
      clear hdn h0 hc
      walk_at "dn"
    · have hq0 : q = 0 := by rcases hdn with h | h; exact absurd h h0; exact h
      subst hq0
      rw [eq_false_of_ne_true h0] at hq
      clear hdn h0 hc
      walk_at "dn"
  · have hs := sub_tup hp
    clear h mn t hd hc
    unfold m1
    generalize (eOp ixE (eVar 2) (eCb dr (aCons (eVar 0) (aCons (eCb (one1 lenD) (aCons (eVar 2) aNil)) aNil)))) = pk at *
    walk_at "dn"
/-- on -/
theorem m1_on {p : PyData} {ds : List D} {j z e : Nat} (t : Tb M j (.tup ds) p z e) (hj : j ≤ 3) (he : e ≤ 50) {q : Int} (hq : q ≠ 0) (hds : ds ≠ []) {x2 x4 x5 x6 : Option D} :
    m1 dr [some (.ref 1), some (.tup ds), x2, some (.int q), x4, x5, x6] M = .ok (.nx, [some (.ref 1), some (.tup ds), x2, some (.int q), x4, x5, x6]) M := by
  have he := eq_nil t hj he
  rw [decide_eq_false hds] at he
  have hi := fun T => t.g.isi T
  have hs : Ty.tuple.sub .tuple = true := rfl
  have hp : pty p = .tuple := by
    obtain ⟨ps, rfl, _⟩ := t.g.items
    rfl
  rw [hp] at hi
  clear t hp hds
  unfold m1
  walk_at "dn"
theorem cut_lo1 (xs : List D) (a : Nat) : cutD xs (some (Int.ofNat a + 1)) none = xs.drop (a + 1) := cut_lo xs (a + 1)
theorem cut_one (xs : List D) (a : Nat) : cutD xs (some (Int.ofNat a)) (some (Int.ofNat a + 1)) = (xs.drop a).take 1 := by
  unfold cutD
  have h1 : HT.sIx xs.length 0 (some (Int.ofNat a)) = min a xs.length := by
    show (if (a : Int) < 0 then ((a : Int) + (xs.length : Int)).toNat else min (a : Int).toNat xs.length) = _
    rw [if_neg (by omega)]; omega
  have h2 : HT.sIx xs.length xs.length (some (Int.ofNat a + 1)) = min (a + 1) xs.length := by
    show (if ((a : Int) + 1) < 0 then (((a : Int) + 1) + (xs.length : Int)).toNat else min ((a : Int) + 1).toNat xs.length) = _
    rw [if_neg (by omega)]; omega
  rw [h1, h2]
  by_cases h : a < xs.length
  · rw [Nat.min_eq_left (by omega), Nat.min_eq_left (by omega), show a + 1 - a = 1 by omega]
  · rw [Nat.min_eq_right (by omega), Nat.min_eq_right (by omega), Nat.sub_self, List.take_zero, List.drop_of_length_le (by omega), List.take_nil]
theorem setL_n {xs : List D} {a : Nat} {v : D} (h : a < xs.length) : setL xs (Int.ofNat a) v = some (xs.set a v) := by
  unfold setL
  rw [ixN_lit, if_pos h]; rfl
section
variable {ds : List D} {a : Nat}
abbrev S7 (ds : List D) (m : Nat) (q : Int) (a : Nat) : Sl := [some (.ref 1), some (.tup ds), some (.ref m), some (.int q), some (.int (Int.ofNat a)), none, none]
theorem c_hi (N : Mh) : slD (.tup ds) none (some (Int.ofNat a)) N = .ok (.tup (ds.take a)) N := by rw [slD_tup]; exact congrArg (fun x => R.ok (D.tup x) N) (cut_hi ds a)
theorem c_lo (N : Mh) : slD (.tup ds) (some (Int.ofNat a)) none N = .ok (.tup (ds.drop a)) N := by rw [slD_tup]; exact congrArg (fun x => R.ok (D.tup x) N) (cut_lo ds a)
theorem c_lo1 (N : Mh) : slD (.tup ds) (some (Int.ofNat a + 1)) none N = .ok (.tup (ds.drop (a + 1))) N := by rw [slD_tup, cut_lo1]
theorem c_one (N : Mh) : slD (.tup ds) (some (Int.ofNat a)) (some (Int.ofNat a + 1)) N = .ok (.tup ((ds.drop a).take 1)) N := by rw [slD_tup, cut_one]
theorem a_t (x y : List D) (N : Mh) (h : x.length + y.length ≤ 100000) : addD (.tup x) (.tup y) N = .ok (.tup (x ++ y)) N := by rw [addD_tup, if_pos (by rw [Dn.sizeLine_eq]; omega)]
theorem mt_1 (hl : ds.length ≤ 10000) : mt dr sp (S7 ds m 1 a) M = .ok (.rt (.tup (ds.take a ++ ds.drop (a + 1))), S7 ds m 1 a) M := by
  have h1 := @c_hi ds a; have h2 := @c_lo1 ds a
  have h3 := fun N => a_t (ds.take a) (ds.drop (a + 1)) N (by rw [List.length_take, List.length_drop]; omega)
  unfold mt
  walk_at "dn"
theorem mt_2 (hl : ds.length ≤ 10000) : mt dr sp (S7 ds m 2 a) M = .ok (.rt (.tup (ds.take a ++ (ds.drop a).take 1 ++ ds.drop a)), S7 ds m 2 a) M := by
  have h1 := @c_hi ds a; have h2 := @c_lo ds a; have h4 := @c_one ds a
  have h3 := fun N => a_t (ds.take a) ((ds.drop a).take 1) N (by rw [List.length_take, List.length_take, List.length_drop]; omega)
  have h5 := fun N => a_t (ds.take a ++ (ds.drop a).take 1) (ds.drop a) N (by rw [List.length_append, List.length_take, List.length_take, List.length_drop]; omega)
  unfold mt
  walk_at "dn"
theorem mt_3 (hl : ds.length ≤ 10000) {x : D} {N : Mh} (hp : (eOp ixE (eVar 2) (eCb dr (aCons (eVar 0) (aCons (eCb (one1 lenD) (aCons (eVar 2) aNil)) aNil)))) (S7 ds m 3 a) M = .ok x N) : mt dr sp (S7 ds m 3 a) M = .ok (.rt (.tup (ds.take a ++ [x] ++ ds.drop a)), S7 ds m 3 a) N := by
  have h1 := @c_hi ds a; have h2 := @c_lo ds a
  have h3 := fun N => a_t (ds.take a) [x] N (by rw [List.length_take, List.length_cons, List.length_nil]; omega)
  have h5 := fun N => a_t (ds.take a ++ [x]) (ds.drop a) N (by rw [List.length_append, List.length_take, List.length_drop, List.length_cons, List.length_nil]; omega)
  have h6 : ([x] : List D).length ≤ 100000 := by rw [List.length_cons, List.length_nil]; omega
  unfold mt
  have h7 : ∀ t : List D, eCb newT (aCons (eOp ixE (eVar 2) (eCb dr (aCons (eVar 0) (aCons (eCb (one1 lenD) (aCons (eVar 2) aNil)) aNil)))) aNil) (S7 ds m 3 a) M = .ok (.tup [x]) N := fun _ => by
    rw [eCb_run, aCons_run, hp]
    exact newT_s h6
  have h7 := h7 []
  generalize (eOp ixE (eVar 2) (eCb dr (aCons (eVar 0) (aCons (eCb (one1 lenD) (aCons (eVar 2) aNil)) aNil)))) = pk at *
  walk_at "dn"
theorem mt_5 (hl : ds.length ≤ 10000) : mt dr sp (S7 ds m 5 a) M = .ok (.rt (.ref M.length), S7 ds m 5 a) (M ++ [.lst ds]) := by
  have h6 : ds.length ≤ 100000 := by omega
  unfold mt
  walk_at "dn"
theorem mt_6 {q : Int} (h6 : q = 6 ∨ q = 7 ∨ q = 8) (hl : ds.length ≤ 10000) {x y : D} {N : Mh} (hx : ds[a]? = some x) (hs : sp [.ref 1, x, .ref m] M = .ok y N) : mt dr sp (S7 ds m q a) M = .ok (.rt (.tup (ds.take a ++ [y] ++ ds.drop (a + 1))), S7 ds m q a) N := by
  have h1 := @c_hi ds a; have h2 := @c_lo1 ds a
  have h3 := fun N => a_t (ds.take a) [y] N (by rw [List.length_take, List.length_cons, List.length_nil]; omega)
  have h5 := fun N => a_t (ds.take a ++ [y]) (ds.drop (a + 1)) N (by rw [List.length_append, List.length_take, List.length_drop, List.length_cons, List.length_nil]; omega)
  have h7 := atD_get hx
  unfold mt
  rcases h6 with rfl | rfl | rfl <;> walk_at "dn"
theorem mt_4 (hl : ds.length ≤ 10000) {b : Nat} {x y : D} {N : Mh} (hx : ds[a]? = some x) (hy : ds[b]? = some y) (hd : dr [.ref 1, .int (ds.length : Int)] M = .ok (.int (Int.ofNat b)) N) :
    ∃ s', mt dr sp (S7 ds m 4 a) M = .ok (.rt (.tup ((ds.set a y).set b x)), s') (N ++ [.lst ((ds.set a y).set b x)]) := by
  have ha := (List.getElem?_eq_some_iff.mp hx).1
  have hb := (List.getElem?_eq_some_iff.mp hy).1
  have h1 := atD_get hx; have h2 := atD_get hy
  have h3 : setL ds (Int.ofNat a) y = some (ds.set a y) := setL_n ha
  have h4 : setL (ds.set a y) (Int.ofNat b) x = some ((ds.set a y).set b x) := setL_n (by rw [List.length_set]; exact hb)
  have h5 : ((ds.set a y).set b x).length ≤ 100000 := by rw [List.length_set, List.length_set]; omega
  have h5' : ((ds.set a y).set b x).length ≤ PySem.sizeLine := by rw [List.length_set, List.length_set, Dn.sizeLine_eq]; omega
  have h8 : ds.length ≤ 100000 := by omega
  have h9 : ∀ o o' : MO, (N ++ [o]).set N.length o' = N ++ [o'] := fun o o' => by rw [List.set_append_right _ _ (Nat.le_refl _), Nat.sub_self]; rfl
  generalize ds.set a y = d1 at *
  generalize d1.set b x = d2 at *
  unfold mt
  walk_at "dn"
  exact ⟨_, rfl⟩
end
/-- behind the call -/
theorem sp_end {u j z e : Nat} {n0 : Int} {M0 : Mh} {b : SD} {ds : List D} {y : D} {p : PyData} {s' : Sl} {E : Mh} {i' r' n' : Int} (c0 : Clo (M0.set 1 (fdO i' r' n'))) (h2 : 2 ≤ M0.length) (hl : ds.length = 3) (hb : b (ds.map some ++ List.replicate (7 - 3) none) M0 = .ok (.rt y, s') (M0.set 1 (fdO i' r' n') ++ E)) (cl : Clo (M0.set 1 (fdO i' r' n') ++ E)) (hi : 0 ≤ i') (h3 : n0 ≤ n') (h4 : n' ≤ n0 + u) (t : Tb (M0.set 1 (fdO i' r' n') ++ E) j y p z e) : SpE M0 n0 u j z e (mkFn 7 3 b ds M0) := by
  have hlen : (M0.set 1 (fdO i' r' n')).length = M0.length := List.length_set ..
  obtain ⟨d', E', e1, c1, t1⟩ := gc_thing c0 cl (by omega) t
  rw [hlen] at e1
  exact ⟨d', p, i', r', n', E', mkFn_ok hl hb e1, c1, hi, h3, h4, t1⟩
theorem sp1_ok {dr sp : Fn} (hd : DrawOk dr) {e : Nat} (hr : ∀ e', e = e' + 1 → SpOk sp e') : SpOk (mkFn 7 3 (b_sp_ dr sp)) e := by
  intro M ns i r n d p j z m menu h hn h2 mn t hj he hz16
  obtain ⟨q, i1, r1, e1, hq0, hq9, hi1⟩ := m0_ok hd h (by omega) (d := d) (x2 := some (.ref m)) (x3 := none) (x4 := none) (x5 := none) (x6 := none)
  have f1 := h.set1 (r' := r1) (n' := n + 1) hi1 (by have := h.hn; omega)
  have k1 : Kp M (M.set 1 (fdO i1 r1 (n + 1))) := kp_set1
  have mn1 := mn.keep k1
  have t1 := t.keep k1 (Nat.le_refl j) (Nat.le_refl z) (Nat.le_refl e)
  have hset : ∀ a b c a' b' c', (M.set 1 (fdO a b c)).set 1 (fdO a' b' c') = M.set 1 (fdO a' b' c') := fun _ _ _ _ _ _ => List.set_set ..
  by_cases hc : pty p ≠ .tuple ∨ d = .tup [] ∨ q = 0
  · obtain ⟨x, i2, r2, e2, hx, hi2⟩ := m1_menu hd f1 (by omega) mn1 t1 hj he hc
    have f2 := f1.set1 (r' := r2) (n' := n + 1 + 1) hi2 (by have := h.hn; omega)
    rw [hset] at e2 f2
    obtain ⟨px, tx⟩ := (mn.keep (M' := M.set 1 (fdO i2 r2 (n + 1 + 1))) kp_set1).a x hx
    refine sp_end (E := []) (n' := n + 1 + 1) f2.cl h2 rfl (s' := [some (.ref 1), some d, some (.ref m), some (.int q), none, none, none]) ?_ (by rw [List.append_nil]; exact f2.cl) hi2 (by omega) (by omega) (p := px) (y := x) (by rw [List.append_nil]; exact tx.keep (kp_refl _) (by omega) (by omega) (by omega))
    show b_sp_ dr sp [some (.ref 1), some d, some (.ref m), none, none, none, none] M = _
    unfold b_sp_
    rw [List.append_nil]
    simp only [sSeq_run, e1, e2]
  · have hp : pty p = .tuple := Classical.byContradiction fun h => hc (.inl h)
    obtain ⟨ds, rfl⟩ := pty_tup t.g hp
    have hds : ds ≠ [] := fun h => hc (.inr (.inl (by rw [h])))
    have hq : q ≠ 0 := fun h => hc (.inr (.inr h))
    clear hc
    have e2 := m1_on (dr := dr) t1 hj he hq hds (x2 := some (.ref m)) (x4 := none) (x5 := none) (x6 := none)
    obtain ⟨ps, rfl, g1, g2, g3, g4⟩ := t.g.items
    have hl : ds.length ≤ 10000 := by rw [Gs.len ⟨g1, g2, g3⟩]; exact g4
    obtain ⟨a, i3, r3, e3, ha, hi3⟩ := m2_ok hd f1 (by omega) hds hl (x2 := some (.ref m)) (x3 := some (.int q)) (x4 := none) (x5 := none) (x6 := none)
    have f3 := f1.set1 (r' := r3) (n' := n + 1 + 1) hi3 (by have := h.hn; omega)
    rw [hset] at e3 f3
    have k3 : Kp M (M.set 1 (fdO i3 r3 (n + 1 + 1))) := kp_set1
    have mn3 := mn.keep k3
    have t3 := t.keep k3 (Nat.le_refl j) (Nat.le_refl z) (Nat.le_refl e)
    have head : ∀ X, mt dr sp (S7 ds m q a) (M.set 1 (fdO i3 r3 (n + 1 + 1))) = X → b_sp_ dr sp [some (.ref 1), some (.tup ds), some (.ref m), none, none, none, none] M = X := by
      intro X hX
      unfold b_sp_
      simp only [sSeq_run, e1, e2, e3, hX]
    -- the items
    have hz : mzs ps + 6 ≤ z := by have := t.z; simpa only [mz] using this
    have hde : PyData.depthAll ps + 1 ≤ e := by have := t.e; simpa only [PyData.depth] using this
    have ts : Ts (M.set 1 (fdO i3 r3 (n + 1 + 1))) j ds ps (mzs ps) (e - 1) := by
      refine (⟨⟨g1, g2, g3⟩, ?_, ?_, Nat.le_refl _, by omega⟩ : Ts M j ds ps (mzs ps) (e - 1)).keep k3
      · have := t.s; simpa only [PyData.showable] using this
      · have := t.h; simpa only [PyData.hasDict] using this
    have hl2 : ds.length ≤ 8000 := by have := mzs_len ps; rw [Gs.len ⟨g1, g2, g3⟩]; omega
    have hx : ds[a]? = some ds[a] := List.getElem?_eq_getElem ha
    have hsp : ds = ds.take a ++ ([ds[a]] ++ ds.drop (a + 1)) := by
      rw [List.singleton_append, ← List.drop_eq_getElem_cons ha, List.take_append_drop]
    have ts' := ts
    rw [hsp] at ts'
    obtain ⟨pa, pr, hpp, ta, tr, hzz⟩ := ts'.split
    obtain ⟨px, pb, hpr, tx, tb, hzb⟩ := tr.split
    obtain ⟨qx, qn, hqx, tx1, txn, hzx⟩ := tx.uncons
    obtain rfl := txn.g.nil
    subst hqx
    have td : Ts (M.set 1 (fdO i3 r3 (n + 1 + 1))) j (ds.drop a) pr (mzs pr) (e - 1) := by
      rw [List.drop_eq_getElem_cons ha]; exact tr
    have hmx : mzs [qx] = mz qx + 2 := by simp only [mzs]
    clear hpp hpr hsp
    have hq19 : q = 1 ∨ q = 2 ∨ q = 3 ∨ q = 4 ∨ q = 5 ∨ (q = 6 ∨ q = 7 ∨ q = 8) := by omega
    rcases hq19 with rfl | rfl | rfl | rfl | rfl | hq6
    · have T := Ts.append tb ta
      refine sp_end (E := []) (n' := n + 1 + 1) f3.cl h2 rfl ((head _ (mt_1 hl)).trans (by rw [List.append_nil])) (by rw [List.append_nil]; exact f3.cl) hi3 (by omega) (by omega) (p := .tuple (pa ++ pb)) (y := .tup (ds.take a ++ ds.drop (a + 1))) ?_
      rw [List.append_nil]
      exact (T.tup (by rw [List.length_append, List.length_take, List.length_drop]; omega)).keep (kp_refl _) (by omega) (by omega) (by omega)
    · have T1 : Ts (M.set 1 (fdO i3 r3 (n + 1 + 1))) j ((ds.drop a).take 1) [qx] (mz qx + 2) (e - 1) := by
        rw [List.drop_eq_getElem_cons ha, List.take_succ_cons, List.take_zero]; exact tx.wk (by omega) (Nat.le_refl _)
      have T := Ts.append td (Ts.append T1 ta)
      refine sp_end (E := []) (n' := n + 1 + 1) f3.cl h2 rfl ((head _ (mt_2 hl)).trans (by rw [List.append_nil])) (by rw [List.append_nil]; exact f3.cl) hi3 (by omega) (by omega) (p := .tuple (pa ++ [qx] ++ pr)) (y := .tup (ds.take a ++ (ds.drop a).take 1 ++ ds.drop a)) ?_
      rw [List.append_nil]
      exact (T.tup (by rw [List.length_append, List.length_append, List.length_take, List.length_take, List.length_drop]; omega)).keep (kp_refl _) (by omega) (by omega) (by omega)
    · obtain ⟨x, i4, r4, e4, hx4, hi4⟩ := pick_ok hd f3 (by omega) mn3 (s := S7 ds m 3 a) rfl rfl
      have f4 := f3.set1 (r' := r4) (n' := n + 1 + 1 + 1) hi4 (by have := h.hn; omega)
      have k4 : Kp (M.set 1 (fdO i3 r3 (n + 1 + 1))) ((M.set 1 (fdO i3 r3 (n + 1 + 1))).set 1 (fdO i4 r4 (n + 1 + 1 + 1))) := kp_set1
      obtain ⟨p4, tx4⟩ := (mn3.keep k4).a x hx4
      have X1 := (Ts.cons tx4 (Ts.nil _ _)).up (kp_refl _) (show 1 ≤ j + 1 by omega) (Nat.le_refl _) (show max 2 0 ≤ e + 1 by omega)
      have T := Ts.append (td.up k4 (show j ≤ j + 1 by omega) (Nat.le_refl _) (show e - 1 ≤ e + 1 by omega)) (Ts.append X1 (ta.up k4 (show j ≤ j + 1 by omega) (Nat.le_refl _) (show e - 1 ≤ e + 1 by omega)))
      have e5 := mt_3 (sp := sp) hl e4
      rw [hset] at T f4 e5
      refine sp_end (E := []) (n' := n + 1 + 1 + 1) f4.cl h2 rfl ((head _ e5).trans (by rw [List.append_nil])) (by rw [List.append_nil]; exact f4.cl) hi4 (by omega) (by omega) (p := .tuple (pa ++ [p4] ++ pr)) (y := .tup (ds.take a ++ [x] ++ ds.drop a)) ?_
      rw [List.append_nil]
      exact (T.tup (by rw [List.length_append, List.length_append, List.length_take, List.length_cons, List.length_nil, List.length_drop]; omega)).keep (kp_refl _) (by omega) (by omega) (by omega)
    · obtain ⟨q4, i4, r4, e4, hq40, hq4, hi4⟩ := draw_fd2 f3 hd (ds.length : Int) (by omega) (by omega) (by omega)
      obtain ⟨b, rfl⟩ := Int.eq_ofNat_of_zero_le hq40
      have hb : b < ds.length := by omega
      have f4 := f3.set1 (r' := r4) (n' := n + 1 + 1 + 1) hi4 (by have := h.hn; omega)
      have k4 : Kp (M.set 1 (fdO i3 r3 (n + 1 + 1))) ((M.set 1 (fdO i3 r3 (n + 1 + 1))).set 1 (fdO i4 r4 (n + 1 + 1 + 1))) := kp_set1
      have hy : ds[b]? = some ds[b] := List.getElem?_eq_getElem hb
      obtain ⟨py, ty, hzy⟩ := ts.get b hy
      obtain ⟨s', e5⟩ := mt_4 (sp := sp) (m := m) hl hx hy e4
      have T := Ts.set (tx1.keep k4 (Nat.le_refl _) (Nat.le_refl _) (Nat.le_refl _)) b (Ts.set (ty.keep k4 (Nat.le_refl _) (Nat.le_refl _) (Nat.le_refl _)) a (ts.keep k4))
      rw [hset] at T f4 e5
      refine sp_end (n' := n + 1 + 1 + 1) f4.cl h2 rfl (head _ e5) (clo_low f4.cl T.low) hi4 (by omega) (by omega) (p := .tuple ((ps.set a py).set b qx)) (y := .tup ((ds.set a ds[b]).set b ds[a])) ?_
      exact (T.tup (by rw [List.length_set, List.length_set]; omega)).keep (kp_app _ _) (by omega) (by omega) (by omega)
    · have T := ts.keep (kp_app _ [.lst ds])
      have hg : (M.set 1 (fdO i3 r3 (n + 1 + 1)) ++ [MO.lst ds])[(M.set 1 (fdO i3 r3 (n + 1 + 1))).length]? = some (.lst ds) := gn_new
      refine sp_end (E := [.lst ds]) (n' := n + 1 + 1) f3.cl h2 rfl (head _ (mt_5 hl)) (clo_low f3.cl ts.low) hi3 (by omega) (by omega) (p := .list ps) ((T.list hl (by rw [List.length_set]; omega) hg).keep (kp_refl _) (Nat.le_refl _) (by omega) (by omega))
    · obtain ⟨e', rfl⟩ : ∃ e', e = e' + 1 := ⟨e - 1, by omega⟩
      obtain ⟨y, py, i4, r4, n4, E, e4, c4, hi4, hn4, hn4', ty⟩ := hr e' rfl _ ns i3 r3 (n + 1 + 1) ds[a] qx j (mz qx) m menu f3 (by omega) (by rw [List.length_set]; exact h2) mn3 tx1 hj (by omega) (by omega)
      have e5 := mt_6 (dr := dr) hq6 hl hx e4
      have f4 := f3.set1 (r' := r4) (n' := n4) hi4 (by have := h.hn; omega)
      have k4 : Kp (M.set 1 (fdO i3 r3 (n + 1 + 1))) ((M.set 1 (fdO i3 r3 (n + 1 + 1))).set 1 (fdO i4 r4 n4) ++ E) := fun k ds h e => kp_app _ _ k ds h (kp_set1 k ds h e)
      have X1 := (Ts.cons ty (Ts.nil _ _)).wk (Nat.le_refl _) (show max (e' + 2) 0 ≤ e' + 2 by omega)
      have T := Ts.append (tb.up k4 (show j ≤ j + 1 by omega) (Nat.le_refl _) (show e' + 1 - 1 ≤ e' + 2 by omega)) (Ts.append X1 (ta.up k4 (show j ≤ j + 1 by omega) (Nat.le_refl _) (show e' + 1 - 1 ≤ e' + 2 by omega)))
      rw [hset] at T f4 e5 c4
      refine sp_end (n' := n4) f4.cl h2 rfl (head _ e5) c4 hi4 (by omega) (by omega) (p := .tuple (pa ++ [py] ++ pb)) (y := .tup (ds.take a ++ [y] ++ ds.drop (a + 1))) ?_
      exact (T.tup (by rw [List.length_append, List.length_append, List.length_take, List.length_cons, List.length_nil, List.length_drop]; omega)).keep (kp_refl _) (by omega) (by omega) (by omega)
end
end Dn

/-! Thg14: the statements of k01's law -/
namespace Dn
open PySem PySem.Spec PyProof.Rows L2
local macro_rules | `(tactic| walk_at "dn") => `(tactic| simp (disch := first | assumption | exact gn_new | exact gn_at1 | exact gn_at2 | exact gn_at | (simp only [lowDs, lowD, enc_low, encs_low, Bool.and_self]; done) | (refine clo_t ?_; have hEn := fun n (E : Mh) (h : lowE E = true) => lowE_all n h; simp only [List.all_cons, List.all_nil, List.length_cons, List.length_nil, lowO, lowDs, lowD, low_ints, low_strs, encs_low, Nat.reduceAdd, Nat.reduceLT, lt_succ, List.all_append, List.length_append, decide_true, *, Bool.and_self, Bool.and_true]; done) | (simp only [Nat.reduceLeDiff, encs_len, List.length_cons, List.length_nil, Nat.reduceAdd, flatD, List.all_cons, List.all_nil, Bool.and_self, Bool.and_true, List.length_append, List.length_set, Nat.lt_add_one, *]; done) | (simp only [Dn.sizeLine_eq, PySem.Str.length_append, Nat.add_zero]; omega) | (simp only [encs_len, List.length_take, List.length_map, List.length_cons, List.length_append, List.length_nil]; omega) | omega) only [ret_run, bad_run, bind_run, noX_run, asB_run, eOp_run, eUn_run, eCb_run, aNil_run, aCons_run, eVar_run, eC_run, tCmpD_run, tTruD_run, tAndD_run, tOrD_run, tNotD_run, tYesD_run, eIf_run, eAnd_run, eOr_run, notD_run, eSl_run, oNone_run, oSome_run, sRet_run, sRetN_run, sExp_run, sNx_run, sBk_run, sCt_run, sIf_run, sSeq_run, sAsg_run, gNm_run, gsNil_run, gsCons_run, gSb_run, gTp_tup, gSt_tup, sPar_run, sFor_run, eComp_run, newT_s, newL_s, one1_run, eqD_run, neD_run, eqC_str, eqC_int, eqC_bl, inE_run, ninE_run, inCE_rod, inCE_tup, ixE_rod, ixE_tup, ixE_ls, ixE_ref, addD_int, addD_strok, addD_tup, addD_ref, subD_int, mulD_ok, fdivD_ok, modD_ok, powD_ok, ltD_int, leD_int, gtD_int, geD_int, truC_bl, lenD_tup, lenD_ref, lenD_ls, tupleD_ref, listD_tupn, listD_ref, gc_l0n, wkOf_tup, wkOf_ref, eJoin_run, eLm_run, setD_ref, atD_0, atD_1, atD_2, atD_3, atD_4, setL_0, setL_1, setL_2, setL_3, gs_eq, gs_ne, ga_lt,  List.length_set, List.length_map, set_app, List.set_set, decide_eq_true_eq, inF_nil, inF_int, inF_str, flatD, List.all_cons, List.all_nil, Bool.and_true, Bool.and_self, Bool.or_false, Bool.or_true, Bool.true_or, Bool.false_or, Int.reduceEq, Int.reduceLT, Int.reduceMod, Int.reduceNeg, st_len, st_app, st_at, wipeD, rng1_s, Dn.sizeLine_eq, Nat.reduceLT, Int.reduceToNat, List.length_range, List.length_take, Nat.min_def, compL_cons, compL_nil, stays_none, List.set_nil, fm_0, fm_1, fm_2, fm_3, fm_4, fm_5, fm_6, fm_7, fm_8, fm_9, fm_10, fm_11, fm_12, fm_13,  joinD_ref, appD_run, stays_iff,  mkFn_run, List.map_cons, List.map_nil, List.reduceReplicate, gn_new, gn_at, List.append_assoc, gc_str, gc_str0, gc_bl, gc_bl0, gc_int, gc_int0, gc_enc, gc_enc0, gc_tup, gc_tup0, gc_zero, gc_nil, gc_l0, reduceCtorEq, Bool.not_eq_true, eq_self,  List.length_append, encs_len,    strsOf_map, pNil_run, pCons_run, eDisp_run, Option.isSome_some, Option.isSome_none, keysD, keyD, List.zip_cons_cons, List.zip_nil_left, List.zip_nil_right, List.foldl_cons, List.foldl_nil, 
  Nat.reduceAdd, Nat.reduceLeDiff, Nat.reduceEqDiff, Nat.reduceSub, String.reduceEq, reduceIte, Int.reduceLE, Nat.le_refl, ofString_inj, List.set_cons_succ, List.set_cons_zero, List.getElem?_cons_succ, List.getElem?_cons_zero, List.length_cons, List.length_nil, decide_true, decide_false, if_true, if_false, Bool.false_eq_true, List.take_succ_cons, List.take_zero, List.drop_succ_cons, List.drop_zero, List.cons_append, List.nil_append, ne_eq, not_false_eq_true, Bool.not_true, Bool.not_false, *])

/-- pure things in a list, each with its bounds -/
def PL (t : AD) (s : Sl) (z e l : Nat) : Prop := ∀ M, ∃ ds, t s M = .ok ds M ∧ (∀ d, d ∈ ds → ∃ p, Tb [] 0 d p z e) ∧ ds.length = l
section
variable {s : Sl} {te tf : ED} {t u : AD} {z e z' e' l l' : Nat}
theorem PL.nil : PL aNil s z e 0 := fun M => ⟨[], rfl, (fun _ h => nomatch h), rfl⟩
theorem PL.cons (a : PO te s z' e') (hz : z' ≤ z) (he : e' ≤ e) (b : PL t s z e l) : PL (aCons te t) s z e (l + 1) := fun M => by
  obtain ⟨d, p, h1, t1⟩ := a M
  obtain ⟨ds, h3, a3, l3⟩ := b M
  refine ⟨d :: ds, by rw [aCons_run, h1]; simp only [h3], fun x hx => ?_, by rw [List.length_cons, l3]⟩
  rcases List.mem_cons.mp hx with rfl | hx
  · exact ⟨p, t1.wk hz he⟩
  · exact a3 x hx
theorem PO.zero : PO (eC (.int 0)) s 4 0 := PO.val (fun _ => rfl) ⟨⟨rfl, rfl, rfl⟩, rfl, rfl, by decide +kernel, Nat.le_refl _⟩
theorem PO.s9 {c : Str} (h1 : c.length ≤ 9) (h2 : PyData.strOk c = true) : PO (eC (.str c)) s 92 0 := PO.val (fun _ => rfl) ((tb_str (by omega) h2).wk (by omega) (Nat.le_refl _))
theorem mz_a : mz (.tuple [.str "letter", .str "a"]) ≤ 30 := by decide +kernel
theorem mz_H : mz (.tuple [.str "letter", .str "abcdefgh"]) ≤ 30 := by decide +kernel
abbrev dH : D := .tup [.str "letter", .str "abcdefgh"]
theorem tb_a2 : Tb [] 0 dA (.tuple [.str "letter", .str "a"]) 30 1 := ⟨tb_a.g, tb_a.s, tb_a.h, mz_a, tb_a.e⟩
theorem tb_H : Tb [] 0 dH (.tuple [.str "letter", .str "abcdefgh"]) 30 1 := by
  have h := (Ts.cons (tb_w (w := "letter") (by decide +kernel) (by decide +kernel)) (Ts.cons (tb_w (w := "abcdefgh") (by decide +kernel) (by decide +kernel)) (Ts.nil _ _))).tup (by decide)
  exact ⟨h.g, h.s, h.h, mz_H, by have := h.e; omega⟩
theorem po_a : PO (eCb newT (aCons (eC (.str "letter")) (aCons (eC (.str "a")) aNil))) s 30 1 := PO.val (fun _ => rfl) tb_a2
theorem po_and : PO (eCb newT (aCons (eC (.str "and")) (aCons (eCb newT aNil) aNil))) s 100 2 := by
  have h := (Ts.cons (M := []) (j := 0) (tb_w (w := "and") (by decide +kernel) (by decide +kernel)) (Ts.cons ((Ts.nil [] 0).tup (by decide)) (Ts.nil _ _))).tup (by decide)
  refine PO.val (fun _ => rfl) ⟨h.g, h.s, h.h, ?_, by have := h.e; omega⟩
  exact (show mz (.tuple [.str "and", .tuple []]) ≤ 100 by decide +kernel)
theorem pw40 : PO (eOp powD (eC (.int 10)) (eC (.int 40))) s 50 0 := by
  refine PO.val (d := .int (10 ^ 40)) (p := .int (10 ^ 40)) (fun M => ?_) ⟨⟨rfl, by decide +kernel, rfl⟩, by decide +kernel, by decide +kernel, by decide +kernel, by decide +kernel⟩
  rw [eOp_run, eC_run]
  show powD (.int 10) (.int 40) M = _
  have hp : CPow 10 40 := cpow_of (j := 40) (by omega) (by omega) (by omega)
  rw [powD_ok hp]
  rfl
end
theorem Tb.untup {M : Mh} {j : Nat} {ds : List D} {p : PyData} {z e : Nat} (t : Tb M j (.tup ds) p z e) : ∃ ps, p = .tuple ps ∧ Ts M j ds ps z e ∧ 2 * ds.length ≤ z := by
  obtain ⟨ps, rfl, g1, g2, g3, g4⟩ := t.g.items
  have hz := t.z; have he := t.e; have hs := t.s; have hh := t.h
  simp only [mz] at hz
  simp only [PyData.depth] at he
  simp only [PyData.showable] at hs
  simp only [PyData.hasDict] at hh
  have h2 := mzs_len ps
  exact ⟨ps, rfl, ⟨⟨g1, g2, g3⟩, hs, hh, by omega, by omega⟩, by rw [Gs.len ⟨g1, g2, g3⟩]; omega⟩
/-! ### the head -/
noncomputable def s1 : SD := (sAsg (eCb newT (aCons (eCb newT (aCons (eC (.str "letter")) (aCons (eC (.str "a")) aNil))) (aCons (eCb newT (aCons (eC (.str "letter")) (aCons (eC (.str "abcdefgh")) aNil))) aNil))) (gTp 2 (gsCons (gNm 2) (gsCons (gNm 3) gsNil))))
noncomputable def s2b : SD := (sAsg (eOp ixE (eCb newL (aCons (eCb newT (aCons (eC (.str "not")) (aCons (eVar 2) aNil))) (aCons (eCb newT (aCons (eC (.str "must")) (aCons (eC (.str "h")) (aCons (eVar 2) aNil)))) (aCons (eCb newT (aCons (eC (.str "so")) (aCons (eVar 3) (aCons (eVar 2) aNil)))) (aCons (eCb newT (aCons (eC (.str "or")) (aCons (eCb newT (aCons (eVar 2) aNil)) aNil))) aNil))))) (eOp modD (eVar 4) (eC (.int 4)))) (gNm 2))
noncomputable def s3 : SD := (sAsg (eCb newL (aCons (eC .non) (aCons (eC (.bl true)) (aCons (eC (.int 0)) (aCons (eC (.int 1)) (aCons (eC (.str "")) (aCons (eC (.str "a")) (aCons (eC (.str "letter")) (aCons (eC (.str "and")) (aCons (eCb newT aNil) (aCons (eCb newL aNil) (aCons (eCb newT (aCons (eC (.str "letter")) (aCons (eC (.str "a")) aNil))) (aCons (eCb newT (aCons (eC (.str "and")) (aCons (eCb newT aNil) aNil))) (aCons (eC (.str "abcdefghi")) (aCons (eOp powD (eC (.int 10)) (eC (.int 40))) aNil))))))))))))))) (gNm 5))
noncomputable def s4 : SD := (sAsg (eOp addD (eVar 5) (eCb newL (aCons (eVar 2) (aCons (eCb newT (aCons (eC (.str "and")) (aCons (eOp mulD (eCb newT (aCons (eVar 3) aNil)) (eC (.int 300))) aNil))) (aCons (eCb newT (aCons (eC (.str "and")) (aCons (eOp addD (eOp mulD (eCb newT (aCons (eVar 3) aNil)) (eC (.int 300))) (eCb newT (aCons (eC .non) aNil))) aNil))) (aCons (eCb newT (aCons (eC (.str "told")) (aCons (eVar 2) (aCons (eVar 2) aNil)))) aNil)))))) (gNm 6))
noncomputable def s5 : SD := (sExp (eLm appD (eVar 6) (aCons (eCb newT (aCons (eC (.str "not")) (aCons (eCb newT (aCons (eC (.str "told")) (aCons (eVar 3) (aCons (eVar 3) aNil)))) aNil))) aNil)))
noncomputable def s6a (g : Nat → Fn) : SD := (sAsg (eCb (g 10) (aCons (eVar 1) (aCons (eCb newL (aCons (eC (.int 14)) aNil)) (aCons (eOp neD (eVar 7) (eC (.int 1))) aNil)))) (gNm 8))
noncomputable def s6b (g : Nat → Fn) : SD := (sAsg (eOp addD (eOp addD (eVar 6) (eCb (g 12) (aCons (eVar 8) aNil))) (eComp [4] (fun s => ((aCons (eC (.int 5)) aNil) s).bind rng1) (gNm 4) tYesD (eCb (g 11) (aCons (eVar 1) aNil)))) (gNm 6))
noncomputable def s6c (g : Nat → Fn) : SD := (sSeq (sAsg (eCb (g 7) (aCons (eVar 1) (aCons (eVar 8) (aCons (eVar 5) aNil)))) (gNm 9)) (sAsg (eOp addD (eVar 6) (eCb newL (aCons (eVar 9) (aCons (eCb (g 7) (aCons (eVar 1) (aCons (eVar 9) (aCons (eVar 5) aNil)))) aNil)))) (gNm 6)))
noncomputable def s6 (g : Nat → Fn) : SD := sSeq (s6a g) (sSeq (s6b g) (sFor (fun s => ((aCons (eC (.int 6)) aNil) s).bind rng1) (gNm 4) (s6c g)))
section
variable {M : Mh} {x0 x1 x2 x3 x4 x5 x6 x7 x8 x9 x10 x11 x12 : Option D} {d : D} {p : PyData} {z e : Nat} {i : Int}
theorem s1_ok : s1 [x0, x1, x2, x3, x4, x5, x6, x7, x8, x9, x10, x11, x12] M = .ok (.nx, [x0, x1, some dA, some dH, x4, x5, x6, x7, x8, x9, x10, x11, x12]) M := by
  unfold s1
  walk_at "dn"
theorem low_pure {ds : List D} (h : ∀ d, d ∈ ds → ∃ p, Tb [] 0 d p z e) : lowE [.lst ds] = true := by
  have : lowDs 0 ds = true := lowDs_of fun d hd => let ⟨_, t⟩ := h d hd; t.low
  show (lowO 0 (.lst ds) && true) = true
  rw [Bool.and_true]; exact this
theorem s2_step (hd : Tb [] 0 d p z e) (he : 1 ≤ e) : ∃ d' p' E, s2b [x0, x1, some d, some dH, some (.int i), x5, x6, x7, x8, x9, x10, x11, x12] M = .ok (.nx, [x0, x1, some d', some dH, some (.int i), x5, x6, x7, x8, x9, x10, x11, x12]) (M ++ E) ∧ lowE E = true ∧ Tb [] 0 d' p' (z + 700) (e + 2) := by
  have v2 : PO (eVar 2) [x0, x1, some d, some dH, some (.int i), x5, x6, x7, x8, x9, x10, x11, x12] z e := PO.var rfl hd
  have v3 : PO (eVar 3) [x0, x1, some d, some dH, some (.int i), x5, x6, x7, x8, x9, x10, x11, x12] 30 1 := PO.var rfl tb_H
  have hA : PL (aCons (eCb newT (aCons (eC (.str "not")) (aCons (eVar 2) aNil))) (aCons (eCb newT (aCons (eC (.str "must")) (aCons (eC (.str "h")) (aCons (eVar 2) aNil)))) (aCons (eCb newT (aCons (eC (.str "so")) (aCons (eVar 3) (aCons (eVar 2) aNil)))) (aCons (eCb newT (aCons (eC (.str "or")) (aCons (eCb newT (aCons (eVar 2) aNil)) aNil))) aNil)))) [x0, x1, some d, some dH, some (.int i), x5, x6, x7, x8, x9, x10, x11, x12] (z + 700) (e + 2) 4 := (PL.cons (PO.tup (PA.cons (PO.str (by decide +kernel) (by decide +kernel)) (PA.cons v2 PA.nil)) (by omega)) (by omega) (by omega) (PL.cons (PO.tup (PA.cons (PO.str (by decide +kernel) (by decide +kernel)) (PA.cons (PO.str (by decide +kernel) (by decide +kernel)) (PA.cons v2 PA.nil))) (by omega)) (by omega) (by omega) (PL.cons (PO.tup (PA.cons (PO.str (by decide +kernel) (by decide +kernel)) (PA.cons v3 (PA.cons v2 PA.nil))) (by omega)) (by omega) (by omega) (PL.cons (PO.tup (PA.cons (PO.str (by decide +kernel) (by decide +kernel)) (PA.cons (PO.tup (PA.cons v2 PA.nil) (by omega)) PA.nil)) (by omega)) (by omega) (by omega) PL.nil))))
  obtain ⟨ds, h1, h2, h3⟩ := hA M
  have hm := @fmod_rng i 4 (by omega)
  obtain ⟨d', hd', ha⟩ := atD_in (xs := ds) hm.1 (by rw [h3]; exact hm.2)
  obtain ⟨p', t'⟩ := h2 d' hd'
  refine ⟨d', p', [.lst ds], ?_, low_pure h2, t'⟩
  have hg : (M ++ [MO.lst ds])[M.length]? = some (.lst ds) := gn_new
  unfold s2b
  simp only [sAsg_run, eOp_run, eCb_run, h1, newL_s (show ds.length ≤ 100000 by omega), eVar_run, List.getElem?_cons_succ, List.getElem?_cons_zero, eC_run, modD_int, ixE_ref, hg, ha, gNm_run, List.set_cons_succ, List.set_cons_zero, ne_eq, Int.reduceEq, not_false_eq_true, if_true]
theorem s2_loop {ns : List Int} {i0 r0 n0 : Int} (h : Fd M 1 0 ns i0 r0 n0) : ∃ d p y4 M', loopD ⟨none, (List.range 12).map fun i => .int (0 + (i : Nat))⟩ (gNm 4) s2b ((List.range 12).map fun i => .int (0 + (i : Nat))) [x0, x1, some dA, some dH, x4, x5, x6, x7, x8, x9, x10, x11, x12] M = .ok (.nx, [x0, x1, some d, some dH, y4, x5, x6, x7, x8, x9, x10, x11, x12]) M' ∧ Tb [] 0 d p 9000 25 ∧ Fd M' 1 0 ns i0 r0 n0 := by
  obtain ⟨s', M', e1, d, p, y4, rfl, t, h'⟩ := loop_ix (w := ⟨none, (List.range 12).map fun i => .int (0 + (i : Nat))⟩) (g := gNm 4) (body := s2b) (fun j s' M' => ∃ d p y4, s' = [x0, x1, some d, some dH, y4, x5, x6, x7, x8, x9, x10, x11, x12] ∧ Tb [] 0 d p (30 + 700 * j) (1 + 2 * j) ∧ Fd M' 1 0 ns i0 r0 n0)
    (fun _ _ _ _ => stays_none.mpr trivial) ((List.range 12).map fun i => .int (0 + (i : Nat))) 0 [x0, x1, some dA, some dH, x4, x5, x6, x7, x8, x9, x10, x11, x12] M ⟨dA, _, x4, rfl, tb_a2, h⟩ (by
      rintro j u _ M hu ⟨d, p, y4, rfl, t, h'⟩
      rw [Nat.zero_add] at t ⊢
      rw [List.getElem?_map, Option.map_eq_some_iff] at hu
      obtain ⟨jj, _, rfl⟩ := hu
      obtain ⟨d', p', E, e2, hE, t'⟩ := s2_step (x0 := x0) (x1 := x1) (x5 := x5) (x6 := x6) (x7 := x7) (x8 := x8) (x9 := x9) (x10 := x10) (x11 := x11) (x12 := x12) (M := M) (i := 0 + (jj : Nat)) t (by omega)
      exact ⟨_, M, _, _, rfl, e2, d', p', _, rfl, t'.wk (by omega) (by omega), h'.app hE⟩)
  have hl : ((List.range 12).map fun i => D.int (0 + (i : Nat))).length = 12 := by rw [List.length_map, List.length_range]
  rw [hl] at t
  exact ⟨d, p, y4, M', e1, t.wk (by decide) (by decide), h'⟩
theorem s3_ok (cl : Clo M) (h2 : 2 ≤ M.length) : ∃ k M', s3 [x0, x1, x2, x3, x4, x5, x6, x7, x8, x9, x10, x11, x12] M = .ok (.nx, [x0, x1, x2, x3, x4, some (.ref k), x6, x7, x8, x9, x10, x11, x12]) M' ∧ NrB 1 M M' k 100 2 14 ∧ ∃ ds, M'[k]? = some (.lst ds) ∧ ds.length = 14 := by
  have hA : LA 1 (aCons (eC .non) (aCons (eC (.bl true)) (aCons (eC (.int 0)) (aCons (eC (.int 1)) (aCons (eC (.str "")) (aCons (eC (.str "a")) (aCons (eC (.str "letter")) (aCons (eC (.str "and")) (aCons (eCb newT aNil) (aCons (eCb newL aNil) (aCons (eCb newT (aCons (eC (.str "letter")) (aCons (eC (.str "a")) aNil))) (aCons (eCb newT (aCons (eC (.str "and")) (aCons (eCb newT aNil) aNil))) (aCons (eC (.str "abcdefghi")) (aCons (eOp powD (eC (.int 10)) (eC (.int 40))) aNil)))))))))))))) [x0, x1, x2, x3, x4, x5, x6, x7, x8, x9, x10, x11, x12] 100 2 14 := (LA.cons PO.non (by omega) (by omega) (LA.cons (PO.val (fun _ => rfl) (tb_bl _)) (by omega) (by omega) (LA.cons PO.zero (by omega) (by omega) (LA.cons PO.one (by omega) (by omega) (LA.cons (PO.s9 (by decide +kernel) (by decide +kernel)) (by omega) (by omega) (LA.cons (PO.s9 (by decide +kernel) (by decide +kernel)) (by omega) (by omega) (LA.cons (PO.s9 (by decide +kernel) (by decide +kernel)) (by omega) (by omega) (LA.cons (PO.s9 (by decide +kernel) (by decide +kernel)) (by omega) (by omega) (LA.cons (PO.tup PA.nil (by omega)) (by omega) (by omega) (LA.consE (EO.lst PA.nil (by omega)) (by omega) (by omega) (LA.cons po_a (by omega) (by omega) (LA.cons po_and (by omega) (by omega) (LA.cons (PO.s9 (by decide +kernel) (by decide +kernel)) (by omega) (by omega) (LA.cons pw40 (by omega) (by omega) LA.nil))))))))))))))
  obtain ⟨k, M', e1, h1⟩ := nr_new hA cl h2 (by omega)
  exact ⟨k, M', by unfold s3; rw [sAsg_run, e1]; rfl, h1⟩
theorem NrB.up {M0 : Mh} {j j' k z e z' e' n n' : Nat} (h : NrB j M0 M k z e n) (hj : j ≤ j') (hz : z ≤ z') (he : e ≤ e') (hn : n ≤ n') : NrB j' M0 M k z' e' n' := by
  obtain ⟨M1, ds, a, b, c, d, f, g⟩ := h
  exact ⟨M1, ds, a, b, c, d.up hj hz he, by omega, g⟩
theorem H300 : Ts [] 0 (List.replicate 300 dH) (List.replicate 300 (.tuple [.str "letter", .str "abcdefgh"])) 9600 1 := by
  have : ∀ n : Nat, Ts [] 0 (List.replicate n dH) (List.replicate n (.tuple [.str "letter", .str "abcdefgh"])) (32 * n) 1 := by
    intro n
    induction n with
    | zero => exact (Ts.nil _ _).wk (by omega) (by omega)
    | succ n ih =>
      rw [List.replicate_succ, List.replicate_succ]
      exact (Ts.cons tb_H ih).wk (by omega) (by omega)
  exact this 300
theorem m300 {M : Mh} : mulD (.tup [dH]) (.int 300) M = .ok (.tup (List.replicate 300 dH)) M := by
  have e : (List.replicate (300 : Int).toNat [dH]).flatten = List.replicate 300 dH := by
    have : ∀ n : Nat, (List.replicate n [dH]).flatten = List.replicate n dH := by
      intro n
      induction n with
      | zero => rfl
      | succ n ih => rw [List.replicate_succ, List.flatten_cons, ih, List.replicate_succ]; rfl
    exact this 300
  unfold mulD
  simp only [List.length_cons, List.length_nil]
  rw [if_pos (by omega), e]; rfl
theorem s4_ok {M0 : Mh} {k : Nat} {e : Nat} (nr : NrB 1 M0 M k 100 2 14) (hd : Tb [] 0 d p 9000 25) : ∃ k' M', s4 [x0, x1, some d, some dH, x4, some (.ref k), x6, x7, x8, x9, x10, x11, x12] M = .ok (.nx, [x0, x1, some d, some dH, x4, some (.ref k), some (.ref k'), x7, x8, x9, x10, x11, x12]) M' ∧ NrB 2 M M' k' 60000 56 18 := by
  have v2 : PO (eVar 2) [x0, x1, some d, some dH, x4, some (.ref k), x6, x7, x8, x9, x10, x11, x12] 9000 25 := PO.var rfl hd
  have h3 : PT (eOp mulD (eCb newT (aCons (eVar 3) aNil)) (eC (.int 300))) [x0, x1, some d, some dH, x4, some (.ref k), x6, x7, x8, x9, x10, x11, x12] 9600 1 300 := fun M => by
    refine ⟨List.replicate 300 dH, _, ?_, H300, List.length_replicate ..⟩
    simp only [eOp_run, eCb_run, aCons_run, aNil_run, eVar_run, List.getElem?_cons_succ, List.getElem?_cons_zero, eC_run, newT_s (show [dH].length ≤ 100000 by decide), m300]
  have hA : LA 2 (aCons (eVar 2) (aCons (eCb newT (aCons (eC (.str "and")) (aCons (eOp mulD (eCb newT (aCons (eVar 3) aNil)) (eC (.int 300))) aNil))) (aCons (eCb newT (aCons (eC (.str "and")) (aCons (eOp addD (eOp mulD (eCb newT (aCons (eVar 3) aNil)) (eC (.int 300))) (eCb newT (aCons (eC .non) aNil))) aNil))) (aCons (eCb newT (aCons (eC (.str "told")) (aCons (eVar 2) (aCons (eVar 2) aNil)))) aNil)))) [x0, x1, some d, some dH, x4, some (.ref k), x6, x7, x8, x9, x10, x11, x12] 60000 56 4 :=
    LA.cons v2 (by omega) (by omega) (LA.cons (PO.tup (PA.cons (PO.s9 (by decide +kernel) (by decide +kernel)) (PA.cons (h3.po (by omega)) PA.nil)) (by omega)) (by omega) (by omega)
      (LA.cons (PO.tup (PA.cons (PO.s9 (by decide +kernel) (by decide +kernel)) (PA.cons ((PT.add h3 (PT.new (PA.cons PO.non PA.nil) (by omega)) (by omega)).po (by omega)) PA.nil)) (by omega)) (by omega) (by omega)
        (LA.cons (PO.tup (PA.cons (PO.s9 (by decide +kernel) (by decide +kernel)) (PA.cons v2 (PA.cons v2 PA.nil))) (by omega)) (by omega) (by omega) LA.nil)))
  obtain ⟨k', M', e1, _, h1⟩ := nr_more (i := 5) (nr.up (j' := 2) (z' := 60000) (e' := 56) (n' := 14) (by omega) (by omega) (by omega) (by omega)) rfl hA (by omega)
  exact ⟨k', M', by unfold s4; rw [sAsg_run, e1]; rfl, h1⟩
theorem s5_ok {M0 : Mh} {k : Nat} (nr : NrB 2 M0 M k 60000 56 18) : ∃ M', s5 [x0, x1, x2, some dH, x4, x5, some (.ref k), x7, x8, x9, x10, x11, x12] M = .ok (.nx, [x0, x1, x2, some dH, x4, x5, some (.ref k), x7, x8, x9, x10, x11, x12]) M' ∧ NrB 2 M0 M' k 60000 56 19 := by
  have v3 : PO (eVar 3) [x0, x1, x2, some dH, x4, x5, some (.ref k), x7, x8, x9, x10, x11, x12] 30 1 := PO.var rfl tb_H
  have hT : PO (eCb newT (aCons (eC (.str "not")) (aCons (eCb newT (aCons (eC (.str "told")) (aCons (eVar 3) (aCons (eVar 3) aNil)))) aNil))) [x0, x1, x2, some dH, x4, x5, some (.ref k), x7, x8, x9, x10, x11, x12] 60000 56 := PO.wk (PO.tup (PA.cons (PO.str (by decide +kernel) (by decide +kernel)) (PA.cons (PO.tup (PA.cons (PO.str (by decide +kernel) (by decide +kernel)) (PA.cons v3 (PA.cons v3 PA.nil))) (by omega)) PA.nil)) (by omega)) (by omega) (by omega)
  exact nr_app (i := 6) nr rfl hT (by omega)
end
/-! ### a turn -/
structure Js (M : Mh) (ns : List Int) (n : Int) (k5 k6 : Nat) (menu : List D) (c : Nat) : Prop where
  fd : ∃ i r, Fd M 1 0 ns i r n
  two : 2 ≤ M.length
  mn : Mn M k5 menu
  l6 : 2 ≤ k6
  h6 : ∃ ds, M[k6]? = some (.lst ds) ∧ Al M 2 ds 60000 56 ∧ ds.length ≤ c
theorem fd_ext {M E : Mh} {ns : List Int} {i r n : Int} (h : Fd M 1 0 ns i r n) (c : Clo (M ++ E)) : Fd (M ++ E) 1 0 ns i r n :=
  ⟨c, by rw [ga_lt (lt_of_get h.hf)]; exact h.hf, by rw [ga_lt (lt_of_get h.hc)]; exact h.hc, h.nfc, h.hi, h.hn⟩
theorem Js.ext {M E : Mh} {ns : List Int} {n : Int} {k5 k6 c : Nat} {menu : List D} (h : Js M ns n k5 k6 menu c) (cl : Clo (M ++ E)) : Js (M ++ E) ns n k5 k6 menu c := by
  obtain ⟨i, r, f⟩ := h.fd
  obtain ⟨ds, h1, h2, h3⟩ := h.h6
  exact ⟨⟨i, r, fd_ext f cl⟩, by have := h.two; rw [List.length_append]; omega, h.mn.keep (kp_app _ _), h.l6, ds, kp_app _ _ _ _ h.l6 h1, h2.keep (kp_app _ _), h3⟩
theorem Js.set {M E : Mh} {ns : List Int} {n : Int} {k5 k6 c : Nat} {menu : List D} (h : Js M ns n k5 k6 menu c) {i' r' n' : Int} (hi : 0 ≤ i') (hn : 0 ≤ n') (cl : Clo (M.set 1 (fdO i' r' n') ++ E)) : Js (M.set 1 (fdO i' r' n') ++ E) ns n' k5 k6 menu c := by
  obtain ⟨i, r, f⟩ := h.fd
  obtain ⟨ds, h1, h2, h3⟩ := h.h6
  have k : Kp M (M.set 1 (fdO i' r' n') ++ E) := fun k ds h e => kp_app _ _ k ds h (kp_set1 k ds h e)
  exact ⟨⟨i', r', fd_ext (f.set1 hi hn) cl⟩, by have := h.two; rw [List.length_append, List.length_set]; omega, h.mn.keep k, h.l6, ds, k _ _ h.l6 h1, h2.keep k, h3⟩
section
variable {g : Nat → Fn} {M : Mh} {x0 x1 x2 x3 x4 x5 x6 x7 x8 x9 x10 x11 x12 : Option D} {ns : List Int} {n : Int} {k5 k6 c : Nat} {menu : List D}
theorem s6a_ok (t10 : SayOk (g 10) 14) (h : Js M ns n k5 k6 menu c) (hn : n ≤ 2 ^ 36) {t : Int} : ∃ s n' M', s6a g [x0, some (.ref 1), x2, x3, x4, x5, x6, some (.int t), x8, x9, x10, x11, x12] M = .ok (.nx, [x0, some (.ref 1), x2, x3, x4, x5, x6, some (.int t), some (enc s), x9, x10, x11, x12]) M' ∧ Js M' ns n' k5 k6 menu c ∧ n' ≤ n + 84 ∧ s.okw Wds ∧ s.sz ≤ 42 ∧ s.dep ≤ 14 := by
  obtain ⟨i, r, f⟩ := h.fd
  obtain ⟨s, i', r', n', left', e1, gd, hi, h1, h2⟩ := say_new f t10 (by omega) (by omega) (!decide (t = 1))
  have f2 := f.set (i' := i') (r' := r') (n' := n') (E := [.lst [.int left']]) hi (by have := f.hn; omega) rfl
  refine ⟨s, n', _, ?_, h.set (E := [.lst [.int left']]) hi (by have := f.hn; omega) f2.cl, by omega, gd.w, by have := gd.z; omega, by have := gd.d; omega⟩
  generalize M.set 1 (.lst [.ref 0, .int i', .int r', .int n']) ++ [.lst [.int left']] = N at e1
  have e1 : g 10 [.ref 1, .ref (List.length M), .bl (!decide (t = 1))] (M ++ [.lst [.int 14]]) = .ok (enc s) N := e1
  have hne : ∀ N, neD (.int t) (.int 1) N = .ok (.bl (!decide (t = 1))) N := fun N => by rw [neD_run, eqC_int]
  clear h f f2 gd t10
  generalize (!decide (t = 1)) = b at e1 hne
  unfold s6a
  simp only [sAsg_run, eCb_run, aCons_run, aNil_run, eVar_run, List.getElem?_cons_succ, List.getElem?_cons_zero, eC_run, newL_s (show [D.int 14].length ≤ 100000 by decide), eOp_run, hne, e1, gNm_run, List.set_cons_succ, List.set_cons_zero]
/-- five texts of letters -/
theorem let5 {F : Fn} (hF : LtrOk F) {ws : List D} {s : Sl} (hs : s[1]? = some (some (.ref 1))) (hs4 : s.length = 13) : ∀ (ds acc : List D) (M : Mh) (i r n : Int), Fd M 1 0 ns i r n → n + 20 * (ds.length : Int) ≤ 2 ^ 37 →
    ∃ (xs : List Str) (i' r' n' : Int), compL ⟨none, ws⟩ (gNm 4) tYesD (eCb F (aCons (eVar 1) aNil)) s ds acc M = .ok (acc ++ xs.map D.str) (M.set 1 (fdO i' r' n')) ∧ xs.length = ds.length ∧ 0 ≤ i' ∧ n ≤ n' ∧ n' ≤ n + 20 * (ds.length : Int) ∧ ∀ x, x ∈ xs → x.length ≤ 9 ∧ PyData.strOk x = true
  | [], acc, M, i, r, n, h, hn => by
    refine ⟨[], i, r, n, ?_, rfl, h.hi, by omega, by simp, fun _ h => nomatch h⟩
    rw [compL_nil, if_pos (stays_none.mpr trivial), List.map_nil, List.append_nil, set_self h.hf]
  | d :: ds, acc, M, i, r, n, h, hn => by
    rw [List.length_cons] at hn
    obtain ⟨y, i1, r1, n1, e1, hi1, ha, hb, hy, ho⟩ := hF M ns i r n h (by omega)
    have h2 := h.set1 (r' := r1) (n' := n1) hi1 (by have := h.hn; omega)
    obtain ⟨xs, i2, r2, n2, e2, hl, hi2, hn2, hn3, hx⟩ := let5 hF (ws := ws) hs hs4 ds (acc ++ [.str y]) _ i1 r1 n1 h2 (by omega)
    refine ⟨y :: xs, i2, r2, n2, ?_, by rw [List.length_cons, List.length_cons, hl], hi2, by omega, by rw [List.length_cons]; omega, fun x hx' => ?_⟩
    · have hs1 : (s.set 4 (some d))[1]? = some (some (.ref 1)) := by rw [List.getElem?_set_ne (by omega)]; exact hs
      have et : (eCb F (aCons (eVar 1) aNil)) (s.set 4 (some d)) M = .ok (.str y) (M.set 1 (fdO i1 r1 n1)) := by
        simp only [eCb_run, aCons_run, aNil_run, eVar_run, hs1, e1]
      rw [compL_cons, if_pos (stays_none.mpr trivial)]
      simp only [bind_run, noX_run, gNm_run, tYesD_run, if_true, et]
      rw [e2]
      have hset : (M.set 1 (fdO i1 r1 n1)).set 1 (fdO i2 r2 n2) = M.set 1 (fdO i2 r2 n2) := List.set_set ..
      rw [hset]
      simp only [List.append_assoc, List.map_cons, List.cons_append, List.nil_append]
    · rcases List.mem_cons.mp hx' with rfl | hx'
      · exact ⟨hy, ho⟩
      · exact hx x hx'
theorem s6b_ok (t12 : NearOk (g 12)) (t11 : LtrOk (g 11)) (h : Js M ns n k5 k6 menu c) (hn : n ≤ 2 ^ 36) (hc : c ≤ 10000) {s : Sy} (hw : s.okw Wds) (hz : s.sz ≤ 42) (hd : s.dep ≤ 14) : ∃ k n' M', s6b g [x0, some (.ref 1), x2, x3, x4, x5, some (.ref k6), x7, some (enc s), x9, x10, x11, x12] M = .ok (.nx, [x0, some (.ref 1), x2, x3, x4, x5, some (.ref k), x7, some (enc s), x9, x10, x11, x12]) M' ∧ Js M' ns n' k5 k menu (c + 205) ∧ n' ≤ n + 100 := by
  obtain ⟨i, r, f⟩ := h.fd
  have hts : Tb [] 0 (enc s) (dat s) 4200 28 := (tb_enc (okw_mono shrt_wds s hw) (by omega)).wk (by omega) (by omega)
  obtain ⟨dd, hdd⟩ := enc_tup s
  rw [hdd] at hts
  obtain ⟨ps, _, ts, hl⟩ := hts.untup
  obtain ⟨kn, Mn_, e1, nr⟩ := t12 M dd ps f.cl h.two (ts.wk (by omega) (by omega)) (by omega)
  have cn := nr.clo
  obtain ⟨N1, dn, rfl, rfl, c1, a1, hl1, h21, E1, rfl⟩ := nr
  have c2 := clo_low c1 a1.low
  rw [List.append_assoc] at c2
  have j2 := h.ext c2
  obtain ⟨ds, h61, h62, h63⟩ := j2.h6
  have gk : (M ++ (E1 ++ [MO.lst dn]))[(M ++ E1).length]? = some (.lst dn) := by rw [← List.append_assoc]; exact gn_new
  have an : Al (M ++ (E1 ++ [MO.lst dn])) 2 dn 60000 56 := (a1.up (by omega) (by omega) (by omega)).keep (by rw [← List.append_assoc]; exact kp_app _ _)
  have aa := h62.app an
  have hlen : (ds ++ dn).length ≤ c + 200 := by rw [List.length_append]; omega
  have c3 := clo_low c2 aa.low
  have j3 := j2.ext c3
  obtain ⟨i3, r3, f3⟩ := j3.fd
  have n0 := f.hn
  obtain ⟨xs, i4, r4, n4, e4, hl4, hi4, hn4, hn4', hx⟩ := let5 (F := g 11) t11 (ws := (List.range 5).map fun i => .int (0 + (i : Nat))) (s := [x0, some (.ref 1), x2, x3, none, x5, some (.ref k6), x7, some (enc s), x9, x10, x11, x12]) rfl rfl ((List.range 5).map fun i => .int (0 + (i : Nat))) [] _ i3 r3 n f3 (by rw [List.length_map, List.length_range]; omega)
  have hl5 : ((List.range 5).map fun i => D.int (0 + (i : Nat))).length = 5 := by rw [List.length_map, List.length_range]
  rw [hl5] at hl4 hn4'
  rw [List.nil_append] at e4
  have a4 : ∀ N : Mh, Al N 2 (xs.map D.str) 60000 56 := fun N x hx' => by
    obtain ⟨y, hy, rfl⟩ := List.mem_map.mp hx'
    have hy9 := (hx y hy).1
    have ht : Tb [] 0 (.str y) (.str y) 92 0 := (tb_str (by omega) (hx y hy).2).wk (by omega) (by omega)
    exact ⟨_, ht.pure.wk (by omega) (by omega)⟩
  generalize hK3 : M ++ (E1 ++ [MO.lst dn]) = K3 at *
  have f4 := f3.set1 (r' := r4) (n' := n4) hi4 (by omega)
  have c4 := clo_low f4.cl (a4 _).low
  have j4 := j3.set (E := [.lst (xs.map D.str)]) hi4 (by omega) c4
  have l3 : 1 < K3.length := by have := j2.two; omega
  have l3' : 2 ≤ K3.length := j2.two
  have g5 : ((K3 ++ [MO.lst (ds ++ dn)]).set 1 (fdO i4 r4 n4) ++ [MO.lst (xs.map D.str)])[K3.length]? = some (.lst (ds ++ dn)) := by
    rw [set_app l3, List.append_assoc]
    have : (K3.set 1 (fdO i4 r4 n4)).length = K3.length := List.length_set ..
    rw [← this]; exact gn_new
  have g6 : ((K3 ++ [MO.lst (ds ++ dn)]).set 1 (fdO i4 r4 n4) ++ [MO.lst (xs.map D.str)])[((K3 ++ [MO.lst (ds ++ dn)]).set 1 (fdO i4 r4 n4)).length]? = some (.lst (xs.map D.str)) := gn_new
  have k4 : Kp K3 ((K3 ++ [MO.lst (ds ++ dn)]).set 1 (fdO i4 r4 n4) ++ [MO.lst (xs.map D.str)]) := fun k u h e => kp_app _ _ k u h (kp_set1 k u h (kp_app _ _ k u h e))
  have a5 : Al ((K3 ++ [MO.lst (ds ++ dn)]).set 1 (fdO i4 r4 n4) ++ [MO.lst (xs.map D.str)]) 2 (ds ++ dn ++ xs.map D.str) 60000 56 := (aa.keep k4).app (a4 _)
  have c5 := clo_low c4 a5.low
  have j5 := j4.ext c5
  have hlx : (xs.map D.str).length = 5 := by rw [List.length_map, hl4]
  generalize hN : (K3 ++ [MO.lst (ds ++ dn)]).set 1 (fdO i4 r4 n4) = N at *
  refine ⟨(N ++ [MO.lst (xs.map D.str)]).length, n4, N ++ [MO.lst (xs.map D.str)] ++ [.lst (ds ++ dn ++ xs.map D.str)], ?_, ⟨j5.fd, j5.two, j5.mn, ?_, ds ++ dn ++ xs.map D.str, gn_new, a5.keep (kp_app _ _), by rw [List.length_append, hlx]; omega⟩, by omega⟩
  · have er : ∀ N, rng1 [.int 5] N = .ok ⟨none, (List.range 5).map fun i => .int (0 + (i : Nat))⟩ N := fun N => rng1_s (by omega) (by omega)
    have hw5 : ((List.range 5).map fun i => D.int (0 + (i : Nat))).length < PySem.sizeLine := by rw [hl5, Dn.sizeLine_eq]; omega
    have gk' : K3[(M ++ E1).length]? = some (.lst dn) := gk
    rw [List.append_assoc, hK3] at e1
    unfold s6b
    rw [hdd] at e4 ⊢
    simp only [sAsg_run, eOp_run, eCb_run, aCons_run, aNil_run, eVar_run, List.getElem?_cons_succ, List.getElem?_cons_zero, e1, addD_ref, h61, gk', newL_s (show (ds ++ dn).length ≤ 100000 by omega), eComp_run, bind_run, eC_run, er, if_pos hw5, wipeD, List.set_cons_succ, List.set_cons_zero, e4, g5, g6, newL_s (show (ds ++ dn ++ xs.map D.str).length ≤ 100000 by rw [List.length_append, hlx]; omega), gNm_run]
  · rw [List.length_append]; have : N.length = K3.length + 1 := by rw [← hN, List.length_set, List.length_append]; rfl
    omega
theorem s6c_ok {e : Nat} (t7 : SpOk (g 7) 28) (t7' : SpOk (g 7) 30) (h : Js M ns n k5 k6 menu c) (hn : n ≤ 2 ^ 36) (hc : c ≤ 10000) {d : D} {p : PyData} (td : Tb [] 0 d p 4200 28) : ∃ y9 k n' M', s6c g [x0, some (.ref 1), x2, x3, x4, some (.ref k5), some (.ref k6), x7, some d, x9, x10, x11, x12] M = .ok (.nx, [x0, some (.ref 1), x2, x3, x4, some (.ref k5), some (.ref k), x7, some d, y9, x10, x11, x12]) M' ∧ Js M' ns n' k5 k menu (c + 2) ∧ n' ≤ n + 300 := by
  obtain ⟨i, r, f⟩ := h.fd
  have n0 := f.hn
  obtain ⟨d1, p1, i1, r1, n1, E1, e1, c1, hi1, hn1, hn1', q1⟩ := t7 M ns i r n d p 0 4200 k5 menu f (by omega) h.two h.mn td.pure (by omega) (by omega) (by omega)
  have j1 := h.set (E := E1) hi1 (by omega) c1
  generalize M.set 1 (fdO i1 r1 n1) ++ E1 = M1 at *
  obtain ⟨i', r', f1⟩ := j1.fd
  obtain ⟨d2, p2, i2, r2, n2, E2, e2, c2, hi2, hn2, hn2', q2⟩ := t7' M1 ns i' r' n1 d1 p1 1 12800 k5 menu f1 (by omega) j1.two j1.mn q1 (by omega) (by omega) (by omega)
  have j2 := j1.set (E := E2) hi2 (by omega) c2
  have k2 : Kp M1 (M1.set 1 (fdO i2 r2 n2) ++ E2) := fun k u h e => kp_app _ _ k u h (kp_set1 k u h e)
  have q1' := q1.keep k2 (show 1 ≤ 2 by omega) (Nat.le_refl _) (Nat.le_refl _)
  generalize M1.set 1 (fdO i2 r2 n2) ++ E2 = M2 at *
  obtain ⟨ds, h61, h62, h63⟩ := j2.h6
  have aa : Al M2 2 [d1, d2] 60000 56 := fun x hx => by
    rcases List.mem_cons.mp hx with rfl | hx
    · exact ⟨p1, q1'.wk (by omega) (by omega)⟩
    · have : x = d2 := by simpa using hx
      subst this
      exact ⟨p2, q2.wk (by omega) (by omega)⟩
  have c3 := clo_low c2 aa.low
  have a4 := (h62.app aa).keep (kp_app M2 [.lst [d1, d2]])
  have c4 := clo_low c3 a4.low
  have j4 := (j2.ext c3).ext c4
  have g3 : (M2 ++ [MO.lst [d1, d2]])[k6]? = some (.lst ds) := by rw [ga_lt (lt_of_get h61)]; exact h61
  have g4 : (M2 ++ [MO.lst [d1, d2]])[M2.length]? = some (.lst [d1, d2]) := gn_new
  refine ⟨some d1, (M2 ++ [MO.lst [d1, d2]]).length, n2, M2 ++ [MO.lst [d1, d2]] ++ [.lst (ds ++ [d1, d2])], ?_, ⟨j4.fd, j4.two, j4.mn, ?_, ds ++ [d1, d2], gn_new, a4.keep (kp_app _ _), by rw [List.length_append]; simp only [List.length_cons, List.length_nil]; omega⟩, by omega⟩
  · have hl2 : ([d1, d2] : List D).length ≤ 100000 := by simp only [List.length_cons, List.length_nil]; omega
    have hl3 : (ds ++ [d1, d2]).length ≤ 100000 := by rw [List.length_append]; simp only [List.length_cons, List.length_nil]; omega
    unfold s6c
    simp only [sSeq_run, sAsg_run, eOp_run, eCb_run, aCons_run, aNil_run, eVar_run, List.getElem?_cons_succ, List.getElem?_cons_zero, e1, gNm_run, List.set_cons_succ, List.set_cons_zero, e2, newL_s hl2, addD_ref, g3, g4, newL_s hl3]
  · have := j2.two; rw [List.length_append]; omega
theorem s6_ok (t10 : SayOk (g 10) 14) (t12 : NearOk (g 12)) (t11 : LtrOk (g 11)) (t7 : SpOk (g 7) 28) (t7' : SpOk (g 7) 30) (h : Js M ns n k5 k6 menu c) (hn : n ≤ 2 ^ 35) (hc : c ≤ 5000) {t : Int} : ∃ y4 k y8 y9 n' M', s6 g [x0, some (.ref 1), x2, x3, x4, some (.ref k5), some (.ref k6), some (.int t), x8, x9, x10, x11, x12] M = .ok (.nx, [x0, some (.ref 1), x2, x3, y4, some (.ref k5), some (.ref k), some (.int t), y8, y9, x10, x11, x12]) M' ∧ Js M' ns n' k5 k menu (c + 217) ∧ n' ≤ n + 2000 := by
  obtain ⟨s, n1, M1, e1, j1, hn1, hw, hz, hd⟩ := s6a_ok (x0 := x0) (x2 := x2) (x3 := x3) (x4 := x4) (x5 := some (.ref k5)) (x6 := some (.ref k6)) (x8 := x8) (x9 := x9) (x10 := x10) (x11 := x11) (x12 := x12) t10 h (by omega) (t := t)
  obtain ⟨k, n2, M2, e2, j2, hn2⟩ := s6b_ok (x0 := x0) (x2 := x2) (x3 := x3) (x4 := x4) (x5 := some (.ref k5)) (x7 := some (.int t)) (x9 := x9) (x10 := x10) (x11 := x11) (x12 := x12) t12 t11 j1 (by omega) (by omega) hw hz hd
  have hts : Tb [] 0 (enc s) (dat s) 4200 28 := (tb_enc (okw_mono shrt_wds s hw) (by omega)).wk (by omega) (by omega)
  obtain ⟨s', M3, e3, y4, k', y9, n3, rfl, j3, hn3⟩ := loop_ix (w := ⟨none, (List.range 6).map fun i => .int (0 + (i : Nat))⟩) (g := gNm 4) (body := s6c g) (fun j s' M' => ∃ y4 k' y9 n', s' = [x0, some (.ref 1), x2, x3, y4, some (.ref k5), some (.ref k'), some (.int t), some (enc s), y9, x10, x11, x12] ∧ Js M' ns n' k5 k' menu (c + 205 + 2 * j) ∧ n' ≤ n2 + 300 * j)
    (fun _ _ _ _ => stays_none.mpr trivial) ((List.range 6).map fun i => .int (0 + (i : Nat))) 0 _ M2 ⟨x4, k, x9, n2, rfl, j2, by omega⟩ (by
      rintro j u _ M hu ⟨y4, k', y9, n', rfl, j', h'⟩
      have hj : j < 6 := by have := (List.getElem?_eq_some_iff.mp hu).1; simpa using this
      rw [Nat.zero_add] at j' h' ⊢
      obtain ⟨y9', k2, n4, M4, e4, j4, h4⟩ := s6c_ok (e := 0) (x0 := x0) (x2 := x2) (x3 := x3) (x4 := some u) (x7 := some (.int t)) (x9 := y9) (x10 := x10) (x11 := x11) (x12 := x12) t7 t7' j' (by omega) (by omega) hts
      exact ⟨_, M, _, _, rfl, e4, some u, k2, y9', n4, rfl, j4, by omega⟩)
  have hl : ((List.range 6).map fun i => D.int (0 + (i : Nat))).length = 6 := by rw [List.length_map, List.length_range]
  rw [hl] at j3 hn3
  refine ⟨y4, k', some (enc s), y9, n3, M3, ?_, j3, by omega⟩
  have er : ∀ N, rng1 [.int 6] N = .ok ⟨none, (List.range 6).map fun i => .int (0 + (i : Nat))⟩ N := fun N => rng1_s (by omega) (by omega)
  unfold s6
  simp only [sSeq_run, e1, e2, sFor_run, bind_run, aCons_run, aNil_run, eC_run, er, e3]
end
end Dn

namespace Pg
open PySem PySem.Spec PyProof.Rows L2 Dn
def topS (i : Nat) : Stmt := PySem.Challenge.pw_mustmays_k01_sayings_by_kind.main.body.getD i (.Pass ⟨0, 0, 0, 0⟩)
def c_HANDED : D := (.tup [(.str "must"), (.str "may")])
def c_LETTERS : D := (.str "abcdefghijklmnopqrstuvwxyz")
def c_LONGEST : D := (.int 8)
abbrev st_is_word : Stmt := topS 4
abbrev N_is_word : List Str := ["thing", "sign"]
theorem sc_is_word : FnScope N_is_word ["thing"] (defScope st_is_word) := ⟨rfl, rfl, rfl, by decide +kernel, rfl, by decide +kernel, by decide +kernel⟩
abbrev st_are_sayings : Stmt := topS 5
abbrev N_are_sayings : List Str := ["thing", "is_one", "one"]
theorem sc_are_sayings : FnScope N_are_sayings ["thing", "is_one"] (defScope st_are_sayings) := ⟨rfl, rfl, rfl, by decide +kernel, rfl, by decide +kernel, by decide +kernel⟩
abbrev st_is_made : Stmt := topS 6
abbrev N_is_made : List Str := ["thing", "is_one", "word", "first", "rest"]
theorem sc_is_made : FnScope N_is_made ["thing", "is_one"] (defScope st_is_made) := ⟨rfl, rfl, rfl, by decide +kernel, rfl, by decide +kernel, by decide +kernel⟩
abbrev st_is_plain_saying : Stmt := topS 7
abbrev N_is_plain_saying : List Str := ["thing"]
theorem sc_is_plain_saying : FnScope N_is_plain_saying ["thing"] (defScope st_is_plain_saying) := ⟨rfl, rfl, rfl, by decide +kernel, rfl, by decide +kernel, by decide +kernel⟩
abbrev st_is_saying : Stmt := topS 8
abbrev N_is_saying : List Str := ["thing"]
theorem sc_is_saying : FnScope N_is_saying ["thing"] (defScope st_is_saying) := ⟨rfl, rfl, rfl, by decide +kernel, rfl, by decide +kernel, by decide +kernel⟩
abbrev st__law_feed : Stmt := topS 10
abbrev N__law_feed : List Str := ["_law_script"]
theorem sc__law_feed : FnScope N__law_feed ["_law_script"] (defScope st__law_feed) := ⟨rfl, rfl, rfl, by decide +kernel, rfl, by decide +kernel, by decide +kernel⟩
abbrev st__law_draw : Stmt := topS 11
abbrev N__law_draw : List Str := ["_law_feed_here", "_law_many", "_law_found", "_law_cell", "_law_mixed"]
theorem sc__law_draw : FnScope N__law_draw ["_law_feed_here", "_law_many"] (defScope st__law_draw) := ⟨rfl, rfl, rfl, by decide +kernel, rfl, by decide +kernel, by decide +kernel⟩
abbrev st__law_spoilt : Stmt := topS 12
abbrev N__law_spoilt : List Str := ["_law_feed_here", "_law_thing", "_law_menu", "_law_way", "_law_at", "_law_other", "_law_some"]
theorem sc__law_spoilt : FnScope N__law_spoilt ["_law_feed_here", "_law_thing", "_law_menu"] (defScope st__law_spoilt) := ⟨rfl, rfl, rfl, by decide +kernel, rfl, by decide +kernel, by decide +kernel⟩
abbrev st__law_is_word : Stmt := topS 13
abbrev N__law_is_word : List Str := ["_law_thing", "_law_s"]
theorem sc__law_is_word : FnScope N__law_is_word ["_law_thing"] (defScope st__law_is_word) := ⟨rfl, rfl, rfl, by decide +kernel, rfl, by decide +kernel, by decide +kernel⟩
abbrev st__law_is_saying : Stmt := topS 14
abbrev N__law_is_saying : List Str := ["_law_thing", "_law_told", "_law_word", "_law_one"]
theorem sc__law_is_saying : FnScope N__law_is_saying ["_law_thing", "_law_told"] (defScope st__law_is_saying) := ⟨rfl, rfl, rfl, by decide +kernel, rfl, by decide +kernel, by decide +kernel⟩
abbrev st__law_saying : Stmt := topS 15
abbrev N__law_saying : List Str := ["_law_feed_here", "_law_left", "_law_told", "_law_way", "_law_many", "_law_some", "_law_hand", "_law_k"]
theorem sc__law_saying : FnScope N__law_saying ["_law_feed_here", "_law_left", "_law_told"] (defScope st__law_saying) := ⟨rfl, rfl, rfl, by decide +kernel, rfl, by decide +kernel, by decide +kernel⟩
abbrev st__law_letters : Stmt := topS 16
abbrev N__law_letters : List Str := ["_law_feed_here", "_law_signs", "_law_size", "_law_k"]
theorem sc__law_letters : FnScope N__law_letters ["_law_feed_here"] (defScope st__law_letters) := ⟨rfl, rfl, rfl, by decide +kernel, rfl, by decide +kernel, by decide +kernel⟩
abbrev st__law_near : Stmt := topS 17
abbrev N__law_near : List Str := ["_law_s", "_law_a", "_law_found", "_law_word"]
theorem sc__law_near : FnScope N__law_near ["_law_s"] (defScope st__law_near) := ⟨rfl, rfl, rfl, by decide +kernel, rfl, by decide +kernel, by decide +kernel⟩
abbrev st_law : Stmt := topS 18
abbrev N_law : List Str := ["_law_script", "_law_feed_here", "_law_deep", "_law_a", "_law_k", "_law_menu", "_law_some", "_law_turn", "_law_one", "_law_bent", "_law_thing", "_law_kept", "_law_due"]
theorem sc_law : FnScope N_law ["_law_script"] (defScope st_law) := ⟨rfl, rfl, rfl, by decide +kernel, rfl, by decide +kernel, by decide +kernel⟩
noncomputable def b_is_word (g : Nat → Fn) : SD := (sSeq (sIf (tOrD (tNotD (tTruD (eUn (isiD .str) (eVar 0)))) (tNotD (tChainD leD leD (eC (.int 1)) (eCb (one1 lenD) (aCons (eVar 0) aNil)) (eC c_LONGEST)))) (sRet (eC (.bl false))) sNx) (sRet (eCb (one1 allD) (aCons (eComp [1] (fun s => ((eVar 0) s).bind wkOf) (gNm 1) tYesD (eOp inE (eVar 1) (eC c_LETTERS))) aNil))))
noncomputable def B_is_word (g : Nat → Fn) : Fn := mkFn 2 1 (b_is_word g)
noncomputable def b_are_sayings (g : Nat → Fn) : SD := (sRet (eAnd (eUn (isiD .tuple) (eVar 0)) (eCb (one1 allD) (aCons (eComp [2] (fun s => ((eVar 0) s).bind wkOf) (gNm 2) tYesD (eCallV g [("is_plain_saying", 3), ("is_saying", 4)] 1 (aCons (eVar 2) aNil))) aNil))))
noncomputable def B_are_sayings (g : Nat → Fn) : Fn := mkFn 3 2 (b_are_sayings g)
noncomputable def b_is_made (g : Nat → Fn) : SD := (sSeq (sIf (tOrD (tNotD (tTruD (eUn (isiD .tuple) (eVar 0)))) (tOrD (tCmpD ltD (eCb (one1 lenD) (aCons (eVar 0) aNil)) (eC (.int 2))) (tNotD (tTruD (eUn (isiD .str) (eOp ixE (eVar 0) (eC (.int 0)))))))) (sRet (eC (.bl false))) sNx) (sSeq (sAsg (eVar 0) (gSt 2 (gsCons (gNm 2) (gsCons (gNm 3) (gsCons (gNm 4) gsNil))))) (sSeq (sIf (tCmpD inE (eVar 2) (eC c_HANDED)) (sRet (eAnd (eOp eqD (eCb (one1 lenD) (aCons (eVar 4) aNil)) (eC (.int 1))) (eAnd (eCb (g 0) (aCons (eVar 3) aNil)) (eCallV g [("is_plain_saying", 3), ("is_saying", 4)] 1 (aCons (eOp ixE (eVar 4) (eC (.int 0))) aNil))))) sNx) (sSeq (sIf (tCmpD eqD (eVar 2) (eC (.str "so"))) (sRet (eAnd (eOp eqD (eCb (one1 lenD) (aCons (eVar 4) aNil)) (eC (.int 1))) (eAnd (eCallV g [("is_plain_saying", 3), ("is_saying", 4)] 1 (aCons (eVar 3) aNil)) (eCallV g [("is_plain_saying", 3), ("is_saying", 4)] 1 (aCons (eOp ixE (eVar 4) (eC (.int 0))) aNil))))) sNx) (sSeq (sIf (tCmpD neD (eVar 4) (eCb newL aNil)) (sRet (eC (.bl false))) sNx) (sSeq (sIf (tCmpD eqD (eVar 2) (eC (.str "letter"))) (sRet (eCb (g 0) (aCons (eVar 3) aNil))) sNx) (sRet (eOr (eAnd (eOp eqD (eVar 2) (eC (.str "not"))) (eCallV g [("is_plain_saying", 3), ("is_saying", 4)] 1 (aCons (eVar 3) aNil))) (eAnd (eOp inE (eVar 2) (eCb newT (aCons (eC (.str "and")) (aCons (eC (.str "or")) aNil)))) (eCb (g 1) (aCons (eVar 3) (aCons (eVar 1) aNil))))))))))))
noncomputable def B_is_made (g : Nat → Fn) : Fn := mkFn 5 2 (b_is_made g)
noncomputable def b_is_plain_saying (g : Nat → Fn) : SD := (sRet (eCb (g 2) (aCons (eVar 0) (aCons (eC (.glo "is_plain_saying")) aNil))))
noncomputable def B_is_plain_saying (g : Nat → Fn) : Fn := mkFn 1 1 (b_is_plain_saying g)
noncomputable def b_is_saying (g : Nat → Fn) : SD := (sSeq (sIf (tOrD (tNotD (tTruD (eUn (isiD .tuple) (eVar 0)))) (tOrD (tCmpD neD (eCb (one1 lenD) (aCons (eVar 0) aNil)) (eC (.int 3))) (tOrD (tNotD (tTruD (eUn (isiD .str) (eOp ixE (eVar 0) (eC (.int 0)))))) (tCmpD neD (eOp ixE (eVar 0) (eC (.int 0))) (eC (.str "told")))))) (sRet (eCb (g 2) (aCons (eVar 0) (aCons (eC (.glo "is_saying")) aNil)))) sNx) (sRet (eAnd (eCb (g 4) (aCons (eOp ixE (eVar 0) (eC (.int 1))) aNil)) (eCb (g 4) (aCons (eOp ixE (eVar 0) (eC (.int 2))) aNil)))))
noncomputable def B_is_saying (g : Nat → Fn) : Fn := mkFn 1 1 (b_is_saying g)
noncomputable def b__law_feed (g : Nat → Fn) : SD := (sRet (eCb newL (aCons (eSl (eVar 0) oNone (oSome (eC (.int 63)))) (aCons (eC (.int 0)) (aCons (eC (.int 0)) (aCons (eC (.int 0)) aNil))))))
noncomputable def B__law_feed (g : Nat → Fn) : Fn := mkFn 1 1 (b__law_feed g)
noncomputable def b__law_draw (g : Nat → Fn) : SD := (sSeq (sAsg (eOp addD (eOp ixE (eVar 0) (eC (.int 3))) (eC (.int 1))) (gSb (eVar 0) (eC (.int 3)))) (sSeq (sIf (tCmpD gtD (eOp ixE (eVar 0) (eC (.int 2))) (eC (.int 0))) (sSeq (sAsg (eOp modD (eOp ixE (eVar 0) (eC (.int 2))) (eVar 1)) (gNm 2)) (sSeq (sAsg (eOp fdivD (eOp ixE (eVar 0) (eC (.int 2))) (eVar 1)) (gSb (eVar 0) (eC (.int 2)))) (sRet (eVar 2)))) sNx) (sSeq (sAsg (eC (.int 5)) (gNm 3)) (sSeq (sIf (tCmpD neD (eOp ixE (eVar 0) (eC (.int 0))) (eCb newL aNil)) (sAsg (eOp ixE (eOp ixE (eVar 0) (eC (.int 0))) (eOp modD (eOp ixE (eVar 0) (eC (.int 1))) (eCb (one1 lenD) (aCons (eOp ixE (eVar 0) (eC (.int 0))) aNil)))) (gNm 3)) sNx) (sSeq (sAsg (eOp addD (eOp ixE (eVar 0) (eC (.int 1))) (eC (.int 1))) (gSb (eVar 0) (eC (.int 1)))) (sSeq (sIf (tAndD (tCmpD geD (eVar 3) (eOp powD (eC (.int 10)) (eC (.int 18)))) (tCmpD leD (eOp ixE (eVar 0) (eC (.int 1))) (eCb (one1 lenD) (aCons (eOp ixE (eVar 0) (eC (.int 0))) aNil)))) (sSeq (sAsg (eOp fdivD (eVar 3) (eVar 1)) (gSb (eVar 0) (eC (.int 2)))) (sRet (eOp modD (eVar 3) (eVar 1)))) sNx) (sSeq (sAsg (eOp modD (eOp powD (eOp addD (eOp addD (eOp modD (eVar 3) (eC (.int 2147483629))) (eOp mulD (eC (.int 7919)) (eOp ixE (eVar 0) (eC (.int 3))))) (eC (.int 1))) (eC (.int 5))) (eC (.int 2147483647))) (gNm 4)) (sRet (eOp modD (eOp fdivD (eOp modD (eOp powD (eOp addD (eVar 4) (eOp mulD (eC (.int 104729)) (eOp ixE (eVar 0) (eC (.int 3))))) (eC (.int 5))) (eC (.int 2147483587))) (eC (.int 64))) (eVar 1))))))))))
noncomputable def B__law_draw (g : Nat → Fn) : Fn := mkFn 5 2 (b__law_draw g)
noncomputable def b__law_spoilt (g : Nat → Fn) : SD := (sSeq (sAsg (eCb (g 6) (aCons (eVar 0) (aCons (eC (.int 9)) aNil))) (gNm 3)) (sSeq (sIf (tOrD (tNotD (tTruD (eUn (isiD .tuple) (eVar 1)))) (tOrD (tCmpD eqD (eVar 1) (eCb newT aNil)) (tCmpD eqD (eVar 3) (eC (.int 0))))) (sRet (eOp ixE (eVar 2) (eCb (g 6) (aCons (eVar 0) (aCons (eCb (one1 lenD) (aCons (eVar 2) aNil)) aNil))))) sNx) (sSeq (sAsg (eCb (g 6) (aCons (eVar 0) (aCons (eCb (one1 lenD) (aCons (eVar 1) aNil)) aNil))) (gNm 4)) (sSeq (sIf (tCmpD eqD (eVar 3) (eC (.int 1))) (sRet (eOp addD (eSl (eVar 1) oNone (oSome (eVar 4))) (eSl (eVar 1) (oSome (eOp addD (eVar 4) (eC (.int 1)))) oNone))) sNx) (sSeq (sIf (tCmpD eqD (eVar 3) (eC (.int 2))) (sRet (eOp addD (eOp addD (eSl (eVar 1) oNone (oSome (eVar 4))) (eSl (eVar 1) (oSome (eVar 4)) (oSome (eOp addD (eVar 4) (eC (.int 1)))))) (eSl (eVar 1) (oSome (eVar 4)) oNone))) sNx) (sSeq (sIf (tCmpD eqD (eVar 3) (eC (.int 3))) (sRet (eOp addD (eOp addD (eSl (eVar 1) oNone (oSome (eVar 4))) (eCb newT (aCons (eOp ixE (eVar 2) (eCb (g 6) (aCons (eVar 0) (aCons (eCb (one1 lenD) (aCons (eVar 2) aNil)) aNil)))) aNil))) (eSl (eVar 1) (oSome (eVar 4)) oNone))) sNx) (sSeq (sIf (tCmpD eqD (eVar 3) (eC (.int 4))) (sSeq (sPar [5, 6] (aCons (eCb (g 6) (aCons (eVar 0) (aCons (eCb (one1 lenD) (aCons (eVar 1) aNil)) aNil))) (aCons (eCb (one1 listD) (aCons (eVar 1) aNil)) aNil))) (sSeq (sAsg (eCb newT (aCons (eOp ixE (eVar 1) (eVar 5)) (aCons (eOp ixE (eVar 1) (eVar 4)) aNil))) (gTp 2 (gsCons (gSb (eVar 6) (eVar 4)) (gsCons (gSb (eVar 6) (eVar 5)) gsNil)))) (sRet (eCb (one1 tupleD) (aCons (eVar 6) aNil))))) sNx) (sSeq (sIf (tCmpD eqD (eVar 3) (eC (.int 5))) (sRet (eCb (one1 listD) (aCons (eVar 1) aNil))) sNx) (sRet (eOp addD (eOp addD (eSl (eVar 1) oNone (oSome (eVar 4))) (eCb newT (aCons (eCb (g 7) (aCons (eVar 0) (aCons (eOp ixE (eVar 1) (eVar 4)) (aCons (eVar 2) aNil)))) aNil))) (eSl (eVar 1) (oSome (eOp addD (eVar 4) (eC (.int 1)))) oNone)))))))))))
noncomputable def B__law_spoilt (g : Nat → Fn) : Fn := mkFn 7 3 (b__law_spoilt g)
noncomputable def b__law_is_word (g : Nat → Fn) : SD := (sRet (eAnd (eUn (isiD .str) (eVar 0)) (eAnd (eChain ltD ltD (eC (.int 0)) (eCb (one1 lenD) (aCons (eVar 0) aNil)) (eC (.int 9))) (eOp eqD (eComp [1] (fun s => ((eVar 0) s).bind wkOf) (gNm 1) (tNotD (tChainD leD leD (eC (.str "a")) (eVar 1) (eC (.str "z")))) (eVar 1)) (eCb newL aNil)))))
noncomputable def B__law_is_word (g : Nat → Fn) : Fn := mkFn 2 1 (b__law_is_word g)
noncomputable def b__law_is_saying (g : Nat → Fn) : SD := (sSeq (sIf (tOrD (tNotD (tTruD (eUn (isiD .tuple) (eVar 0)))) (tOrD (tCmpD ltD (eCb (one1 lenD) (aCons (eVar 0) aNil)) (eC (.int 2))) (tNotD (tTruD (eUn (isiD .str) (eOp ixE (eVar 0) (eC (.int 0)))))))) (sRet (eC (.bl false))) sNx) (sSeq (sAsg (eOp ixE (eVar 0) (eC (.int 0))) (gNm 2)) (sSeq (sIf (tCmpD eqD (eVar 2) (eC (.str "letter"))) (sRet (eAnd (eOp eqD (eCb (one1 lenD) (aCons (eVar 0) aNil)) (eC (.int 2))) (eCb (g 8) (aCons (eOp ixE (eVar 0) (eC (.int 1))) aNil)))) sNx) (sSeq (sIf (tCmpD eqD (eVar 2) (eC (.str "not"))) (sRet (eAnd (eOp eqD (eCb (one1 lenD) (aCons (eVar 0) aNil)) (eC (.int 2))) (eCb (g 9) (aCons (eOp ixE (eVar 0) (eC (.int 1))) (aCons (eVar 1) aNil))))) sNx) (sSeq (sIf (tCmpD inE (eVar 2) (eCb newT (aCons (eC (.str "and")) (aCons (eC (.str "or")) aNil)))) (sSeq (sIf (tOrD (tCmpD neD (eCb (one1 lenD) (aCons (eVar 0) aNil)) (eC (.int 2))) (tNotD (tTruD (eUn (isiD .tuple) (eOp ixE (eVar 0) (eC (.int 1))))))) (sRet (eC (.bl false))) sNx) (sRet (eOp eqD (eComp [3] (fun s => ((eOp ixE (eVar 0) (eC (.int 1))) s).bind wkOf) (gNm 3) (tNotD (tTruD (eCb (g 9) (aCons (eVar 3) (aCons (eVar 1) aNil))))) (eVar 3)) (eCb newL aNil)))) sNx) (sSeq (sIf (tCmpD neD (eCb (one1 lenD) (aCons (eVar 0) aNil)) (eC (.int 3))) (sRet (eC (.bl false))) sNx) (sSeq (sIf (tCmpD inE (eVar 2) (eCb newT (aCons (eC (.str "must")) (aCons (eC (.str "may")) aNil)))) (sRet (eAnd (eCb (g 8) (aCons (eOp ixE (eVar 0) (eC (.int 1))) aNil)) (eCb (g 9) (aCons (eOp ixE (eVar 0) (eC (.int 2))) (aCons (eVar 1) aNil))))) sNx) (sSeq (sIf (tOrD (tCmpD eqD (eVar 2) (eC (.str "so"))) (tAndD (tCmpD eqD (eVar 2) (eC (.str "told"))) (tTruD (eVar 1)))) (sRet (eAnd (eCb (g 9) (aCons (eOp ixE (eVar 0) (eC (.int 1))) (aCons (eVar 1) aNil))) (eCb (g 9) (aCons (eOp ixE (eVar 0) (eC (.int 2))) (aCons (eVar 1) aNil))))) sNx) (sRet (eC (.bl false)))))))))))
noncomputable def B__law_is_saying (g : Nat → Fn) : Fn := mkFn 4 2 (b__law_is_saying g)
noncomputable def b__law_saying (g : Nat → Fn) : SD := (sSeq (sAsg (eOp subD (eOp ixE (eVar 1) (eC (.int 0))) (eC (.int 1))) (gSb (eVar 1) (eC (.int 0)))) (sSeq (sAsg (eCb (g 6) (aCons (eVar 0) (aCons (eC (.int 14)) aNil))) (gNm 3)) (sSeq (sIf (tOrD (tCmpD ltD (eVar 3) (eC (.int 3))) (tCmpD ltD (eOp ixE (eVar 1) (eC (.int 0))) (eC (.int 1)))) (sRet (eCb newT (aCons (eC (.str "letter")) (aCons (eOp ixE (eCb newL (aCons (eC (.str "a")) (aCons (eC (.str "b")) (aCons (eC (.str "p")) aNil)))) (eCb (g 6) (aCons (eVar 0) (aCons (eC (.int 3)) aNil)))) aNil)))) sNx) (sSeq (sIf (tCmpD inE (eVar 3) (eCb newT (aCons (eC (.int 3)) (aCons (eC (.int 4)) aNil)))) (sRet (eCb newT (aCons (eC (.str "not")) (aCons (eCb (g 10) (aCons (eVar 0) (aCons (eVar 1) (aCons (eVar 2) aNil)))) aNil)))) sNx) (sSeq (sIf (tCmpD ltD (eVar 3) (eC (.int 8))) (sSeq (sAsg (eOp ixE (eCb newL (aCons (eC (.int 2)) (aCons (eC (.int 1)) (aCons (eC (.int 3)) (aCons (eC (.int 2)) (aCons (eC (.int 0)) aNil)))))) (eCb (g 6) (aCons (eVar 0) (aCons (eC (.int 5)) aNil)))) (gNm 4)) (sSeq (sAsg (eComp [7] (fun s => ((aCons (eVar 4) aNil) s).bind rng1) (gNm 7) (tCmpD gtD (eOp ixE (eVar 1) (eC (.int 0))) (eC (.int 0))) (eCb (g 10) (aCons (eVar 0) (aCons (eVar 1) (aCons (eVar 2) aNil))))) (gNm 5)) (sRet (eCb newT (aCons (eOp ixE (eCb newL (aCons (eC (.str "and")) (aCons (eC (.str "or")) aNil))) (eOp modD (eVar 3) (eC (.int 2)))) (aCons (eCb (one1 tupleD) (aCons (eVar 5) aNil)) aNil)))))) sNx) (sSeq (sIf (tOrD (tCmpD inE (eVar 3) (eCb newT (aCons (eC (.int 8)) (aCons (eC (.int 9)) aNil)))) (tAndD (tCmpD eqD (eVar 3) (eC (.int 13))) (tNotD (tTruD (eVar 2))))) (sRet (eCb newT (aCons (eC (.str "so")) (aCons (eCb (g 10) (aCons (eVar 0) (aCons (eVar 1) (aCons (eVar 2) aNil)))) (aCons (eCb (g 10) (aCons (eVar 0) (aCons (eVar 1) (aCons (eVar 2) aNil)))) aNil))))) sNx) (sSeq (sIf (tCmpD eqD (eVar 3) (eC (.int 13))) (sRet (eCb newT (aCons (eC (.str "told")) (aCons (eCb (g 10) (aCons (eVar 0) (aCons (eVar 1) (aCons (eVar 2) aNil)))) (aCons (eCb (g 10) (aCons (eVar 0) (aCons (eVar 1) (aCons (eVar 2) aNil)))) aNil))))) sNx) (sSeq (sAsg (eOp ixE (eCb newL (aCons (eC (.str "h")) (aCons (eC (.str "k")) aNil))) (eCb (g 6) (aCons (eVar 0) (aCons (eC (.int 2)) aNil)))) (gNm 6)) (sRet (eCb newT (aCons (eOp ixE (eCb newL (aCons (eC (.str "must")) (aCons (eC (.str "may")) aNil))) (eOp modD (eVar 3) (eC (.int 2)))) (aCons (eVar 6) (aCons (eCb (g 10) (aCons (eVar 0) (aCons (eVar 1) (aCons (eVar 2) aNil)))) aNil)))))))))))))
noncomputable def B__law_saying (g : Nat → Fn) : Fn := mkFn 8 3 (b__law_saying g)
noncomputable def b__law_letters (g : Nat → Fn) : SD := (sSeq (sAsg (eOp addD (eC (.str "abcmyzaz")) (eOp ixE (eCb newL (aCons (eC (.str "a")) (aCons (eC (.str "A")) (aCons (eC (.str " ")) (aCons (eC (.str "0")) (aCons (eC (.str "`")) (aCons (eC (.str "{")) (aCons (eC (.str "z")) (aCons (eC (.str "-")) aNil))))))))) (eCb (g 6) (aCons (eVar 0) (aCons (eC (.int 8)) aNil))))) (gNm 1)) (sSeq (sAsg (eCb (g 6) (aCons (eVar 0) (aCons (eC (.int 10)) aNil))) (gNm 2)) (sRet (eJoin (eC (.str "")) (eComp [3] (fun s => ((aCons (eVar 2) aNil) s).bind rng1) (gNm 3) tYesD (eOp ixE (eVar 1) (eCb (g 6) (aCons (eVar 0) (aCons (eC (.int 9)) aNil)))))))))
noncomputable def B__law_letters (g : Nat → Fn) : Fn := mkFn 4 1 (b__law_letters g)
noncomputable def b__law_near (g : Nat → Fn) : SD := (sSeq (sAsg (eCb newT (aCons (eC (.str "letter")) (aCons (eC (.str "a")) aNil))) (gNm 1)) (sSeq (sAsg (eCb newL (aCons (eVar 0) (aCons (eCb (one1 listD) (aCons (eVar 0) aNil)) (aCons (eOp addD (eVar 0) (eCb newT (aCons (eVar 1) aNil))) (aCons (eSl (eVar 0) oNone (oSome (eUn negD (eC (.int 1))))) (aCons (eRev (eVar 0) (eUn negD (eC (.int 1)))) (aCons (eCb newT (aCons (eVar 0) aNil)) (aCons (eCb newT (aCons (eC (.str "not")) (aCons (eVar 0) aNil))) (aCons (eCb newT (aCons (eC (.str "not")) (aCons (eVar 0) (aCons (eVar 0) aNil)))) (aCons (eCb newT (aCons (eC (.str "not")) aNil)) (aCons (eCb newT (aCons (eC (.str "not")) (aCons (eCb newT (aCons (eVar 0) aNil)) aNil))) aNil))))))))))) (gNm 2)) (sSeq (sFor (fun s => ((eCb newT (aCons (eC (.str "and")) (aCons (eC (.str "or")) (aCons (eC (.str "xor")) (aCons (eC (.str "And")) (aCons (eC (.str "")) aNil)))))) s).bind wkOf) (gNm 3) (sSeq (sAsg (eOp addD (eVar 2) (eCb newL (aCons (eCb newT (aCons (eVar 3) (aCons (eCb newT (aCons (eVar 0) aNil)) aNil))) (aCons (eCb newT (aCons (eVar 3) (aCons (eCb newT (aCons (eVar 0) (aCons (eVar 1) aNil))) aNil))) (aCons (eCb newT (aCons (eVar 3) (aCons (eCb newT aNil) aNil))) (aCons (eCb newT (aCons (eVar 3) (aCons (eVar 0) aNil))) (aCons (eCb newT (aCons (eVar 3) (aCons (eCb newL (aCons (eVar 0) aNil)) aNil))) (aCons (eCb newT (aCons (eVar 3) (aCons (eCb newT (aCons (eVar 0) (aCons (eC .non) aNil))) aNil))) aNil)))))))) (gNm 2)) (sExp (eLm appD (eVar 2) (aCons (eCb newT (aCons (eVar 3) (aCons (eVar 0) (aCons (eVar 1) aNil)))) aNil))))) (sSeq (sFor (fun s => ((eCb newT (aCons (eC (.str "so")) (aCons (eC (.str "told")) (aCons (eC (.str "must")) (aCons (eC (.str "may")) (aCons (eC (.str "tell")) aNil)))))) s).bind wkOf) (gNm 3) (sSeq (sAsg (eOp addD (eVar 2) (eCb newL (aCons (eCb newT (aCons (eVar 3) (aCons (eVar 0) (aCons (eVar 1) aNil)))) (aCons (eCb newT (aCons (eVar 3) (aCons (eVar 1) (aCons (eVar 0) aNil)))) (aCons (eCb newT (aCons (eVar 3) (aCons (eVar 0) aNil))) (aCons (eCb newT (aCons (eVar 3) (aCons (eC (.str "h")) (aCons (eVar 0) aNil)))) (aCons (eCb newT (aCons (eVar 3) (aCons (eVar 0) (aCons (eC (.str "h")) aNil)))) (aCons (eCb newT (aCons (eVar 3) (aCons (eC (.str "H")) (aCons (eVar 0) aNil)))) aNil)))))))) (gNm 2)) (sAsg (eOp addD (eVar 2) (eCb newL (aCons (eCb newT (aCons (eVar 3) (aCons (eC (.str "")) (aCons (eVar 0) aNil)))) (aCons (eCb newT (aCons (eVar 3) (aCons (eC (.str "abcdefghi")) (aCons (eVar 0) aNil)))) (aCons (eCb newT (aCons (eVar 3) (aCons (eVar 0) (aCons (eVar 1) (aCons (eVar 0) aNil))))) (aCons (eCb newT (aCons (eVar 3) (aCons (eC (.str "h")) (aCons (eC (.str "k")) (aCons (eVar 0) aNil))))) (aCons (eCb newT (aCons (eVar 3) (aCons (eC (.int 1)) (aCons (eVar 0) aNil)))) aNil))))))) (gNm 2)))) (sSeq (sAsg (eOp addD (eVar 2) (eCb newL (aCons (eCb newT (aCons (eC (.str "letter")) (aCons (eC (.str "a")) (aCons (eC (.str "b")) aNil)))) (aCons (eCb newT (aCons (eC (.str "letter")) (aCons (eC (.str "A")) aNil))) (aCons (eCb newT (aCons (eC (.str "letter")) (aCons (eC (.str "")) aNil))) (aCons (eCb newT (aCons (eC (.str "letter")) (aCons (eVar 0) aNil))) (aCons (eCb newT (aCons (eC (.str "letter")) (aCons (eC (.str "abcdefgh")) aNil))) aNil))))))) (gNm 2)) (sRet (eOp addD (eVar 2) (eCb newL (aCons (eCb newT (aCons (eC (.str "letter")) aNil)) aNil)))))))))
noncomputable def B__law_near (g : Nat → Fn) : Fn := mkFn 4 1 (b__law_near g)
noncomputable def b_law (g : Nat → Fn) : SD := (sSeq (sAsg (eCb (g 5) (aCons (eVar 0) aNil)) (gNm 1)) (sSeq (sAsg (eCb newT (aCons (eCb newT (aCons (eC (.str "letter")) (aCons (eC (.str "a")) aNil))) (aCons (eCb newT (aCons (eC (.str "letter")) (aCons (eC (.str "abcdefgh")) aNil))) aNil))) (gTp 2 (gsCons (gNm 2) (gsCons (gNm 3) gsNil)))) (sSeq (sFor (fun s => ((aCons (eC (.int 12)) aNil) s).bind rng1) (gNm 4) (sAsg (eOp ixE (eCb newL (aCons (eCb newT (aCons (eC (.str "not")) (aCons (eVar 2) aNil))) (aCons (eCb newT (aCons (eC (.str "must")) (aCons (eC (.str "h")) (aCons (eVar 2) aNil)))) (aCons (eCb newT (aCons (eC (.str "so")) (aCons (eVar 3) (aCons (eVar 2) aNil)))) (aCons (eCb newT (aCons (eC (.str "or")) (aCons (eCb newT (aCons (eVar 2) aNil)) aNil))) aNil))))) (eOp modD (eVar 4) (eC (.int 4)))) (gNm 2))) (sSeq (sAsg (eCb newL (aCons (eC .non) (aCons (eC (.bl true)) (aCons (eC (.int 0)) (aCons (eC (.int 1)) (aCons (eC (.str "")) (aCons (eC (.str "a")) (aCons (eC (.str "letter")) (aCons (eC (.str "and")) (aCons (eCb newT aNil) (aCons (eCb newL aNil) (aCons (eCb newT (aCons (eC (.str "letter")) (aCons (eC (.str "a")) aNil))) (aCons (eCb newT (aCons (eC (.str "and")) (aCons (eCb newT aNil) aNil))) (aCons (eC (.str "abcdefghi")) (aCons (eOp powD (eC (.int 10)) (eC (.int 40))) aNil))))))))))))))) (gNm 5)) (sSeq (sAsg (eOp addD (eVar 5) (eCb newL (aCons (eVar 2) (aCons (eCb newT (aCons (eC (.str "and")) (aCons (eOp mulD (eCb newT (aCons (eVar 3) aNil)) (eC (.int 300))) aNil))) (aCons (eCb newT (aCons (eC (.str "and")) (aCons (eOp addD (eOp mulD (eCb newT (aCons (eVar 3) aNil)) (eC (.int 300))) (eCb newT (aCons (eC .non) aNil))) aNil))) (aCons (eCb newT (aCons (eC (.str "told")) (aCons (eVar 2) (aCons (eVar 2) aNil)))) aNil)))))) (gNm 6)) (sSeq (sExp (eLm appD (eVar 6) (aCons (eCb newT (aCons (eC (.str "not")) (aCons (eCb newT (aCons (eC (.str "told")) (aCons (eVar 3) (aCons (eVar 3) aNil)))) aNil))) aNil))) (sSeq (sFor (fun s => ((aCons (eC (.int 3)) aNil) s).bind rng1) (gNm 7) (sSeq (sAsg (eCb (g 10) (aCons (eVar 1) (aCons (eCb newL (aCons (eC (.int 14)) aNil)) (aCons (eOp neD (eVar 7) (eC (.int 1))) aNil)))) (gNm 8)) (sSeq (sAsg (eOp addD (eOp addD (eVar 6) (eCb (g 12) (aCons (eVar 8) aNil))) (eComp [4] (fun s => ((aCons (eC (.int 5)) aNil) s).bind rng1) (gNm 4) tYesD (eCb (g 11) (aCons (eVar 1) aNil)))) (gNm 6)) (sFor (fun s => ((aCons (eC (.int 6)) aNil) s).bind rng1) (gNm 4) (sSeq (sAsg (eCb (g 7) (aCons (eVar 1) (aCons (eVar 8) (aCons (eVar 5) aNil)))) (gNm 9)) (sAsg (eOp addD (eVar 6) (eCb newL (aCons (eVar 9) (aCons (eCb (g 7) (aCons (eVar 1) (aCons (eVar 9) (aCons (eVar 5) aNil)))) aNil)))) (gNm 6))))))) (sSeq (sFor (fun s => ((eVar 6) s).bind wkOf) (gNm 10) (sSeq (sAsg (eCb (one1 reprD) (aCons (eVar 10) aNil)) (gNm 11)) (sSeq (sAsg (eCb newL (aCons (eCb (g 8) (aCons (eVar 10) aNil)) (aCons (eCb (g 9) (aCons (eVar 10) (aCons (eC (.bl true)) aNil))) (aCons (eCb (g 9) (aCons (eVar 10) (aCons (eC (.bl false)) aNil))) aNil)))) (gNm 12)) (sIf (tOrD (tCmpD neD (eCb (one1 reprD) (aCons (eCb newL (aCons (eCb (g 0) (aCons (eVar 10) aNil)) (aCons (eCb (g 4) (aCons (eVar 10) aNil)) (aCons (eCb (g 3) (aCons (eVar 10) aNil)) aNil)))) aNil)) (eCb (one1 reprD) (aCons (eVar 12) aNil))) (tCmpD neD (eCb (one1 reprD) (aCons (eVar 10) aNil)) (eVar 11))) (sRet (eC (.bl false))) sNx)))) (sRet (eC (.bl true)))))))))))
noncomputable def B_law (g : Nat → Fn) : Fn := mkFn 13 1 (b_law g)
noncomputable def Gam : Nat → Nat → Fn
  | 0, _ => noFn
  | k + 1, i => match i with
    | 0 => B_is_word (Gam k)
    | 1 => B_are_sayings (Gam k)
    | 2 => B_is_made (Gam k)
    | 3 => B_is_plain_saying (Gam k)
    | 4 => B_is_saying (Gam k)
    | 5 => B__law_feed (Gam k)
    | 6 => B__law_draw (Gam k)
    | 7 => B__law_spoilt (Gam k)
    | 8 => B__law_is_word (Gam k)
    | 9 => B__law_is_saying (Gam k)
    | 10 => B__law_saying (Gam k)
    | 11 => B__law_letters (Gam k)
    | 12 => B__law_near (Gam k)
    | 13 => B_law (Gam k)
    | _ => noFn
structure Tx (K : PySem.W.Frag) (mg : Str → Option Value) (w : World) where
  a_is_word : Addr
  d_is_word : FuncData
  f_is_word : Fun K "is_word" "is_word" st_is_word a_is_word d_is_word
  m_is_word : mg "is_word" = some (.ref a_is_word)
  b_is_word : Binds K d_is_word ["thing"] []
  a_are_sayings : Addr
  d_are_sayings : FuncData
  f_are_sayings : Fun K "are_sayings" "are_sayings" st_are_sayings a_are_sayings d_are_sayings
  m_are_sayings : mg "are_sayings" = some (.ref a_are_sayings)
  b_are_sayings : Binds K d_are_sayings ["thing", "is_one"] []
  a_is_made : Addr
  d_is_made : FuncData
  f_is_made : Fun K "is_made" "is_made" st_is_made a_is_made d_is_made
  m_is_made : mg "is_made" = some (.ref a_is_made)
  b_is_made : Binds K d_is_made ["thing", "is_one"] []
  a_is_plain_saying : Addr
  d_is_plain_saying : FuncData
  f_is_plain_saying : Fun K "is_plain_saying" "is_plain_saying" st_is_plain_saying a_is_plain_saying d_is_plain_saying
  m_is_plain_saying : mg "is_plain_saying" = some (.ref a_is_plain_saying)
  b_is_plain_saying : Binds K d_is_plain_saying ["thing"] []
  a_is_saying : Addr
  d_is_saying : FuncData
  f_is_saying : Fun K "is_saying" "is_saying" st_is_saying a_is_saying d_is_saying
  m_is_saying : mg "is_saying" = some (.ref a_is_saying)
  b_is_saying : Binds K d_is_saying ["thing"] []
  a__law_feed : Addr
  d__law_feed : FuncData
  f__law_feed : Fun K "_law_feed" "_law_feed" st__law_feed a__law_feed d__law_feed
  m__law_feed : mg "_law_feed" = some (.ref a__law_feed)
  b__law_feed : Binds K d__law_feed ["_law_script"] []
  a__law_draw : Addr
  d__law_draw : FuncData
  f__law_draw : Fun K "_law_draw" "_law_draw" st__law_draw a__law_draw d__law_draw
  m__law_draw : mg "_law_draw" = some (.ref a__law_draw)
  b__law_draw : Binds K d__law_draw ["_law_feed_here", "_law_many"] []
  a__law_spoilt : Addr
  d__law_spoilt : FuncData
  f__law_spoilt : Fun K "_law_spoilt" "_law_spoilt" st__law_spoilt a__law_spoilt d__law_spoilt
  m__law_spoilt : mg "_law_spoilt" = some (.ref a__law_spoilt)
  b__law_spoilt : Binds K d__law_spoilt ["_law_feed_here", "_law_thing", "_law_menu"] []
  a__law_is_word : Addr
  d__law_is_word : FuncData
  f__law_is_word : Fun K "_law_is_word" "_law_is_word" st__law_is_word a__law_is_word d__law_is_word
  m__law_is_word : mg "_law_is_word" = some (.ref a__law_is_word)
  b__law_is_word : Binds K d__law_is_word ["_law_thing"] []
  a__law_is_saying : Addr
  d__law_is_saying : FuncData
  f__law_is_saying : Fun K "_law_is_saying" "_law_is_saying" st__law_is_saying a__law_is_saying d__law_is_saying
  m__law_is_saying : mg "_law_is_saying" = some (.ref a__law_is_saying)
  b__law_is_saying : Binds K d__law_is_saying ["_law_thing", "_law_told"] []
  a__law_saying : Addr
  d__law_saying : FuncData
  f__law_saying : Fun K "_law_saying" "_law_saying" st__law_saying a__law_saying d__law_saying
  m__law_saying : mg "_law_saying" = some (.ref a__law_saying)
  b__law_saying : Binds K d__law_saying ["_law_feed_here", "_law_left", "_law_told"] []
  a__law_letters : Addr
  d__law_letters : FuncData
  f__law_letters : Fun K "_law_letters" "_law_letters" st__law_letters a__law_letters d__law_letters
  m__law_letters : mg "_law_letters" = some (.ref a__law_letters)
  b__law_letters : Binds K d__law_letters ["_law_feed_here"] []
  a__law_near : Addr
  d__law_near : FuncData
  f__law_near : Fun K "_law_near" "_law_near" st__law_near a__law_near d__law_near
  m__law_near : mg "_law_near" = some (.ref a__law_near)
  b__law_near : Binds K d__law_near ["_law_s"] []
  a_law : Addr
  d_law : FuncData
  f_law : Fun K "law" "law" st_law a_law d_law
  m_law : mg "law" = some (.ref a_law)
  b_law : Binds K d_law ["_law_script"] []
  n_all : mg "all" = none
  n_isinstance : mg "isinstance" = none
  n_len : mg "len" = none
  n_list : mg "list" = none
  n_range : mg "range" = none
  n_repr : mg "repr" = none
  n_str : mg "str" = none
  n_tuple : mg "tuple" = none
  w_HANDED : V
  u_HANDED : Value
  m_HANDED : mg "HANDED" = some u_HANDED
  v_HANDED : RelV w_HANDED u_HANDED
  r_HANDED : ∀ H m, RelD ⟨K, mg, w⟩ H m c_HANDED w_HANDED
  w_LETTERS : V
  u_LETTERS : Value
  m_LETTERS : mg "LETTERS" = some u_LETTERS
  v_LETTERS : RelV w_LETTERS u_LETTERS
  r_LETTERS : ∀ H m, RelD ⟨K, mg, w⟩ H m c_LETTERS w_LETTERS
  w_LONGEST : V
  u_LONGEST : Value
  m_LONGEST : mg "LONGEST" = some u_LONGEST
  v_LONGEST : RelV w_LONGEST u_LONGEST
  r_LONGEST : ∀ H m, RelD ⟨K, mg, w⟩ H m c_LONGEST w_LONGEST
structure Oks (P : Program) {K : PySem.W.Frag} {mg : Str → Option Value} {w : World} (base : Heap) (T : Tx K mg w) (k : Nat) (g : Nat → Fn) : Prop where
  o0 : FnG P w K mg base CX0 k T.a_is_word T.d_is_word ["thing"] (spD ⟨K, mg, w⟩ (["thing"] : List Str).length (g 0))
  o1 : FnG P w K mg base CX0 k T.a_are_sayings T.d_are_sayings ["thing", "is_one"] (spD ⟨K, mg, w⟩ (["thing", "is_one"] : List Str).length (g 1))
  o2 : FnG P w K mg base CX0 k T.a_is_made T.d_is_made ["thing", "is_one"] (spD ⟨K, mg, w⟩ (["thing", "is_one"] : List Str).length (g 2))
  o3 : FnG P w K mg base CX0 k T.a_is_plain_saying T.d_is_plain_saying ["thing"] (spD ⟨K, mg, w⟩ (["thing"] : List Str).length (g 3))
  o4 : FnG P w K mg base CX0 k T.a_is_saying T.d_is_saying ["thing"] (spD ⟨K, mg, w⟩ (["thing"] : List Str).length (g 4))
  o5 : FnG P w K mg base CX0 k T.a__law_feed T.d__law_feed ["_law_script"] (spD ⟨K, mg, w⟩ (["_law_script"] : List Str).length (g 5))
  o6 : FnG P w K mg base CX0 k T.a__law_draw T.d__law_draw ["_law_feed_here", "_law_many"] (spD ⟨K, mg, w⟩ (["_law_feed_here", "_law_many"] : List Str).length (g 6))
  o7 : FnG P w K mg base CX0 k T.a__law_spoilt T.d__law_spoilt ["_law_feed_here", "_law_thing", "_law_menu"] (spD ⟨K, mg, w⟩ (["_law_feed_here", "_law_thing", "_law_menu"] : List Str).length (g 7))
  o8 : FnG P w K mg base CX0 k T.a__law_is_word T.d__law_is_word ["_law_thing"] (spD ⟨K, mg, w⟩ (["_law_thing"] : List Str).length (g 8))
  o9 : FnG P w K mg base CX0 k T.a__law_is_saying T.d__law_is_saying ["_law_thing", "_law_told"] (spD ⟨K, mg, w⟩ (["_law_thing", "_law_told"] : List Str).length (g 9))
  o10 : FnG P w K mg base CX0 k T.a__law_saying T.d__law_saying ["_law_feed_here", "_law_left", "_law_told"] (spD ⟨K, mg, w⟩ (["_law_feed_here", "_law_left", "_law_told"] : List Str).length (g 10))
  o11 : FnG P w K mg base CX0 k T.a__law_letters T.d__law_letters ["_law_feed_here"] (spD ⟨K, mg, w⟩ (["_law_feed_here"] : List Str).length (g 11))
  o12 : FnG P w K mg base CX0 k T.a__law_near T.d__law_near ["_law_s"] (spD ⟨K, mg, w⟩ (["_law_s"] : List Str).length (g 12))
  o13 : FnG P w K mg base CX0 k T.a_law T.d_law ["_law_script"] (spD ⟨K, mg, w⟩ (["_law_script"] : List Str).length (g 13))
section
variable {P : Program} {w : World} {K : PySem.W.Frag} {mg : Str → Option Value} {base : Heap} {k : Nat} {g : Nat → Fn}
theorem ok_is_word (T : Tx K mg w) (O : Oks P base T k g) : FnG P w K mg base CX0 (k + 1) T.a_is_word T.d_is_word ["thing"] (spD ⟨K, mg, w⟩ (["thing"] : List Str).length (B_is_word g)) := by
  refine fnG_of T.f_is_word sc_is_word fun cdv A outer s H E hr => ?_
  exact (mb_cons (ms_if (mt_w (mw_or (mt_not (mt_tru (me_isi (T := .str) (by rfl) T.n_isinstance (by decide +kernel) (me_var 0) (by rfl) T.n_str (by decide +kernel)))) (mw_or1 (mt_not (mt_chain od_le od_le me_int (me_callB cd_len (by rfl) T.n_len (by decide +kernel) (ma_cons (me_var 0) ma_nil)) (me_glob (T.r_LONGEST) (by rfl) T.m_LONGEST T.v_LONGEST)))))) (mb_one (ms_ret me_bl)) mb_nil) (mb_one (ms_ret (me_callB (cd_all rfl) (by rfl) T.n_all (by decide +kernel) (ma_cons (me_lc (own := [("sign", 1)]) rfl sc_is_word.nd (mi_seq (me_var 0)) (blkOk_by (own := [("sign", 1)]) (N := N_is_word) (sc := defScope st_is_word) (by decide +kernel)) (fun _ _ _ _ _ => (mg_name (i := 1) sc_is_word.nd rfl (.inl rfl) (fun _ z => by cases z; decide))) (fun _ _ _ _ _ => mts_nil) (fun _ _ _ _ _ => (me_cmp (oe_in hr.u65) (me_var 1) (me_glob (T.r_LETTERS) (by rfl) T.m_LETTERS T.v_LETTERS) (by rfl)))) ma_nil)))))
theorem ok_are_sayings (T : Tx K mg w) (O : Oks P base T k g) : FnG P w K mg base CX0 (k + 1) T.a_are_sayings T.d_are_sayings ["thing", "is_one"] (spD ⟨K, mg, w⟩ (["thing", "is_one"] : List Str).length (B_are_sayings g)) := by
  refine fnG_of T.f_are_sayings sc_are_sayings fun cdv A outer s H E hr => ?_
  exact (mb_one (ms_ret (me_and (me_isi (T := .tuple) (by rfl) T.n_isinstance (by decide +kernel) (me_var 0) (by rfl) T.n_tuple (by decide +kernel)) (me_one (me_callB (cd_all rfl) (by rfl) T.n_all (by decide +kernel) (ma_cons (me_lc (own := [("one", 2)]) rfl sc_are_sayings.nd (mi_seq (me_var 0)) (blkOk_by (own := [("one", 2)]) (N := N_are_sayings) (sc := defScope st_are_sayings) (by decide +kernel)) (fun _ _ _ _ _ => (mg_name (i := 2) sc_are_sayings.nd rfl (.inl rfl) (fun _ z => by cases z; decide))) (fun _ _ _ _ _ => mts_nil) (fun _ _ _ _ _ => (me_callV (i := 1) (hv_cons O.o3 T.m_is_plain_saying T.f_is_plain_saying.kp T.b_is_plain_saying rfl (hv_cons O.o4 T.m_is_saying T.f_is_saying.kp T.b_is_saying rfl hv_nil)) hr (by rfl) (ma_cons (me_var 2) ma_nil) (len_cons len_nil)))) ma_nil))))))
theorem ok_is_made (T : Tx K mg w) (O : Oks P base T k g) : FnG P w K mg base CX0 (k + 1) T.a_is_made T.d_is_made ["thing", "is_one"] (spD ⟨K, mg, w⟩ (["thing", "is_one"] : List Str).length (B_is_made g)) := by
  refine fnG_of T.f_is_made sc_is_made fun cdv A outer s H E hr => ?_
  exact (mb_cons (ms_if (mt_w (mw_or (mt_not (mt_tru (me_isi (T := .tuple) (by rfl) T.n_isinstance (by decide +kernel) (me_var 0) (by rfl) T.n_tuple (by decide +kernel)))) (mw_or (mt_cmp od_lt (me_callB cd_len (by rfl) T.n_len (by decide +kernel) (ma_cons (me_var 0) ma_nil)) me_int (nomark _)) (mw_or1 (mt_not (mt_tru (me_isi (T := .str) (by rfl) T.n_isinstance (by decide +kernel) (me_ix (ie_ix hr.u1) (me_var 0) me_int (fun _ _ => rfl)) (by rfl) T.n_str (by decide +kernel)))))))) (mb_one (ms_ret me_bl)) mb_nil) (mb_cons (ms_asg (me_var 0) (mg_star (k := 2) rfl (mgs_cons (mg_name (i := 2) sc_is_made.nd rfl (.inl rfl) (fun _ z => nomatch z)) (mgs_cons (mg_name (i := 3) sc_is_made.nd rfl (.inl rfl) (fun _ z => nomatch z)) (mgs_star (mg_name (i := 4) sc_is_made.nd rfl (.inl rfl) (fun _ z => nomatch z)) mgs_nil))))) (mb_cons (ms_if (mt_cmp (oe_in hr.u65) (me_var 2) (me_glob (T.r_HANDED) (by rfl) T.m_HANDED T.v_HANDED) (by rfl)) (mb_one (ms_ret (me_and (me_cmp (od_eq hr.u64) (me_callB cd_len (by rfl) T.n_len (by decide +kernel) (ma_cons (me_var 4) ma_nil)) me_int (nomark _)) (me_and (me_call O.o0 hr (by rfl) T.m_is_word T.f_is_word.kp T.b_is_word rfl (ma_cons (me_var 3) ma_nil) (len_cons len_nil)) (me_one (me_callV (i := 1) (hv_cons O.o3 T.m_is_plain_saying T.f_is_plain_saying.kp T.b_is_plain_saying rfl (hv_cons O.o4 T.m_is_saying T.f_is_saying.kp T.b_is_saying rfl hv_nil)) hr (by rfl) (ma_cons (me_ix (ie_ix hr.u1) (me_var 4) me_int (fun _ _ => rfl)) ma_nil) (len_cons len_nil))))))) mb_nil) (mb_cons (ms_if (mt_cmp (od_eq hr.u64) (me_var 2) me_str (nomark _)) (mb_one (ms_ret (me_and (me_cmp (od_eq hr.u64) (me_callB cd_len (by rfl) T.n_len (by decide +kernel) (ma_cons (me_var 4) ma_nil)) me_int (nomark _)) (me_and (me_callV (i := 1) (hv_cons O.o3 T.m_is_plain_saying T.f_is_plain_saying.kp T.b_is_plain_saying rfl (hv_cons O.o4 T.m_is_saying T.f_is_saying.kp T.b_is_saying rfl hv_nil)) hr (by rfl) (ma_cons (me_var 3) ma_nil) (len_cons len_nil)) (me_one (me_callV (i := 1) (hv_cons O.o3 T.m_is_plain_saying T.f_is_plain_saying.kp T.b_is_plain_saying rfl (hv_cons O.o4 T.m_is_saying T.f_is_saying.kp T.b_is_saying rfl hv_nil)) hr (by rfl) (ma_cons (me_ix (ie_ix hr.u1) (me_var 4) me_int (fun _ _ => rfl)) ma_nil) (len_cons len_nil))))))) mb_nil) (mb_cons (ms_if (mt_cmp (od_ne hr.u64) (me_var 4) (me_lst ma_nil) (nomark _)) (mb_one (ms_ret me_bl)) mb_nil) (mb_cons (ms_if (mt_cmp (od_eq hr.u64) (me_var 2) me_str (nomark _)) (mb_one (ms_ret (me_call O.o0 hr (by rfl) T.m_is_word T.f_is_word.kp T.b_is_word rfl (ma_cons (me_var 3) ma_nil) (len_cons len_nil)))) mb_nil) (mb_one (ms_ret (me_or (me_and (me_cmp (od_eq hr.u64) (me_var 2) me_str (nomark _)) (me_one (me_callV (i := 1) (hv_cons O.o3 T.m_is_plain_saying T.f_is_plain_saying.kp T.b_is_plain_saying rfl (hv_cons O.o4 T.m_is_saying T.f_is_saying.kp T.b_is_saying rfl hv_nil)) hr (by rfl) (ma_cons (me_var 3) ma_nil) (len_cons len_nil)))) (me_one (me_and (me_cmp (oe_in hr.u65) (me_var 2) (me_tup (ma_cons me_str (ma_cons me_str ma_nil))) (by rfl)) (me_one (me_call O.o1 hr (by rfl) T.m_are_sayings T.f_are_sayings.kp T.b_are_sayings rfl (ma_cons (me_var 3) (ma_cons (me_var 1) ma_nil)) (len_cons (len_cons len_nil)))))))))))))))
theorem ok_is_plain_saying (T : Tx K mg w) (O : Oks P base T k g) : FnG P w K mg base CX0 (k + 1) T.a_is_plain_saying T.d_is_plain_saying ["thing"] (spD ⟨K, mg, w⟩ (["thing"] : List Str).length (B_is_plain_saying g)) := by
  refine fnG_of T.f_is_plain_saying sc_is_plain_saying fun cdv A outer s H E hr => ?_
  exact (mb_one (ms_ret (me_call O.o2 hr (by rfl) T.m_is_made T.f_is_made.kp T.b_is_made rfl (ma_cons (me_var 0) (ma_cons (me_glob (fun _ _ => ⟨_, rfl, T.m_is_plain_saying⟩) (by rfl) T.m_is_plain_saying rfl) ma_nil)) (len_cons (len_cons len_nil)))))
theorem ok_is_saying (T : Tx K mg w) (O : Oks P base T k g) : FnG P w K mg base CX0 (k + 1) T.a_is_saying T.d_is_saying ["thing"] (spD ⟨K, mg, w⟩ (["thing"] : List Str).length (B_is_saying g)) := by
  refine fnG_of T.f_is_saying sc_is_saying fun cdv A outer s H E hr => ?_
  exact (mb_cons (ms_if (mt_w (mw_or (mt_not (mt_tru (me_isi (T := .tuple) (by rfl) T.n_isinstance (by decide +kernel) (me_var 0) (by rfl) T.n_tuple (by decide +kernel)))) (mw_or (mt_cmp (od_ne hr.u64) (me_callB cd_len (by rfl) T.n_len (by decide +kernel) (ma_cons (me_var 0) ma_nil)) me_int (nomark _)) (mw_or (mt_not (mt_tru (me_isi (T := .str) (by rfl) T.n_isinstance (by decide +kernel) (me_ix (ie_ix hr.u1) (me_var 0) me_int (fun _ _ => rfl)) (by rfl) T.n_str (by decide +kernel)))) (mw_or1 (mt_cmp (od_ne hr.u64) (me_ix (ie_ix hr.u1) (me_var 0) me_int (fun _ _ => rfl)) me_str (nomark _))))))) (mb_one (ms_ret (me_call O.o2 hr (by rfl) T.m_is_made T.f_is_made.kp T.b_is_made rfl (ma_cons (me_var 0) (ma_cons (me_glob (fun _ _ => ⟨_, rfl, T.m_is_saying⟩) (by rfl) T.m_is_saying rfl) ma_nil)) (len_cons (len_cons len_nil))))) mb_nil) (mb_one (ms_ret (me_and (me_call O.o4 hr (by rfl) T.m_is_saying T.f_is_saying.kp T.b_is_saying rfl (ma_cons (me_ix (ie_ix hr.u1) (me_var 0) me_int (fun _ _ => rfl)) ma_nil) (len_cons len_nil)) (me_one (me_call O.o4 hr (by rfl) T.m_is_saying T.f_is_saying.kp T.b_is_saying rfl (ma_cons (me_ix (ie_ix hr.u1) (me_var 0) me_int (fun _ _ => rfl)) ma_nil) (len_cons len_nil)))))))
theorem ok__law_feed (T : Tx K mg w) (O : Oks P base T k g) : FnG P w K mg base CX0 (k + 1) T.a__law_feed T.d__law_feed ["_law_script"] (spD ⟨K, mg, w⟩ (["_law_script"] : List Str).length (B__law_feed g)) := by
  refine fnG_of T.f__law_feed sc__law_feed fun cdv A outer s H E hr => ?_
  exact (mb_one (ms_ret (me_lst (ma_cons (me_slice (me_var 0) mo_none (mo_some me_int)) (ma_cons me_int (ma_cons me_int (ma_cons me_int ma_nil)))))))
theorem ok__law_draw (T : Tx K mg w) (O : Oks P base T k g) : FnG P w K mg base CX0 (k + 1) T.a__law_draw T.d__law_draw ["_law_feed_here", "_law_many"] (spD ⟨K, mg, w⟩ (["_law_feed_here", "_law_many"] : List Str).length (B__law_draw g)) := by
  refine fnG_of T.f__law_draw sc__law_draw fun cdv A outer s H E hr => ?_
  exact (mb_cons (ms_asg (me_op od_add (me_ix (ie_ix hr.u1) (me_var 0) me_int (fun _ _ => rfl)) me_int) (mg_sub (me_var 0) me_int)) (mb_cons (ms_if (mt_cmp od_gt (me_ix (ie_ix hr.u1) (me_var 0) me_int (fun _ _ => rfl)) me_int (nomark _)) (mb_cons (ms_set (i := 2) sc__law_draw.nd rfl (.inl rfl) (me_op od_mod (me_ix (ie_ix hr.u1) (me_var 0) me_int (fun _ _ => rfl)) (me_var 1))) (mb_cons (ms_asg (me_op od_fdiv (me_ix (ie_ix hr.u1) (me_var 0) me_int (fun _ _ => rfl)) (me_var 1)) (mg_sub (me_var 0) me_int)) (mb_one (ms_ret (me_var 2))))) mb_nil) (mb_cons (ms_set (i := 3) sc__law_draw.nd rfl (.inl rfl) me_int) (mb_cons (ms_if (mt_cmp (od_ne hr.u64) (me_ix (ie_ix hr.u1) (me_var 0) me_int (fun _ _ => rfl)) (me_lst ma_nil) (nomark _)) (mb_one (ms_set (i := 3) sc__law_draw.nd rfl (.inl rfl) (me_ix (ie_ix hr.u1) (me_ix (ie_ix hr.u1) (me_var 0) me_int (fun _ _ => rfl)) (me_op od_mod (me_ix (ie_ix hr.u1) (me_var 0) me_int (fun _ _ => rfl)) (me_callB cd_len (by rfl) T.n_len (by decide +kernel) (ma_cons (me_ix (ie_ix hr.u1) (me_var 0) me_int (fun _ _ => rfl)) ma_nil))) (fun _ _ => rfl)))) mb_nil) (mb_cons (ms_asg (me_op od_add (me_ix (ie_ix hr.u1) (me_var 0) me_int (fun _ _ => rfl)) me_int) (mg_sub (me_var 0) me_int)) (mb_cons (ms_if (mt_w (mw_and (mt_cmp od_ge (me_var 3) (me_op od_pow me_int me_int) (nomark _)) (mw_and1 (mt_cmp od_le (me_ix (ie_ix hr.u1) (me_var 0) me_int (fun _ _ => rfl)) (me_callB cd_len (by rfl) T.n_len (by decide +kernel) (ma_cons (me_ix (ie_ix hr.u1) (me_var 0) me_int (fun _ _ => rfl)) ma_nil)) (nomark _))))) (mb_cons (ms_asg (me_op od_fdiv (me_var 3) (me_var 1)) (mg_sub (me_var 0) me_int)) (mb_one (ms_ret (me_op od_mod (me_var 3) (me_var 1))))) mb_nil) (mb_cons (ms_set (i := 4) sc__law_draw.nd rfl (.inl rfl) (me_op od_mod (me_op od_pow (me_op od_add (me_op od_add (me_op od_mod (me_var 3) me_int) (me_op od_mul me_int (me_ix (ie_ix hr.u1) (me_var 0) me_int (fun _ _ => rfl)))) me_int) me_int) me_int)) (mb_one (ms_ret (me_op od_mod (me_op od_fdiv (me_op od_mod (me_op od_pow (me_op od_add (me_var 4) (me_op od_mul me_int (me_ix (ie_ix hr.u1) (me_var 0) me_int (fun _ _ => rfl)))) me_int) me_int) me_int) (me_var 1)))))))))))
theorem ok__law_spoilt (T : Tx K mg w) (O : Oks P base T k g) : FnG P w K mg base CX0 (k + 1) T.a__law_spoilt T.d__law_spoilt ["_law_feed_here", "_law_thing", "_law_menu"] (spD ⟨K, mg, w⟩ (["_law_feed_here", "_law_thing", "_law_menu"] : List Str).length (B__law_spoilt g)) := by
  refine fnG_of T.f__law_spoilt sc__law_spoilt fun cdv A outer s H E hr => ?_
  exact (mb_cons (ms_set (i := 3) sc__law_spoilt.nd rfl (.inl rfl) (me_call O.o6 hr (by rfl) T.m__law_draw T.f__law_draw.kp T.b__law_draw rfl (ma_cons (me_var 0) (ma_cons me_int ma_nil)) (len_cons (len_cons len_nil)))) (mb_cons (ms_if (mt_w (mw_or (mt_not (mt_tru (me_isi (T := .tuple) (by rfl) T.n_isinstance (by decide +kernel) (me_var 1) (by rfl) T.n_tuple (by decide +kernel)))) (mw_or (mt_cmp (od_eq hr.u64) (me_var 1) (me_tup ma_nil) (nomark _)) (mw_or1 (mt_cmp (od_eq hr.u64) (me_var 3) me_int (nomark _)))))) (mb_one (ms_ret (me_ix (ie_ix hr.u1) (me_var 2) (me_call O.o6 hr (by rfl) T.m__law_draw T.f__law_draw.kp T.b__law_draw rfl (ma_cons (me_var 0) (ma_cons (me_callB cd_len (by rfl) T.n_len (by decide +kernel) (ma_cons (me_var 2) ma_nil)) ma_nil)) (len_cons (len_cons len_nil))) (fun _ _ => rfl)))) mb_nil) (mb_cons (ms_set (i := 4) sc__law_spoilt.nd rfl (.inl rfl) (me_call O.o6 hr (by rfl) T.m__law_draw T.f__law_draw.kp T.b__law_draw rfl (ma_cons (me_var 0) (ma_cons (me_callB cd_len (by rfl) T.n_len (by decide +kernel) (ma_cons (me_var 1) ma_nil)) ma_nil)) (len_cons (len_cons len_nil)))) (mb_cons (ms_if (mt_cmp (od_eq hr.u64) (me_var 3) me_int (nomark _)) (mb_one (ms_ret (me_op od_add (me_slice (me_var 1) mo_none (mo_some (me_var 4))) (me_slice (me_var 1) (mo_some (me_op od_add (me_var 4) me_int)) mo_none)))) mb_nil) (mb_cons (ms_if (mt_cmp (od_eq hr.u64) (me_var 3) me_int (nomark _)) (mb_one (ms_ret (me_op od_add (me_op od_add (me_slice (me_var 1) mo_none (mo_some (me_var 4))) (me_slice (me_var 1) (mo_some (me_var 4)) (mo_some (me_op od_add (me_var 4) me_int)))) (me_slice (me_var 1) (mo_some (me_var 4)) mo_none)))) mb_nil) (mb_cons (ms_if (mt_cmp (od_eq hr.u64) (me_var 3) me_int (nomark _)) (mb_one (ms_ret (me_op od_add (me_op od_add (me_slice (me_var 1) mo_none (mo_some (me_var 4))) (me_tup (ma_cons (me_ix (ie_ix hr.u1) (me_var 2) (me_call O.o6 hr (by rfl) T.m__law_draw T.f__law_draw.kp T.b__law_draw rfl (ma_cons (me_var 0) (ma_cons (me_callB cd_len (by rfl) T.n_len (by decide +kernel) (ma_cons (me_var 2) ma_nil)) ma_nil)) (len_cons (len_cons len_nil))) (fun _ _ => rfl)) ma_nil))) (me_slice (me_var 1) (mo_some (me_var 4)) mo_none)))) mb_nil) (mb_cons (ms_if (mt_cmp (od_eq hr.u64) (me_var 3) me_int (nomark _)) (mb_cons (ms_par (i := 5) (j := 6) rfl sc__law_spoilt.nd rfl rfl (by decide) rfl rfl (ma_cons (me_call O.o6 hr (by rfl) T.m__law_draw T.f__law_draw.kp T.b__law_draw rfl (ma_cons (me_var 0) (ma_cons (me_callB cd_len (by rfl) T.n_len (by decide +kernel) (ma_cons (me_var 1) ma_nil)) ma_nil)) (len_cons (len_cons len_nil))) (ma_cons (me_callTy cd_list (by rfl) T.n_list (by decide +kernel) (ma_cons (me_var 1) ma_nil)) ma_nil))) (mb_cons (ms_asg (me_tup (ma_cons (me_ix (ie_ix hr.u1) (me_var 1) (me_var 5) (fun _ _ => rfl)) (ma_cons (me_ix (ie_ix hr.u1) (me_var 1) (me_var 4) (fun _ _ => rfl)) ma_nil))) (mg_tup (n := 2) rfl (mgs_cons (mg_sub (me_var 6) (me_var 4)) (mgs_cons (mg_sub (me_var 6) (me_var 5)) mgs_nil)))) (mb_one (ms_ret (me_callTy cd_tuple (by rfl) T.n_tuple (by decide +kernel) (ma_cons (me_var 6) ma_nil)))))) mb_nil) (mb_cons (ms_if (mt_cmp (od_eq hr.u64) (me_var 3) me_int (nomark _)) (mb_one (ms_ret (me_callTy cd_list (by rfl) T.n_list (by decide +kernel) (ma_cons (me_var 1) ma_nil)))) mb_nil) (mb_one (ms_ret (me_op od_add (me_op od_add (me_slice (me_var 1) mo_none (mo_some (me_var 4))) (me_tup (ma_cons (me_call O.o7 hr (by rfl) T.m__law_spoilt T.f__law_spoilt.kp T.b__law_spoilt rfl (ma_cons (me_var 0) (ma_cons (me_ix (ie_ix hr.u1) (me_var 1) (me_var 4) (fun _ _ => rfl)) (ma_cons (me_var 2) ma_nil))) (len_cons (len_cons (len_cons len_nil)))) ma_nil))) (me_slice (me_var 1) (mo_some (me_op od_add (me_var 4) me_int)) mo_none))))))))))))
theorem ok__law_is_word (T : Tx K mg w) (O : Oks P base T k g) : FnG P w K mg base CX0 (k + 1) T.a__law_is_word T.d__law_is_word ["_law_thing"] (spD ⟨K, mg, w⟩ (["_law_thing"] : List Str).length (B__law_is_word g)) := by
  refine fnG_of T.f__law_is_word sc__law_is_word fun cdv A outer s H E hr => ?_
  exact (mb_one (ms_ret (me_and (me_isi (T := .str) (by rfl) T.n_isinstance (by decide +kernel) (me_var 0) (by rfl) T.n_str (by decide +kernel)) (me_and (me_chain od_lt od_lt me_int (me_callB cd_len (by rfl) T.n_len (by decide +kernel) (ma_cons (me_var 0) ma_nil)) me_int) (me_one (me_cmp (od_eq hr.u64) (me_lc (own := [("_law_s", 1)]) rfl sc__law_is_word.nd (mi_seq (me_var 0)) (blkOk_by (own := [("_law_s", 1)]) (N := N__law_is_word) (sc := defScope st__law_is_word) (by decide +kernel)) (fun _ _ _ _ _ => (mg_name (i := 1) sc__law_is_word.nd rfl (.inl rfl) (fun _ z => by cases z; decide))) (fun _ _ _ _ _ => (mts_one (mt_not (mt_chain od_le od_le me_str (me_var 1) me_str)))) (fun _ _ _ _ _ => (me_var 1))) (me_lst ma_nil) (nomark _)))))))
theorem ok__law_is_saying (T : Tx K mg w) (O : Oks P base T k g) : FnG P w K mg base CX0 (k + 1) T.a__law_is_saying T.d__law_is_saying ["_law_thing", "_law_told"] (spD ⟨K, mg, w⟩ (["_law_thing", "_law_told"] : List Str).length (B__law_is_saying g)) := by
  refine fnG_of T.f__law_is_saying sc__law_is_saying fun cdv A outer s H E hr => ?_
  exact (mb_cons (ms_if (mt_w (mw_or (mt_not (mt_tru (me_isi (T := .tuple) (by rfl) T.n_isinstance (by decide +kernel) (me_var 0) (by rfl) T.n_tuple (by decide +kernel)))) (mw_or (mt_cmp od_lt (me_callB cd_len (by rfl) T.n_len (by decide +kernel) (ma_cons (me_var 0) ma_nil)) me_int (nomark _)) (mw_or1 (mt_not (mt_tru (me_isi (T := .str) (by rfl) T.n_isinstance (by decide +kernel) (me_ix (ie_ix hr.u1) (me_var 0) me_int (fun _ _ => rfl)) (by rfl) T.n_str (by decide +kernel)))))))) (mb_one (ms_ret me_bl)) mb_nil) (mb_cons (ms_set (i := 2) sc__law_is_saying.nd rfl (.inl rfl) (me_ix (ie_ix hr.u1) (me_var 0) me_int (fun _ _ => rfl))) (mb_cons (ms_if (mt_cmp (od_eq hr.u64) (me_var 2) me_str (nomark _)) (mb_one (ms_ret (me_and (me_cmp (od_eq hr.u64) (me_callB cd_len (by rfl) T.n_len (by decide +kernel) (ma_cons (me_var 0) ma_nil)) me_int (nomark _)) (me_one (me_call O.o8 hr (by rfl) T.m__law_is_word T.f__law_is_word.kp T.b__law_is_word rfl (ma_cons (me_ix (ie_ix hr.u1) (me_var 0) me_int (fun _ _ => rfl)) ma_nil) (len_cons len_nil)))))) mb_nil) (mb_cons (ms_if (mt_cmp (od_eq hr.u64) (me_var 2) me_str (nomark _)) (mb_one (ms_ret (me_and (me_cmp (od_eq hr.u64) (me_callB cd_len (by rfl) T.n_len (by decide +kernel) (ma_cons (me_var 0) ma_nil)) me_int (nomark _)) (me_one (me_call O.o9 hr (by rfl) T.m__law_is_saying T.f__law_is_saying.kp T.b__law_is_saying rfl (ma_cons (me_ix (ie_ix hr.u1) (me_var 0) me_int (fun _ _ => rfl)) (ma_cons (me_var 1) ma_nil)) (len_cons (len_cons len_nil))))))) mb_nil) (mb_cons (ms_if (mt_cmp (oe_in hr.u65) (me_var 2) (me_tup (ma_cons me_str (ma_cons me_str ma_nil))) (by rfl)) (mb_cons (ms_if (mt_w (mw_or (mt_cmp (od_ne hr.u64) (me_callB cd_len (by rfl) T.n_len (by decide +kernel) (ma_cons (me_var 0) ma_nil)) me_int (nomark _)) (mw_or1 (mt_not (mt_tru (me_isi (T := .tuple) (by rfl) T.n_isinstance (by decide +kernel) (me_ix (ie_ix hr.u1) (me_var 0) me_int (fun _ _ => rfl)) (by rfl) T.n_tuple (by decide +kernel))))))) (mb_one (ms_ret me_bl)) mb_nil) (mb_one (ms_ret (me_cmp (od_eq hr.u64) (me_lc (own := [("_law_one", 3)]) rfl sc__law_is_saying.nd (mi_seq (me_ix (ie_ix hr.u1) (me_var 0) me_int (fun _ _ => rfl))) (blkOk_by (own := [("_law_one", 3)]) (N := N__law_is_saying) (sc := defScope st__law_is_saying) (by decide +kernel)) (fun _ _ _ _ _ => (mg_name (i := 3) sc__law_is_saying.nd rfl (.inl rfl) (fun _ z => by cases z; decide))) (fun _ _ _ _ _ => (mts_one (mt_not (mt_tru (me_call O.o9 hr (by rfl) T.m__law_is_saying T.f__law_is_saying.kp T.b__law_is_saying rfl (ma_cons (me_var 3) (ma_cons (me_var 1) ma_nil)) (len_cons (len_cons len_nil))))))) (fun _ _ _ _ _ => (me_var 3))) (me_lst ma_nil) (nomark _))))) mb_nil) (mb_cons (ms_if (mt_cmp (od_ne hr.u64) (me_callB cd_len (by rfl) T.n_len (by decide +kernel) (ma_cons (me_var 0) ma_nil)) me_int (nomark _)) (mb_one (ms_ret me_bl)) mb_nil) (mb_cons (ms_if (mt_cmp (oe_in hr.u65) (me_var 2) (me_tup (ma_cons me_str (ma_cons me_str ma_nil))) (by rfl)) (mb_one (ms_ret (me_and (me_call O.o8 hr (by rfl) T.m__law_is_word T.f__law_is_word.kp T.b__law_is_word rfl (ma_cons (me_ix (ie_ix hr.u1) (me_var 0) me_int (fun _ _ => rfl)) ma_nil) (len_cons len_nil)) (me_one (me_call O.o9 hr (by rfl) T.m__law_is_saying T.f__law_is_saying.kp T.b__law_is_saying rfl (ma_cons (me_ix (ie_ix hr.u1) (me_var 0) me_int (fun _ _ => rfl)) (ma_cons (me_var 1) ma_nil)) (len_cons (len_cons len_nil))))))) mb_nil) (mb_cons (ms_if (mt_w (mw_or (mt_cmp (od_eq hr.u64) (me_var 2) me_str (nomark _)) (mw_or1 (mt_w (mw_and (mt_cmp (od_eq hr.u64) (me_var 2) me_str (nomark _)) (mw_and1 (mt_tru (me_var 1)))))))) (mb_one (ms_ret (me_and (me_call O.o9 hr (by rfl) T.m__law_is_saying T.f__law_is_saying.kp T.b__law_is_saying rfl (ma_cons (me_ix (ie_ix hr.u1) (me_var 0) me_int (fun _ _ => rfl)) (ma_cons (me_var 1) ma_nil)) (len_cons (len_cons len_nil))) (me_one (me_call O.o9 hr (by rfl) T.m__law_is_saying T.f__law_is_saying.kp T.b__law_is_saying rfl (ma_cons (me_ix (ie_ix hr.u1) (me_var 0) me_int (fun _ _ => rfl)) (ma_cons (me_var 1) ma_nil)) (len_cons (len_cons len_nil))))))) mb_nil) (mb_one (ms_ret me_bl))))))))))
theorem ok__law_saying (T : Tx K mg w) (O : Oks P base T k g) : FnG P w K mg base CX0 (k + 1) T.a__law_saying T.d__law_saying ["_law_feed_here", "_law_left", "_law_told"] (spD ⟨K, mg, w⟩ (["_law_feed_here", "_law_left", "_law_told"] : List Str).length (B__law_saying g)) := by
  refine fnG_of T.f__law_saying sc__law_saying fun cdv A outer s H E hr => ?_
  exact (mb_cons (ms_asg (me_op od_sub (me_ix (ie_ix hr.u1) (me_var 1) me_int (fun _ _ => rfl)) me_int) (mg_sub (me_var 1) me_int)) (mb_cons (ms_set (i := 3) sc__law_saying.nd rfl (.inl rfl) (me_call O.o6 hr (by rfl) T.m__law_draw T.f__law_draw.kp T.b__law_draw rfl (ma_cons (me_var 0) (ma_cons me_int ma_nil)) (len_cons (len_cons len_nil)))) (mb_cons (ms_if (mt_w (mw_or (mt_cmp od_lt (me_var 3) me_int (nomark _)) (mw_or1 (mt_cmp od_lt (me_ix (ie_ix hr.u1) (me_var 1) me_int (fun _ _ => rfl)) me_int (nomark _))))) (mb_one (ms_ret (me_tup (ma_cons me_str (ma_cons (me_ix (ie_ix hr.u1) (me_lst (ma_cons me_str (ma_cons me_str (ma_cons me_str ma_nil)))) (me_call O.o6 hr (by rfl) T.m__law_draw T.f__law_draw.kp T.b__law_draw rfl (ma_cons (me_var 0) (ma_cons me_int ma_nil)) (len_cons (len_cons len_nil))) (fun _ _ => rfl)) ma_nil))))) mb_nil) (mb_cons (ms_if (mt_cmp (oe_in hr.u65) (me_var 3) (me_tup (ma_cons me_int (ma_cons me_int ma_nil))) (by rfl)) (mb_one (ms_ret (me_tup (ma_cons me_str (ma_cons (me_call O.o10 hr (by rfl) T.m__law_saying T.f__law_saying.kp T.b__law_saying rfl (ma_cons (me_var 0) (ma_cons (me_var 1) (ma_cons (me_var 2) ma_nil))) (len_cons (len_cons (len_cons len_nil)))) ma_nil))))) mb_nil) (mb_cons (ms_if (mt_cmp od_lt (me_var 3) me_int (nomark _)) (mb_cons (ms_set (i := 4) sc__law_saying.nd rfl (.inl rfl) (me_ix (ie_ix hr.u1) (me_lst (ma_cons me_int (ma_cons me_int (ma_cons me_int (ma_cons me_int (ma_cons me_int ma_nil)))))) (me_call O.o6 hr (by rfl) T.m__law_draw T.f__law_draw.kp T.b__law_draw rfl (ma_cons (me_var 0) (ma_cons me_int ma_nil)) (len_cons (len_cons len_nil))) (fun _ _ => rfl))) (mb_cons (ms_setLc (i := 5) (own := [("_law_k", 7)]) rfl sc__law_saying.nd rfl rfl (sw_true rfl rfl rfl (by decide +kernel)) (mi_range1 (by rfl) T.n_range (ma_cons (me_var 4) ma_nil)) (blkOk_by (own := [("_law_k", 7)]) (N := N__law_saying) (sc := defScope st__law_saying) (by decide +kernel)) (fun _ _ _ _ _ => (mg_name (i := 7) sc__law_saying.nd rfl (.inl rfl) (fun _ z => by cases z; decide))) (fun _ _ _ _ _ => (mts_one (mt_cmp od_gt (me_ix (ie_ix hr.u1) (me_var 1) me_int (fun _ _ => rfl)) me_int (nomark _)))) (fun _ _ _ _ _ => (me_call O.o10 hr (by rfl) T.m__law_saying T.f__law_saying.kp T.b__law_saying rfl (ma_cons (me_var 0) (ma_cons (me_var 1) (ma_cons (me_var 2) ma_nil))) (len_cons (len_cons (len_cons len_nil)))))) (mb_one (ms_ret (me_tup (ma_cons (me_ix (ie_ix hr.u1) (me_lst (ma_cons me_str (ma_cons me_str ma_nil))) (me_op od_mod (me_var 3) me_int) (fun _ _ => rfl)) (ma_cons (me_callTy cd_tuple (by rfl) T.n_tuple (by decide +kernel) (ma_cons (me_var 5) ma_nil)) ma_nil))))))) mb_nil) (mb_cons (ms_if (mt_w (mw_or (mt_cmp (oe_in hr.u65) (me_var 3) (me_tup (ma_cons me_int (ma_cons me_int ma_nil))) (by rfl)) (mw_or1 (mt_w (mw_and (mt_cmp (od_eq hr.u64) (me_var 3) me_int (nomark _)) (mw_and1 (mt_not (mt_tru (me_var 2))))))))) (mb_one (ms_ret (me_tup (ma_cons me_str (ma_cons (me_call O.o10 hr (by rfl) T.m__law_saying T.f__law_saying.kp T.b__law_saying rfl (ma_cons (me_var 0) (ma_cons (me_var 1) (ma_cons (me_var 2) ma_nil))) (len_cons (len_cons (len_cons len_nil)))) (ma_cons (me_call O.o10 hr (by rfl) T.m__law_saying T.f__law_saying.kp T.b__law_saying rfl (ma_cons (me_var 0) (ma_cons (me_var 1) (ma_cons (me_var 2) ma_nil))) (len_cons (len_cons (len_cons len_nil)))) ma_nil)))))) mb_nil) (mb_cons (ms_if (mt_cmp (od_eq hr.u64) (me_var 3) me_int (nomark _)) (mb_one (ms_ret (me_tup (ma_cons me_str (ma_cons (me_call O.o10 hr (by rfl) T.m__law_saying T.f__law_saying.kp T.b__law_saying rfl (ma_cons (me_var 0) (ma_cons (me_var 1) (ma_cons (me_var 2) ma_nil))) (len_cons (len_cons (len_cons len_nil)))) (ma_cons (me_call O.o10 hr (by rfl) T.m__law_saying T.f__law_saying.kp T.b__law_saying rfl (ma_cons (me_var 0) (ma_cons (me_var 1) (ma_cons (me_var 2) ma_nil))) (len_cons (len_cons (len_cons len_nil)))) ma_nil)))))) mb_nil) (mb_cons (ms_set (i := 6) sc__law_saying.nd rfl (.inl rfl) (me_ix (ie_ix hr.u1) (me_lst (ma_cons me_str (ma_cons me_str ma_nil))) (me_call O.o6 hr (by rfl) T.m__law_draw T.f__law_draw.kp T.b__law_draw rfl (ma_cons (me_var 0) (ma_cons me_int ma_nil)) (len_cons (len_cons len_nil))) (fun _ _ => rfl))) (mb_one (ms_ret (me_tup (ma_cons (me_ix (ie_ix hr.u1) (me_lst (ma_cons me_str (ma_cons me_str ma_nil))) (me_op od_mod (me_var 3) me_int) (fun _ _ => rfl)) (ma_cons (me_var 6) (ma_cons (me_call O.o10 hr (by rfl) T.m__law_saying T.f__law_saying.kp T.b__law_saying rfl (ma_cons (me_var 0) (ma_cons (me_var 1) (ma_cons (me_var 2) ma_nil))) (len_cons (len_cons (len_cons len_nil)))) ma_nil))))))))))))))
theorem ok__law_letters (T : Tx K mg w) (O : Oks P base T k g) : FnG P w K mg base CX0 (k + 1) T.a__law_letters T.d__law_letters ["_law_feed_here"] (spD ⟨K, mg, w⟩ (["_law_feed_here"] : List Str).length (B__law_letters g)) := by
  refine fnG_of T.f__law_letters sc__law_letters fun cdv A outer s H E hr => ?_
  exact (mb_cons (ms_set (i := 1) sc__law_letters.nd rfl (.inr rfl) (me_op od_add me_str (me_ix (ie_ix hr.u1) (me_lst (ma_cons me_str (ma_cons me_str (ma_cons me_str (ma_cons me_str (ma_cons me_str (ma_cons me_str (ma_cons me_str (ma_cons me_str ma_nil))))))))) (me_call O.o6 hr (by rfl) T.m__law_draw T.f__law_draw.kp T.b__law_draw rfl (ma_cons (me_var 0) (ma_cons me_int ma_nil)) (len_cons (len_cons len_nil))) (fun _ _ => rfl)))) (mb_cons (ms_set (i := 2) sc__law_letters.nd rfl (.inl rfl) (me_call O.o6 hr (by rfl) T.m__law_draw T.f__law_draw.kp T.b__law_draw rfl (ma_cons (me_var 0) (ma_cons me_int ma_nil)) (len_cons (len_cons len_nil)))) (mb_one (ms_ret (me_join me_str (me_lc (own := [("_law_k", 3)]) rfl sc__law_letters.nd (mi_range1 (by rfl) T.n_range (ma_cons (me_var 2) ma_nil)) (blkOk_by (own := [("_law_k", 3)]) (N := N__law_letters) (sc := defScope st__law_letters) (by decide +kernel)) (fun _ _ _ _ _ => (mg_name (i := 3) sc__law_letters.nd rfl (.inl rfl) (fun _ z => by cases z; decide))) (fun _ _ _ _ _ => mts_nil) (fun _ _ _ _ _ => (me_ix (ie_ix hr.u1) (me_var 1) (me_call O.o6 hr (by rfl) T.m__law_draw T.f__law_draw.kp T.b__law_draw rfl (ma_cons (me_var 0) (ma_cons me_int ma_nil)) (len_cons (len_cons len_nil))) (fun _ _ => rfl)))))))))
theorem ok__law_near (T : Tx K mg w) (O : Oks P base T k g) : FnG P w K mg base CX0 (k + 1) T.a__law_near T.d__law_near ["_law_s"] (spD ⟨K, mg, w⟩ (["_law_s"] : List Str).length (B__law_near g)) := by
  refine fnG_of T.f__law_near sc__law_near fun cdv A outer s H E hr => ?_
  exact (mb_cons (ms_set (i := 1) sc__law_near.nd rfl (.inl rfl) (me_tup (ma_cons me_str (ma_cons me_str ma_nil)))) (mb_cons (ms_set (i := 2) sc__law_near.nd rfl (.inl rfl) (me_lst (ma_cons (me_var 0) (ma_cons (me_callTy cd_list (by rfl) T.n_list (by decide +kernel) (ma_cons (me_var 0) ma_nil)) (ma_cons (me_op od_add (me_var 0) (me_tup (ma_cons (me_var 1) ma_nil))) (ma_cons (me_slice (me_var 0) mo_none (mo_some (me_un ud_neg me_int))) (ma_cons (me_rev (me_var 0) (me_un ud_neg me_int)) (ma_cons (me_tup (ma_cons (me_var 0) ma_nil)) (ma_cons (me_tup (ma_cons me_str (ma_cons (me_var 0) ma_nil))) (ma_cons (me_tup (ma_cons me_str (ma_cons (me_var 0) (ma_cons (me_var 0) ma_nil)))) (ma_cons (me_tup (ma_cons me_str ma_nil)) (ma_cons (me_tup (ma_cons me_str (ma_cons (me_tup (ma_cons (me_var 0) ma_nil)) ma_nil))) ma_nil)))))))))))) (mb_cons (ms_for PassesOwn.never rfl (mi_seq (me_tup (ma_cons me_str (ma_cons me_str (ma_cons me_str (ma_cons me_str (ma_cons me_str ma_nil))))))) (mg_name (i := 3) sc__law_near.nd rfl (.inl rfl) (fun _ z => nomatch z)) (mb_cons (ms_set (i := 2) sc__law_near.nd rfl (.inl rfl) (me_op od_add (me_var 2) (me_lst (ma_cons (me_tup (ma_cons (me_var 3) (ma_cons (me_tup (ma_cons (me_var 0) ma_nil)) ma_nil))) (ma_cons (me_tup (ma_cons (me_var 3) (ma_cons (me_tup (ma_cons (me_var 0) (ma_cons (me_var 1) ma_nil))) ma_nil))) (ma_cons (me_tup (ma_cons (me_var 3) (ma_cons (me_tup ma_nil) ma_nil))) (ma_cons (me_tup (ma_cons (me_var 3) (ma_cons (me_var 0) ma_nil))) (ma_cons (me_tup (ma_cons (me_var 3) (ma_cons (me_lst (ma_cons (me_var 0) ma_nil)) ma_nil))) (ma_cons (me_tup (ma_cons (me_var 3) (ma_cons (me_tup (ma_cons (me_var 0) (ma_cons me_non ma_nil))) ma_nil))) ma_nil))))))))) (mb_one (ms_expr (me_append (me_var 2) (ma_cons (me_tup (ma_cons (me_var 3) (ma_cons (me_var 0) (ma_cons (me_var 1) ma_nil)))) ma_nil)))))) (mb_cons (ms_for PassesOwn.never rfl (mi_seq (me_tup (ma_cons me_str (ma_cons me_str (ma_cons me_str (ma_cons me_str (ma_cons me_str ma_nil))))))) (mg_name (i := 3) sc__law_near.nd rfl (.inl rfl) (fun _ z => nomatch z)) (mb_cons (ms_set (i := 2) sc__law_near.nd rfl (.inl rfl) (me_op od_add (me_var 2) (me_lst (ma_cons (me_tup (ma_cons (me_var 3) (ma_cons (me_var 0) (ma_cons (me_var 1) ma_nil)))) (ma_cons (me_tup (ma_cons (me_var 3) (ma_cons (me_var 1) (ma_cons (me_var 0) ma_nil)))) (ma_cons (me_tup (ma_cons (me_var 3) (ma_cons (me_var 0) ma_nil))) (ma_cons (me_tup (ma_cons (me_var 3) (ma_cons me_str (ma_cons (me_var 0) ma_nil)))) (ma_cons (me_tup (ma_cons (me_var 3) (ma_cons (me_var 0) (ma_cons me_str ma_nil)))) (ma_cons (me_tup (ma_cons (me_var 3) (ma_cons me_str (ma_cons (me_var 0) ma_nil)))) ma_nil))))))))) (mb_one (ms_set (i := 2) sc__law_near.nd rfl (.inl rfl) (me_op od_add (me_var 2) (me_lst (ma_cons (me_tup (ma_cons (me_var 3) (ma_cons me_str (ma_cons (me_var 0) ma_nil)))) (ma_cons (me_tup (ma_cons (me_var 3) (ma_cons me_str (ma_cons (me_var 0) ma_nil)))) (ma_cons (me_tup (ma_cons (me_var 3) (ma_cons (me_var 0) (ma_cons (me_var 1) (ma_cons (me_var 0) ma_nil))))) (ma_cons (me_tup (ma_cons (me_var 3) (ma_cons me_str (ma_cons me_str (ma_cons (me_var 0) ma_nil))))) (ma_cons (me_tup (ma_cons (me_var 3) (ma_cons me_int (ma_cons (me_var 0) ma_nil)))) ma_nil))))))))))) (mb_cons (ms_set (i := 2) sc__law_near.nd rfl (.inl rfl) (me_op od_add (me_var 2) (me_lst (ma_cons (me_tup (ma_cons me_str (ma_cons me_str (ma_cons me_str ma_nil)))) (ma_cons (me_tup (ma_cons me_str (ma_cons me_str ma_nil))) (ma_cons (me_tup (ma_cons me_str (ma_cons me_str ma_nil))) (ma_cons (me_tup (ma_cons me_str (ma_cons (me_var 0) ma_nil))) (ma_cons (me_tup (ma_cons me_str (ma_cons me_str ma_nil))) ma_nil)))))))) (mb_one (ms_ret (me_op od_add (me_var 2) (me_lst (ma_cons (me_tup (ma_cons me_str ma_nil)) ma_nil))))))))))
theorem ok_law (T : Tx K mg w) (O : Oks P base T k g) : FnG P w K mg base CX0 (k + 1) T.a_law T.d_law ["_law_script"] (spD ⟨K, mg, w⟩ (["_law_script"] : List Str).length (B_law g)) := by
  refine fnG_of T.f_law sc_law fun cdv A outer s H E hr => ?_
  exact (mb_cons (ms_set (i := 1) sc_law.nd rfl (.inr rfl) (me_call O.o5 hr (by rfl) T.m__law_feed T.f__law_feed.kp T.b__law_feed rfl (ma_cons (me_var 0) ma_nil) (len_cons len_nil))) (mb_cons (ms_asg (me_tup (ma_cons (me_tup (ma_cons me_str (ma_cons me_str ma_nil))) (ma_cons (me_tup (ma_cons me_str (ma_cons me_str ma_nil))) ma_nil))) (mg_tup (n := 2) rfl (mgs_cons (mg_name (i := 2) sc_law.nd rfl (.inl rfl) (fun _ z => nomatch z)) (mgs_cons (mg_name (i := 3) sc_law.nd rfl (.inl rfl) (fun _ z => nomatch z)) mgs_nil)))) (mb_cons (ms_for PassesOwn.never rfl (mi_range1 (by rfl) T.n_range (ma_cons me_int ma_nil)) (mg_name (i := 4) sc_law.nd rfl (.inl rfl) (fun _ z => nomatch z)) (mb_one (ms_set (i := 2) sc_law.nd rfl (.inl rfl) (me_ix (ie_ix hr.u1) (me_lst (ma_cons (me_tup (ma_cons me_str (ma_cons (me_var 2) ma_nil))) (ma_cons (me_tup (ma_cons me_str (ma_cons me_str (ma_cons (me_var 2) ma_nil)))) (ma_cons (me_tup (ma_cons me_str (ma_cons (me_var 3) (ma_cons (me_var 2) ma_nil)))) (ma_cons (me_tup (ma_cons me_str (ma_cons (me_tup (ma_cons (me_var 2) ma_nil)) ma_nil))) ma_nil))))) (me_op od_mod (me_var 4) me_int) (fun _ _ => rfl))))) (mb_cons (ms_set (i := 5) sc_law.nd rfl (.inl rfl) (me_lst (ma_cons me_non (ma_cons me_bl (ma_cons me_int (ma_cons me_int (ma_cons me_str (ma_cons me_str (ma_cons me_str (ma_cons me_str (ma_cons (me_tup ma_nil) (ma_cons (me_lst ma_nil) (ma_cons (me_tup (ma_cons me_str (ma_cons me_str ma_nil))) (ma_cons (me_tup (ma_cons me_str (ma_cons (me_tup ma_nil) ma_nil))) (ma_cons me_str (ma_cons (me_op od_pow me_int me_int) ma_nil)))))))))))))))) (mb_cons (ms_set (i := 6) sc_law.nd rfl (.inl rfl) (me_op od_add (me_var 5) (me_lst (ma_cons (me_var 2) (ma_cons (me_tup (ma_cons me_str (ma_cons (me_op od_mul (me_tup (ma_cons (me_var 3) ma_nil)) me_int) ma_nil))) (ma_cons (me_tup (ma_cons me_str (ma_cons (me_op od_add (me_op od_mul (me_tup (ma_cons (me_var 3) ma_nil)) me_int) (me_tup (ma_cons me_non ma_nil))) ma_nil))) (ma_cons (me_tup (ma_cons me_str (ma_cons (me_var 2) (ma_cons (me_var 2) ma_nil)))) ma_nil))))))) (mb_cons (ms_expr (me_append (me_var 6) (ma_cons (me_tup (ma_cons me_str (ma_cons (me_tup (ma_cons me_str (ma_cons (me_var 3) (ma_cons (me_var 3) ma_nil)))) ma_nil))) ma_nil))) (mb_cons (ms_for PassesOwn.never rfl (mi_range1 (by rfl) T.n_range (ma_cons me_int ma_nil)) (mg_name (i := 7) sc_law.nd rfl (.inl rfl) (fun _ z => nomatch z)) (mb_cons (ms_set (i := 8) sc_law.nd rfl (.inl rfl) (me_call O.o10 hr (by rfl) T.m__law_saying T.f__law_saying.kp T.b__law_saying rfl (ma_cons (me_var 1) (ma_cons (me_lst (ma_cons me_int ma_nil)) (ma_cons (me_cmp (od_ne hr.u64) (me_var 7) me_int (nomark _)) ma_nil))) (len_cons (len_cons (len_cons len_nil))))) (mb_cons (ms_set (i := 6) sc_law.nd rfl (.inl rfl) (me_op od_add (me_op od_add (me_var 6) (me_call O.o12 hr (by rfl) T.m__law_near T.f__law_near.kp T.b__law_near rfl (ma_cons (me_var 8) ma_nil) (len_cons len_nil))) (me_lc (own := [("_law_k", 4)]) rfl sc_law.nd (mi_range1 (by rfl) T.n_range (ma_cons me_int ma_nil)) (blkOk_by (own := [("_law_k", 4)]) (N := N_law) (sc := defScope st_law) (by decide +kernel)) (fun _ _ _ _ _ => (mg_name (i := 4) sc_law.nd rfl (.inl rfl) (fun _ z => by cases z; decide))) (fun _ _ _ _ _ => mts_nil) (fun _ _ _ _ _ => (me_call O.o11 hr (by rfl) T.m__law_letters T.f__law_letters.kp T.b__law_letters rfl (ma_cons (me_var 1) ma_nil) (len_cons len_nil)))))) (mb_one (ms_for PassesOwn.never rfl (mi_range1 (by rfl) T.n_range (ma_cons me_int ma_nil)) (mg_name (i := 4) sc_law.nd rfl (.inl rfl) (fun _ z => nomatch z)) (mb_cons (ms_set (i := 9) sc_law.nd rfl (.inl rfl) (me_call O.o7 hr (by rfl) T.m__law_spoilt T.f__law_spoilt.kp T.b__law_spoilt rfl (ma_cons (me_var 1) (ma_cons (me_var 8) (ma_cons (me_var 5) ma_nil))) (len_cons (len_cons (len_cons len_nil))))) (mb_one (ms_set (i := 6) sc_law.nd rfl (.inl rfl) (me_op od_add (me_var 6) (me_lst (ma_cons (me_var 9) (ma_cons (me_call O.o7 hr (by rfl) T.m__law_spoilt T.f__law_spoilt.kp T.b__law_spoilt rfl (ma_cons (me_var 1) (ma_cons (me_var 9) (ma_cons (me_var 5) ma_nil))) (len_cons (len_cons (len_cons len_nil)))) ma_nil)))))))))))) (mb_cons (ms_for PassesOwn.never rfl (mi_seq (me_var 6)) (mg_name (i := 10) sc_law.nd rfl (.inl rfl) (fun _ z => nomatch z)) (mb_cons (ms_set (i := 11) sc_law.nd rfl (.inl rfl) (me_callB (cd_repr hr) (by rfl) T.n_repr (by decide +kernel) (ma_cons (me_var 10) ma_nil))) (mb_cons (ms_set (i := 12) sc_law.nd rfl (.inl rfl) (me_lst (ma_cons (me_call O.o8 hr (by rfl) T.m__law_is_word T.f__law_is_word.kp T.b__law_is_word rfl (ma_cons (me_var 10) ma_nil) (len_cons len_nil)) (ma_cons (me_call O.o9 hr (by rfl) T.m__law_is_saying T.f__law_is_saying.kp T.b__law_is_saying rfl (ma_cons (me_var 10) (ma_cons me_bl ma_nil)) (len_cons (len_cons len_nil))) (ma_cons (me_call O.o9 hr (by rfl) T.m__law_is_saying T.f__law_is_saying.kp T.b__law_is_saying rfl (ma_cons (me_var 10) (ma_cons me_bl ma_nil)) (len_cons (len_cons len_nil))) ma_nil))))) (mb_one (ms_if (mt_w (mw_or (mt_cmp (od_ne hr.u64) (me_callB (cd_repr hr) (by rfl) T.n_repr (by decide +kernel) (ma_cons (me_lst (ma_cons (me_call O.o0 hr (by rfl) T.m_is_word T.f_is_word.kp T.b_is_word rfl (ma_cons (me_var 10) ma_nil) (len_cons len_nil)) (ma_cons (me_call O.o4 hr (by rfl) T.m_is_saying T.f_is_saying.kp T.b_is_saying rfl (ma_cons (me_var 10) ma_nil) (len_cons len_nil)) (ma_cons (me_call O.o3 hr (by rfl) T.m_is_plain_saying T.f_is_plain_saying.kp T.b_is_plain_saying rfl (ma_cons (me_var 10) ma_nil) (len_cons len_nil)) ma_nil)))) ma_nil)) (me_callB (cd_repr hr) (by rfl) T.n_repr (by decide +kernel) (ma_cons (me_var 12) ma_nil)) (nomark _)) (mw_or1 (mt_cmp (od_ne hr.u64) (me_callB (cd_repr hr) (by rfl) T.n_repr (by decide +kernel) (ma_cons (me_var 10) ma_nil)) (me_var 11) (nomark _))))) (mb_one (ms_ret me_bl)) mb_nil))))) (mb_one (ms_ret me_bl))))))))))
end
theorem oks (P : Program) {K : PySem.W.Frag} {mg : Str → Option Value} {w : World} (base : Heap) (T : Tx K mg w) : ∀ k, Oks P base T k (Gam k)
  | 0 => ⟨fnG_zero, fnG_zero, fnG_zero, fnG_zero, fnG_zero, fnG_zero, fnG_zero, fnG_zero, fnG_zero, fnG_zero, fnG_zero, fnG_zero, fnG_zero, fnG_zero⟩
  | k + 1 => have O := oks P base T k; ⟨ok_is_word T O, ok_are_sayings T O, ok_is_made T O, ok_is_plain_saying T O, ok_is_saying T O, ok__law_feed T O, ok__law_draw T O, ok__law_spoilt T O, ok__law_is_word T O, ok__law_is_saying T O, ok__law_saying T O, ok__law_letters T O, ok__law_near T O, ok_law T O⟩
end Pg

namespace Pg
open PySem PySem.Spec PyProof.Rows L2 Dn
theorem lv0 (k : Nat) (h : 1 ≤ k) : WpOk (Gam k 0) := by
  obtain ⟨j, rfl⟩ : ∃ j, k = j + 1 := ⟨k - 1, by omega⟩
  exact wp_ok
theorem lv8 (k : Nat) (h : 1 ≤ k) : WpOk (Gam k 8) := by
  obtain ⟨j, rfl⟩ : ∃ j, k = j + 1 := ⟨k - 1, by omega⟩
  exact lwp_ok
theorem lv3 : ∀ n k, 3 * n + 2 ≤ k → SyOk false (Gam k 3) n
  | 0, k, hk => by
    obtain ⟨j, rfl⟩ : ∃ j, k = j + 2 := ⟨k - 2, by omega⟩
    exact sp_0 (g := Gam j)
  | n + 1, k, hk => by
    obtain ⟨j, rfl⟩ : ∃ j, k = j + 3 := ⟨k - 3, by omega⟩
    have h1 : MkOk false (Gam (j + 2) 2) n := md_ok (g := Gam (j + 1)) (t := false) (lv3 n (j + 1) (by omega)) (lv0 (j + 1) (by omega)) (as_ok (g := Gam j) (t := false) (lv3 n j (by omega)))
    exact sp_ok h1
theorem lv4 : ∀ n k, 3 * n + 2 ≤ k → SyOk true (Gam k 4) n
  | 0, k, hk => by
    obtain ⟨j, rfl⟩ : ∃ j, k = j + 2 := ⟨k - 2, by omega⟩
    exact ss_0 (g := Gam j)
  | n + 1, k, hk => by
    obtain ⟨j, rfl⟩ : ∃ j, k = j + 3 := ⟨k - 3, by omega⟩
    have h1 : MkOk true (Gam (j + 2) 2) n := md_ok (g := Gam (j + 1)) (t := true) (lv4 n (j + 1) (by omega)) (lv0 (j + 1) (by omega)) (as_ok (g := Gam j) (t := true) (lv4 n j (by omega)))
    exact ss_ok h1 (lv4 n (j + 2) (by omega))
theorem lv9 : ∀ n k, n + 1 ≤ k → LsOk (Gam k 9) n
  | 0, k, hk => by
    obtain ⟨j, rfl⟩ : ∃ j, k = j + 1 := ⟨k - 1, by omega⟩
    exact ls_0
  | n + 1, k, hk => by
    obtain ⟨j, rfl⟩ : ∃ j, k = j + 1 := ⟨k - 1, by omega⟩
    exact ls_ok (lv9 n j (by omega)) (lv8 j (by omega))
theorem lv6 (k : Nat) : DrawOk (Gam (k + 1) 6) := draw_ok
theorem lv10 : ∀ L k, L + 2 ≤ k → SayOk (Gam k 10) (L + 1)
  | 0, k, hk => by
    obtain ⟨j, rfl⟩ : ∃ j, k = j + 2 := ⟨k - 2, by omega⟩
    exact say_ok (lv6 j) (.inl rfl)
  | L + 1, k, hk => by
    obtain ⟨j, rfl⟩ : ∃ j, k = j + 2 := ⟨k - 2, by omega⟩
    exact say_ok (lv6 j) (.inr (lv10 L (j + 1) (by omega)))
end Pg

namespace Pg
open PySem PySem.Spec PyProof.Rows L2 Dn
local macro_rules | `(tactic| walk_at "dn") => `(tactic| simp (disch := first | assumption | exact gn_new | exact gn_at1 | exact gn_at2 | exact gn_at | (simp only [lowDs, lowD, enc_low, encs_low, Bool.and_self]; done) | (refine clo_t ?_; have hEn := fun n (E : Mh) (h : lowE E = true) => lowE_all n h; simp only [List.all_cons, List.all_nil, List.length_cons, List.length_nil, lowO, lowDs, lowD, low_ints, low_strs, encs_low, Nat.reduceAdd, Nat.reduceLT, lt_succ, List.all_append, List.length_append, decide_true, *, Bool.and_self, Bool.and_true]; done) | (simp only [Nat.reduceLeDiff, encs_len, List.length_cons, List.length_nil, Nat.reduceAdd, flatD, List.all_cons, List.all_nil, Bool.and_self, Bool.and_true, List.length_append, List.length_set, Nat.lt_add_one, *]; done) | (simp only [Dn.sizeLine_eq, PySem.Str.length_append, Nat.add_zero]; omega) | (simp only [encs_len, List.length_take, List.length_map, List.length_cons, List.length_append, List.length_nil]; omega) | omega) only [ret_run, bad_run, bind_run, noX_run, asB_run, eOp_run, eUn_run, eCb_run, aNil_run, aCons_run, eVar_run, eC_run, tCmpD_run, tTruD_run, tAndD_run, tOrD_run, tNotD_run, tYesD_run, eIf_run, eAnd_run, eOr_run, notD_run, eSl_run, oNone_run, oSome_run, sRet_run, sRetN_run, sExp_run, sNx_run, sBk_run, sCt_run, sIf_run, sSeq_run, sAsg_run, gNm_run, gsNil_run, gsCons_run, gSb_run, gTp_tup, gSt_tup, sPar_run, sFor_run, eComp_run, newT_s, newL_s, one1_run, eqD_run, neD_run, eqC_str, eqC_int, eqC_bl, inE_run, ninE_run, inCE_rod, inCE_tup, ixE_rod, ixE_tup, ixE_ls, ixE_ref, addD_int, addD_strok, addD_tup, addD_ref, subD_int, mulD_ok, fdivD_ok, modD_ok, powD_ok, ltD_int, leD_int, gtD_int, geD_int, truC_bl, lenD_tup, lenD_ref, lenD_ls, tupleD_ref, listD_tupn, listD_ref, gc_l0n, wkOf_tup, wkOf_ref, eJoin_run, eLm_run, setD_ref, atD_0, atD_1, atD_2, atD_3, atD_4, setL_0, setL_1, setL_2, setL_3, gs_eq, gs_ne, ga_lt,  List.length_set, List.length_map, set_app, List.set_set, decide_eq_true_eq, inF_nil, inF_int, inF_str, flatD, List.all_cons, List.all_nil, Bool.and_true, Bool.and_self, Bool.or_false, Bool.or_true, Bool.true_or, Bool.false_or, Int.reduceEq, Int.reduceLT, Int.reduceMod, Int.reduceNeg, st_len, st_app, st_at, wipeD, rng1_s, Dn.sizeLine_eq, Nat.reduceLT, Int.reduceToNat, List.length_range, List.length_take, Nat.min_def, compL_cons, compL_nil, stays_none, List.set_nil, fm_0, fm_1, fm_2, fm_3, fm_4, fm_5, fm_6, fm_7, fm_8, fm_9, fm_10, fm_11, fm_12, fm_13,  joinD_ref, appD_run, stays_iff,  mkFn_run, List.map_cons, List.map_nil, List.reduceReplicate, gn_new, gn_at, List.append_assoc, gc_str, gc_str0, gc_bl, gc_bl0, gc_int, gc_int0, gc_enc, gc_enc0, gc_tup, gc_tup0, gc_zero, gc_nil, gc_l0, reduceCtorEq, Bool.not_eq_true, eq_self,  List.length_append, encs_len,    strsOf_map, pNil_run, pCons_run, eDisp_run, Option.isSome_some, Option.isSome_none, keysD, keyD, List.zip_cons_cons, List.zip_nil_left, List.zip_nil_right, List.foldl_cons, List.foldl_nil, 
  Nat.reduceAdd, Nat.reduceLeDiff, Nat.reduceEqDiff, Nat.reduceSub, String.reduceEq, reduceIte, Int.reduceLE, Nat.le_refl, ofString_inj, List.set_cons_succ, List.set_cons_zero, List.getElem?_cons_succ, List.getElem?_cons_zero, List.length_cons, List.length_nil, decide_true, decide_false, if_true, if_false, Bool.false_eq_true, List.take_succ_cons, List.take_zero, List.drop_succ_cons, List.drop_zero, List.cons_append, List.nil_append, ne_eq, not_false_eq_true, Bool.not_true, Bool.not_false, *])

theorem lv7 : ∀ e k, e + 2 ≤ k → SpOk (Gam k 7) e
  | 0, k, hk => by
    obtain ⟨j, rfl⟩ : ∃ j, k = j + 2 := ⟨k - 2, by omega⟩
    exact sp1_ok (dr := Gam (j + 1) 6) (sp := Gam (j + 1) 7) (lv6 j) fun e' h => by omega
  | e + 1, k, hk => by
    obtain ⟨j, rfl⟩ : ∃ j, k = j + 2 := ⟨k - 2, by omega⟩
    exact sp1_ok (dr := Gam (j + 1) 6) (sp := Gam (j + 1) 7) (lv6 j) fun e' h => by
      obtain rfl : e = e' := by omega
      exact lv7 e (j + 1) (by omega)
theorem lv12 (k : Nat) : NearOk (Gam (k + 1) 12) := near_ok
theorem lv11 (k : Nat) : LtrOk (Gam (k + 2) 11) := ltr1_ok (lv6 k)
theorem eb_law (g : Nat → Fn) : b_law g = (sSeq (sAsg (eCb (g 5) (aCons (eVar 0) aNil)) (gNm 1)) (sSeq s1 (sSeq (sFor (fun s => ((aCons (eC (.int 12)) aNil) s).bind rng1) (gNm 4) s2b) (sSeq s3 (sSeq s4 (sSeq s5 (sSeq (sFor (fun s => ((aCons (eC (.int 3)) aNil) s).bind rng1) (gNm 7) (s6 g)) (sSeq (sFor (fun s => ((eVar 6) s).bind wkOf) (gNm 10) (lkB g)) (sRet (eC (.bl true))))))))))) := rfl
section
variable {g : Nat → Fn}
/-- the last loop -/
theorem last_loop (t0 : WpOk (g 0)) (t8 : WpOk (g 8)) (t9 : LsOk (g 9) 60) (t4 : SyOk true (g 4) 60) (t3 : SyOk false (g 3) 60) {M : Mh} (cl : Clo M) {k6 : Nat} {ds : List D} (h6 : M[k6]? = some (.lst ds)) (l6 : 2 ≤ k6) (al : Al M 2 ds 60000 56) {x0 x1 x2 x3 x4 x5 x6 x7 x8 x9 x10 x11 x12 : Option D} :
    ∃ s' M', loopD ⟨some k6, ds⟩ (gNm 10) (lkB g) ds [x0, x1, x2, x3, x4, x5, x6, x7, x8, x9, x10, x11, x12] M = .ok (.nx, s') M' := by
  obtain ⟨s', M', e, _⟩ := loop_ix (w := ⟨some k6, ds⟩) (g := gNm 10) (body := lkB g) (fun _ s' M' => ∃ E y10 y11 y12, s' = [x0, x1, x2, x3, x4, x5, x6, x7, x8, x9, y10, y11, y12] ∧ M' = M ++ E ∧ lowE E = true)
    (fun _ _ M' ⟨E, _, _, _, _, hM, _⟩ => by subst hM; exact stays_some (kp_app _ _ _ _ l6 h6)) ds 0 [x0, x1, x2, x3, x4, x5, x6, x7, x8, x9, x10, x11, x12] M ⟨[], x10, x11, x12, rfl, by rw [List.append_nil], rfl⟩ (by
      rintro j d _ _ hd ⟨E, y10, y11, y12, rfl, rfl, hE⟩
      obtain ⟨p, t⟩ := al d (List.mem_of_getElem? hd)
      have tg : Tg (M ++ E) d p := (t.keep (kp_app M E) (show 2 ≤ 3 by omega) (Nat.le_refl _) (Nat.le_refl _)).tg (by omega) (by omega) (by omega)
      obtain ⟨z11, z12, E2, e2, hE2⟩ := lk_ok t0 t8 t9 t4 t3 (Clo_appE cl hE) tg (x0 := x0) (x1 := x1) (x2 := x2) (x3 := x3) (x4 := x4) (x5 := x5) (x6 := x6) (x7 := x7) (x8 := x8) (x9 := x9) (x11 := y11) (x12 := y12)
      exact ⟨_, M ++ E, _, _, rfl, e2, E ++ E2, some d, z11, z12, rfl, by rw [List.append_assoc], lowE_app hE hE2⟩)
  exact ⟨s', M', e⟩
theorem turns (t10 : SayOk (g 10) 14) (t12 : NearOk (g 12)) (t11 : LtrOk (g 11)) (t7 : SpOk (g 7) 28) (t7' : SpOk (g 7) 30) {M : Mh} {ns : List Int} {k5 k6 : Nat} {menu : List D} (h : Js M ns 0 k5 k6 menu 19) {x0 x2 x3 x4 x7 x8 x9 x10 x11 x12 : Option D} :
    ∃ y4 k y7 y8 y9 n' M', loopD ⟨none, (List.range 3).map fun i => .int (0 + (i : Nat))⟩ (gNm 7) (s6 g) ((List.range 3).map fun i => .int (0 + (i : Nat))) [x0, some (.ref 1), x2, x3, x4, some (.ref k5), some (.ref k6), x7, x8, x9, x10, x11, x12] M = .ok (.nx, [x0, some (.ref 1), x2, x3, y4, some (.ref k5), some (.ref k), y7, y8, y9, x10, x11, x12]) M' ∧ Js M' ns n' k5 k menu 1000 := by
  obtain ⟨s', M3, e3, y4, k', y7, y8, y9, n3, rfl, j3, hn3⟩ := loop_ix (w := ⟨none, (List.range 3).map fun i => .int (0 + (i : Nat))⟩) (g := gNm 7) (body := s6 g) (fun j s' M' => ∃ y4 k' y7 y8 y9 n', s' = [x0, some (.ref 1), x2, x3, y4, some (.ref k5), some (.ref k'), y7, y8, y9, x10, x11, x12] ∧ Js M' ns n' k5 k' menu (19 + 217 * j) ∧ n' ≤ 2000 * (j : Int))
    (fun _ _ _ _ => stays_none.mpr trivial) ((List.range 3).map fun i => .int (0 + (i : Nat))) 0 [x0, some (.ref 1), x2, x3, x4, some (.ref k5), some (.ref k6), x7, x8, x9, x10, x11, x12] M ⟨x4, k6, x7, x8, x9, 0, rfl, h, by omega⟩ (by
      rintro j u _ M hu ⟨y4, k', y7, y8, y9, n', rfl, j', h'⟩
      have hj : j < 3 := by have := (List.getElem?_eq_some_iff.mp hu).1; simpa using this
      rw [Nat.zero_add] at j' h' ⊢
      rw [List.getElem?_map, Option.map_eq_some_iff] at hu
      obtain ⟨jj, _, rfl⟩ := hu
      obtain ⟨z4, k2, z8, z9, n4, M4, e4, j4, h4⟩ := s6_ok (g := g) (x0 := x0) (x2 := x2) (x3 := x3) (x4 := y4) (x8 := y8) (x9 := y9) (x10 := x10) (x11 := x11) (x12 := x12) t10 t12 t11 t7 t7' j' (by omega) (by omega) (t := 0 + (jj : Nat))
      refine ⟨_, M, _, _, rfl, e4, z4, k2, some (.int (0 + (jj : Nat))), z8, z9, n4, rfl, ?_, by omega⟩
      rw [show 19 + 217 * (j + 1) = 19 + 217 * j + 217 by omega]; exact j4)
  have hl : ((List.range 3).map fun i => D.int (0 + (i : Nat))).length = 3 := by rw [List.length_map, List.length_range]
  rw [hl] at j3
  obtain ⟨a, b, c, d, ds, e1, e2, e3'⟩ := j3
  exact ⟨y4, k', y7, y8, y9, n3, M3, e3, a, b, c, d, ds, e1, e2, by omega⟩
end
theorem law_true : Dn.LawTrue 63 (Gam 200 13) := by
  intro ns hns
  have t0 := lv0 199 (by omega)
  have t8 := lv8 199 (by omega)
  have t9 := lv9 60 199 (by omega)
  have t4 := lv4 60 199 (by omega)
  have t3 := lv3 60 199 (by omega)
  have t10 : SayOk (Gam 199 10) 14 := lv10 13 199 (by omega)
  have t12 : NearOk (Gam 199 12) := lv12 198
  have t11 : LtrOk (Gam 199 11) := lv11 197
  have t7 := lv7 28 199 (by omega)
  have t7' := lv7 30 199 (by omega)
  obtain ⟨ms, hfeed⟩ := feed_ok ns (by omega)
  have hfeed : Gam 199 5 [.ls (ns.map D.int)] [] = .ok (.ref 1) [.lst (ms.map D.int), .lst [.ref 0, .int 0, .int 0, .int 0]] := hfeed
  show ∃ M, B_law (Gam 199) _ _ = _
  generalize Gam 199 = g at *
  have h : Fd [.lst (ms.map D.int), .lst [.ref 0, .int 0, .int 0, .int 0]] 1 0 ms 0 0 0 := ⟨by
        refine clo_t ?_
        simp only [List.all_cons, List.all_nil, List.length_cons, List.length_nil, lowO, lowDs, lowD, low_ints, Nat.reduceAdd, Nat.reduceLT, decide_true, Bool.and_self], rfl, rfl, by omega, by omega, by omega⟩
  generalize hM0 : [MO.lst (ms.map D.int), MO.lst [.ref 0, .int 0, .int 0, .int 0]] = M0 at h hfeed
  have e1 := s1_ok (M := M0) (x0 := some (.ls (ns.map D.int))) (x1 := some (.ref 1)) (x2 := none) (x3 := none) (x4 := none) (x5 := none) (x6 := none) (x7 := none) (x8 := none) (x9 := none) (x10 := none) (x11 := none) (x12 := none)
  obtain ⟨d, p, y4, M2, e2, td, f2⟩ := s2_loop h (x0 := some (.ls (ns.map D.int))) (x1 := some (.ref 1)) (x4 := none) (x5 := none) (x6 := none) (x7 := none) (x8 := none) (x9 := none) (x10 := none) (x11 := none) (x12 := none)
  have l2 : 2 ≤ M2.length := lt_of_get f2.hf
  obtain ⟨k5, M3, e3, nr3, dm, gm, lm⟩ := s3_ok f2.cl l2 (x0 := some (.ls (ns.map D.int))) (x1 := some (.ref 1)) (x2 := some d) (x3 := some dH) (x4 := y4) (x5 := none) (x6 := none) (x7 := none) (x8 := none) (x9 := none) (x10 := none) (x11 := none) (x12 := none)
  have c3 := nr3.clo
  obtain ⟨k6, M4, e4, nr4⟩ := s4_ok (e := 0) nr3 td (x0 := some (.ls (ns.map D.int))) (x1 := some (.ref 1)) (x4 := y4) (x6 := none) (x7 := none) (x8 := none) (x9 := none) (x10 := none) (x11 := none) (x12 := none)
  obtain ⟨M5, e5, nr5⟩ := s5_ok nr4 (x0 := some (.ls (ns.map D.int))) (x1 := some (.ref 1)) (x2 := some d) (x4 := y4) (x5 := some (.ref k5)) (x7 := none) (x8 := none) (x9 := none) (x10 := none) (x11 := none) (x12 := none)
  have c5 := nr5.clo
  obtain ⟨N3, menu, rfl, rfl, cN3, aN3, ln3, ll3, E3, hE3⟩ := nr3
  have hmenu : 1 ≤ menu.length := by
    rw [gn_new] at gm
    cases gm
    omega
  have mn3 : Mn (N3 ++ [.lst menu]) N3.length menu := ⟨gn_new, ll3, aN3.keep (kp_app _ _), hmenu, by omega⟩
  have f3 : Fd (N3 ++ [.lst menu]) 1 0 ms 0 0 0 := by
    rw [hE3, List.append_assoc] at c3 ⊢
    exact fd_ext f2 c3
  generalize hN3 : N3 ++ [MO.lst menu] = K3 at *
  obtain ⟨N5, some_, rfl, rfl, cN5, aN5, ln5, ll5, E5, rfl⟩ := nr5
  have js : Js (K3 ++ E5 ++ [.lst some_]) ms 0 N3.length (K3 ++ E5).length menu 19 := by
    rw [List.append_assoc] at c5
    have k : Kp K3 (K3 ++ E5 ++ [.lst some_]) := by rw [List.append_assoc]; exact kp_app _ _
    exact ⟨⟨0, 0, by rw [List.append_assoc]; exact fd_ext f3 c5⟩, by rw [List.length_append]; omega, mn3.keep k, ll5, some_, gn_new, aN5.keep (kp_app _ _), ln5⟩
  obtain ⟨z4, k, z7, z8, z9, n', M6, e6, js6⟩ := turns t10 t12 t11 t7 t7' js (x0 := some (.ls (ns.map D.int))) (x2 := some d) (x3 := some dH) (x4 := y4) (x7 := none) (x8 := none) (x9 := none) (x10 := none) (x11 := none) (x12 := none)
  obtain ⟨i6, r6, f6⟩ := js6.fd
  obtain ⟨ds, h61, h62, h63⟩ := js6.h6
  obtain ⟨s', M7, e7⟩ := last_loop t0 t8 t9 t4 t3 f6.cl h61 js6.l6 h62 (x0 := some (.ls (ns.map D.int))) (x1 := some (.ref 1)) (x2 := some d) (x3 := some dH) (x4 := z4) (x5 := some (.ref N3.length)) (x6 := some (.ref k)) (x7 := z7) (x8 := z8) (x9 := z9) (x10 := none) (x11 := none) (x12 := none)
  refine ⟨[], mkFn_ok (s' := s') (M' := M7) rfl (d := .bl true) ?_ (gc_zero true)⟩
  show b_law g [some (.ls (ns.map D.int)), none, none, none, none, none, none, none, none, none, none, none, none] [] = _
  have er : ∀ N, rng1 [.int 12] N = .ok ⟨none, (List.range 12).map fun i => .int (0 + (i : Nat))⟩ N := fun N => rng1_s (by omega) (by omega)
  have er3 : ∀ N, rng1 [.int 3] N = .ok ⟨none, (List.range 3).map fun i => .int (0 + (i : Nat))⟩ N := fun N => rng1_s (by omega) (by omega)
  rw [eb_law]
  simp only [sSeq_run, sAsg_run, eCb_run, aCons_run, aNil_run, eVar_run, List.getElem?_cons_succ, List.getElem?_cons_zero, hfeed, gNm_run, List.set_cons_succ, List.set_cons_zero, e1, sFor_run, bind_run, eC_run, er, e2, e3, e4, e5, er3, e6, wkOf_ref, h61, e7, sRet_run]
end Pg

namespace Pg
open PySem PySem.Spec PyProof.Rows L2 Dn
theorem all_mk {P : Program} {w : World} {K : PySem.W.Frag} {h : Heap} {mg : Str → Option Value} {fa : Addr} (X : K.In h) (G : h.Ns mainGlobals mg) (hfa : mg "law" = some (.ref fa))
    {fq0 : Addr} {odq0 anq0 : Option Addr} {slq0 : Array (Option Value)} {ocq0 kVq0 dcq0 pmq0 cdq0 ctq0 : Value}
    {fq1 : Addr} {odq1 anq1 : Option Addr} {slq1 : Array (Option Value)} {ocq1 kVq1 dcq1 pmq1 cdq1 ctq1 : Value}
    {fq2 : Addr} {odq2 anq2 : Option Addr} {slq2 : Array (Option Value)} {ocq2 kVq2 dcq2 pmq2 cdq2 ctq2 : Value}
    {fq3 : Addr} {odq3 anq3 : Option Addr} {slq3 : Array (Option Value)} {ocq3 kVq3 dcq3 pmq3 cdq3 ctq3 : Value}
    {fq4 : Addr} {odq4 anq4 : Option Addr} {slq4 : Array (Option Value)} {ocq4 kVq4 dcq4 pmq4 cdq4 ctq4 : Value}
    {fq5 : Addr} {odq5 anq5 : Option Addr} {slq5 : Array (Option Value)} {ocq5 kVq5 dcq5 pmq5 cdq5 ctq5 : Value}
    {fq6 : Addr} {odq6 anq6 : Option Addr} {slq6 : Array (Option Value)} {ocq6 kVq6 dcq6 pmq6 cdq6 ctq6 : Value}
    {fq7 : Addr} {odq7 anq7 : Option Addr} {slq7 : Array (Option Value)} {ocq7 kVq7 dcq7 pmq7 cdq7 ctq7 : Value}
    {fq8 : Addr} {odq8 anq8 : Option Addr} {slq8 : Array (Option Value)} {ocq8 kVq8 dcq8 pmq8 cdq8 ctq8 : Value}
    {fq9 : Addr} {odq9 anq9 : Option Addr} {slq9 : Array (Option Value)} {ocq9 kVq9 dcq9 pmq9 cdq9 ctq9 : Value}
    {fq10 : Addr} {odq10 anq10 : Option Addr} {slq10 : Array (Option Value)} {ocq10 kVq10 dcq10 pmq10 cdq10 ctq10 : Value}
    {fq11 : Addr} {odq11 anq11 : Option Addr} {slq11 : Array (Option Value)} {ocq11 kVq11 dcq11 pmq11 cdq11 ctq11 : Value}
    {fq12 : Addr} {odq12 anq12 : Option Addr} {slq12 : Array (Option Value)} {ocq12 kVq12 dcq12 pmq12 cdq12 ctq12 : Value}
    {fq13 : Addr} {odq13 anq13 : Option Addr} {slq13 : Array (Option Value)} {ocq13 kVq13 dcq13 pmq13 cdq13 ctq13 : Value}
    {r_HANDED : Addr} {o_HANDED : Obj} {its_HANDED : Array Value} {nn_HANDED : Nat}
    {u_LETTERS : Value}
    {u_LONGEST : Value}
    (aq0 : PySem.W.nsIn K mainGlobals "is_word" = some (some (.ref fq0))) (lq0 : K.lookup fq0 = some ⟨ocq0, odq0, .func (PySem.W.fnOf "is_word" "is_word" (defArgs st_is_word) (defBody st_is_word) (defScope st_is_word) .none kVq0 dcq0 pmq0 anq0 cdq0 ctq0), slq0⟩) (cq0 : PySem.W.codeIn K cdq0 "is_word" = true) (kq0 : PySem.W.keepIn K (.ref fq0) = true)
    (aq1 : PySem.W.nsIn K mainGlobals "are_sayings" = some (some (.ref fq1))) (lq1 : K.lookup fq1 = some ⟨ocq1, odq1, .func (PySem.W.fnOf "are_sayings" "are_sayings" (defArgs st_are_sayings) (defBody st_are_sayings) (defScope st_are_sayings) .none kVq1 dcq1 pmq1 anq1 cdq1 ctq1), slq1⟩) (cq1 : PySem.W.codeIn K cdq1 "are_sayings" = true) (kq1 : PySem.W.keepIn K (.ref fq1) = true)
    (aq2 : PySem.W.nsIn K mainGlobals "is_made" = some (some (.ref fq2))) (lq2 : K.lookup fq2 = some ⟨ocq2, odq2, .func (PySem.W.fnOf "is_made" "is_made" (defArgs st_is_made) (defBody st_is_made) (defScope st_is_made) .none kVq2 dcq2 pmq2 anq2 cdq2 ctq2), slq2⟩) (cq2 : PySem.W.codeIn K cdq2 "is_made" = true) (kq2 : PySem.W.keepIn K (.ref fq2) = true)
    (aq3 : PySem.W.nsIn K mainGlobals "is_plain_saying" = some (some (.ref fq3))) (lq3 : K.lookup fq3 = some ⟨ocq3, odq3, .func (PySem.W.fnOf "is_plain_saying" "is_plain_saying" (defArgs st_is_plain_saying) (defBody st_is_plain_saying) (defScope st_is_plain_saying) .none kVq3 dcq3 pmq3 anq3 cdq3 ctq3), slq3⟩) (cq3 : PySem.W.codeIn K cdq3 "is_plain_saying" = true) (kq3 : PySem.W.keepIn K (.ref fq3) = true)
    (aq4 : PySem.W.nsIn K mainGlobals "is_saying" = some (some (.ref fq4))) (lq4 : K.lookup fq4 = some ⟨ocq4, odq4, .func (PySem.W.fnOf "is_saying" "is_saying" (defArgs st_is_saying) (defBody st_is_saying) (defScope st_is_saying) .none kVq4 dcq4 pmq4 anq4 cdq4 ctq4), slq4⟩) (cq4 : PySem.W.codeIn K cdq4 "is_saying" = true) (kq4 : PySem.W.keepIn K (.ref fq4) = true)
    (aq5 : PySem.W.nsIn K mainGlobals "_law_feed" = some (some (.ref fq5))) (lq5 : K.lookup fq5 = some ⟨ocq5, odq5, .func (PySem.W.fnOf "_law_feed" "_law_feed" (defArgs st__law_feed) (defBody st__law_feed) (defScope st__law_feed) .none kVq5 dcq5 pmq5 anq5 cdq5 ctq5), slq5⟩) (cq5 : PySem.W.codeIn K cdq5 "_law_feed" = true) (kq5 : PySem.W.keepIn K (.ref fq5) = true)
    (aq6 : PySem.W.nsIn K mainGlobals "_law_draw" = some (some (.ref fq6))) (lq6 : K.lookup fq6 = some ⟨ocq6, odq6, .func (PySem.W.fnOf "_law_draw" "_law_draw" (defArgs st__law_draw) (defBody st__law_draw) (defScope st__law_draw) .none kVq6 dcq6 pmq6 anq6 cdq6 ctq6), slq6⟩) (cq6 : PySem.W.codeIn K cdq6 "_law_draw" = true) (kq6 : PySem.W.keepIn K (.ref fq6) = true)
    (aq7 : PySem.W.nsIn K mainGlobals "_law_spoilt" = some (some (.ref fq7))) (lq7 : K.lookup fq7 = some ⟨ocq7, odq7, .func (PySem.W.fnOf "_law_spoilt" "_law_spoilt" (defArgs st__law_spoilt) (defBody st__law_spoilt) (defScope st__law_spoilt) .none kVq7 dcq7 pmq7 anq7 cdq7 ctq7), slq7⟩) (cq7 : PySem.W.codeIn K cdq7 "_law_spoilt" = true) (kq7 : PySem.W.keepIn K (.ref fq7) = true)
    (aq8 : PySem.W.nsIn K mainGlobals "_law_is_word" = some (some (.ref fq8))) (lq8 : K.lookup fq8 = some ⟨ocq8, odq8, .func (PySem.W.fnOf "_law_is_word" "_law_is_word" (defArgs st__law_is_word) (defBody st__law_is_word) (defScope st__law_is_word) .none kVq8 dcq8 pmq8 anq8 cdq8 ctq8), slq8⟩) (cq8 : PySem.W.codeIn K cdq8 "_law_is_word" = true) (kq8 : PySem.W.keepIn K (.ref fq8) = true)
    (aq9 : PySem.W.nsIn K mainGlobals "_law_is_saying" = some (some (.ref fq9))) (lq9 : K.lookup fq9 = some ⟨ocq9, odq9, .func (PySem.W.fnOf "_law_is_saying" "_law_is_saying" (defArgs st__law_is_saying) (defBody st__law_is_saying) (defScope st__law_is_saying) .none kVq9 dcq9 pmq9 anq9 cdq9 ctq9), slq9⟩) (cq9 : PySem.W.codeIn K cdq9 "_law_is_saying" = true) (kq9 : PySem.W.keepIn K (.ref fq9) = true)
    (aq10 : PySem.W.nsIn K mainGlobals "_law_saying" = some (some (.ref fq10))) (lq10 : K.lookup fq10 = some ⟨ocq10, odq10, .func (PySem.W.fnOf "_law_saying" "_law_saying" (defArgs st__law_saying) (defBody st__law_saying) (defScope st__law_saying) .none kVq10 dcq10 pmq10 anq10 cdq10 ctq10), slq10⟩) (cq10 : PySem.W.codeIn K cdq10 "_law_saying" = true) (kq10 : PySem.W.keepIn K (.ref fq10) = true)
    (aq11 : PySem.W.nsIn K mainGlobals "_law_letters" = some (some (.ref fq11))) (lq11 : K.lookup fq11 = some ⟨ocq11, odq11, .func (PySem.W.fnOf "_law_letters" "_law_letters" (defArgs st__law_letters) (defBody st__law_letters) (defScope st__law_letters) .none kVq11 dcq11 pmq11 anq11 cdq11 ctq11), slq11⟩) (cq11 : PySem.W.codeIn K cdq11 "_law_letters" = true) (kq11 : PySem.W.keepIn K (.ref fq11) = true)
    (aq12 : PySem.W.nsIn K mainGlobals "_law_near" = some (some (.ref fq12))) (lq12 : K.lookup fq12 = some ⟨ocq12, odq12, .func (PySem.W.fnOf "_law_near" "_law_near" (defArgs st__law_near) (defBody st__law_near) (defScope st__law_near) .none kVq12 dcq12 pmq12 anq12 cdq12 ctq12), slq12⟩) (cq12 : PySem.W.codeIn K cdq12 "_law_near" = true) (kq12 : PySem.W.keepIn K (.ref fq12) = true)
    (aq13 : PySem.W.nsIn K mainGlobals "law" = some (some (.ref fq13))) (lq13 : K.lookup fq13 = some ⟨ocq13, odq13, .func (PySem.W.fnOf "law" "law" (defArgs st_law) (defBody st_law) (defScope st_law) .none kVq13 dcq13 pmq13 anq13 cdq13 ctq13), slq13⟩) (cq13 : PySem.W.codeIn K cdq13 "law" = true) (kq13 : PySem.W.keepIn K (.ref fq13) = true)
    (z_all : PySem.W.nsIn K mainGlobals "all" = some none)
    (z_isinstance : PySem.W.nsIn K mainGlobals "isinstance" = some none)
    (z_len : PySem.W.nsIn K mainGlobals "len" = some none)
    (z_list : PySem.W.nsIn K mainGlobals "list" = some none)
    (z_range : PySem.W.nsIn K mainGlobals "range" = some none)
    (z_repr : PySem.W.nsIn K mainGlobals "repr" = some none)
    (z_str : PySem.W.nsIn K mainGlobals "str" = some none)
    (z_tuple : PySem.W.nsIn K mainGlobals "tuple" = some none)
    (g_HANDED : PySem.W.nsIn K mainGlobals "HANDED" = some (some (.ref r_HANDED))) (h_HANDED : K.lookup r_HANDED = some o_HANDED) (n_HANDED : o_HANDED.dict = none) (i_HANDED : o_HANDED.cls = .type "tuple") (e_HANDED : o_HANDED.data = .seq its_HANDED nn_HANDED) (s_HANDED : TupL its_HANDED.toList [(.str "must"), (.str "may")])
    (g_LETTERS : PySem.W.nsIn K mainGlobals "LETTERS" = some (some u_LETTERS)) (e_LETTERS : RelV (.str "abcdefghijklmnopqrstuvwxyz") u_LETTERS)
    (g_LONGEST : PySem.W.nsIn K mainGlobals "LONGEST" = some (some u_LONGEST)) (e_LONGEST : RelV (.int 8) u_LONGEST)
    : ∃ fd : FuncData, (∀ (s : Shared) (v : Value), BindsTo s fd ⟨[v], []⟩ [("_law_script", v)]) ∧ ∀ base : Heap, K.In base → base.Ns mainGlobals mg → FnG P w K mg base CX0 200 fa fd ["_law_script"] (spD ⟨K, mg, w⟩ 1 (Gam 200 13)) := by
  have e := hfa.symm.trans (PySem.W.mg_of X G aq13)
  cases e
  let T : Tx K mg w := {
    a_is_word := fq0,
    d_is_word := _,
    f_is_word := fun_mk (st := st_is_word) lq0 cq0 kq0,
    m_is_word := PySem.W.mg_of X G aq0,
    b_is_word := (fun_mk (st := st_is_word) lq0 cq0 kq0).binds (ps := ["thing"]) fun _ _ _ _ _ _ us hl => match us, hl with | [_], _ => rfl,
    a_are_sayings := fq1,
    d_are_sayings := _,
    f_are_sayings := fun_mk (st := st_are_sayings) lq1 cq1 kq1,
    m_are_sayings := PySem.W.mg_of X G aq1,
    b_are_sayings := (fun_mk (st := st_are_sayings) lq1 cq1 kq1).binds (ps := ["thing", "is_one"]) fun _ _ _ _ _ _ us hl => match us, hl with | [_, _], _ => rfl,
    a_is_made := fq2,
    d_is_made := _,
    f_is_made := fun_mk (st := st_is_made) lq2 cq2 kq2,
    m_is_made := PySem.W.mg_of X G aq2,
    b_is_made := (fun_mk (st := st_is_made) lq2 cq2 kq2).binds (ps := ["thing", "is_one"]) fun _ _ _ _ _ _ us hl => match us, hl with | [_, _], _ => rfl,
    a_is_plain_saying := fq3,
    d_is_plain_saying := _,
    f_is_plain_saying := fun_mk (st := st_is_plain_saying) lq3 cq3 kq3,
    m_is_plain_saying := PySem.W.mg_of X G aq3,
    b_is_plain_saying := (fun_mk (st := st_is_plain_saying) lq3 cq3 kq3).binds (ps := ["thing"]) fun _ _ _ _ _ _ us hl => match us, hl with | [_], _ => rfl,
    a_is_saying := fq4,
    d_is_saying := _,
    f_is_saying := fun_mk (st := st_is_saying) lq4 cq4 kq4,
    m_is_saying := PySem.W.mg_of X G aq4,
    b_is_saying := (fun_mk (st := st_is_saying) lq4 cq4 kq4).binds (ps := ["thing"]) fun _ _ _ _ _ _ us hl => match us, hl with | [_], _ => rfl,
    a__law_feed := fq5,
    d__law_feed := _,
    f__law_feed := fun_mk (st := st__law_feed) lq5 cq5 kq5,
    m__law_feed := PySem.W.mg_of X G aq5,
    b__law_feed := (fun_mk (st := st__law_feed) lq5 cq5 kq5).binds (ps := ["_law_script"]) fun _ _ _ _ _ _ us hl => match us, hl with | [_], _ => rfl,
    a__law_draw := fq6,
    d__law_draw := _,
    f__law_draw := fun_mk (st := st__law_draw) lq6 cq6 kq6,
    m__law_draw := PySem.W.mg_of X G aq6,
    b__law_draw := (fun_mk (st := st__law_draw) lq6 cq6 kq6).binds (ps := ["_law_feed_here", "_law_many"]) fun _ _ _ _ _ _ us hl => match us, hl with | [_, _], _ => rfl,
    a__law_spoilt := fq7,
    d__law_spoilt := _,
    f__law_spoilt := fun_mk (st := st__law_spoilt) lq7 cq7 kq7,
    m__law_spoilt := PySem.W.mg_of X G aq7,
    b__law_spoilt := (fun_mk (st := st__law_spoilt) lq7 cq7 kq7).binds (ps := ["_law_feed_here", "_law_thing", "_law_menu"]) fun _ _ _ _ _ _ us hl => match us, hl with | [_, _, _], _ => rfl,
    a__law_is_word := fq8,
    d__law_is_word := _,
    f__law_is_word := fun_mk (st := st__law_is_word) lq8 cq8 kq8,
    m__law_is_word := PySem.W.mg_of X G aq8,
    b__law_is_word := (fun_mk (st := st__law_is_word) lq8 cq8 kq8).binds (ps := ["_law_thing"]) fun _ _ _ _ _ _ us hl => match us, hl with | [_], _ => rfl,
    a__law_is_saying := fq9,
    d__law_is_saying := _,
    f__law_is_saying := fun_mk (st := st__law_is_saying) lq9 cq9 kq9,
    m__law_is_saying := PySem.W.mg_of X G aq9,
    b__law_is_saying := (fun_mk (st := st__law_is_saying) lq9 cq9 kq9).binds (ps := ["_law_thing", "_law_told"]) fun _ _ _ _ _ _ us hl => match us, hl with | [_, _], _ => rfl,
    a__law_saying := fq10,
    d__law_saying := _,
    f__law_saying := fun_mk (st := st__law_saying) lq10 cq10 kq10,
    m__law_saying := PySem.W.mg_of X G aq10,
    b__law_saying := (fun_mk (st := st__law_saying) lq10 cq10 kq10).binds (ps := ["_law_feed_here", "_law_left", "_law_told"]) fun _ _ _ _ _ _ us hl => match us, hl with | [_, _, _], _ => rfl,
    a__law_letters := fq11,
    d__law_letters := _,
    f__law_letters := fun_mk (st := st__law_letters) lq11 cq11 kq11,
    m__law_letters := PySem.W.mg_of X G aq11,
    b__law_letters := (fun_mk (st := st__law_letters) lq11 cq11 kq11).binds (ps := ["_law_feed_here"]) fun _ _ _ _ _ _ us hl => match us, hl with | [_], _ => rfl,
    a__law_near := fq12,
    d__law_near := _,
    f__law_near := fun_mk (st := st__law_near) lq12 cq12 kq12,
    m__law_near := PySem.W.mg_of X G aq12,
    b__law_near := (fun_mk (st := st__law_near) lq12 cq12 kq12).binds (ps := ["_law_s"]) fun _ _ _ _ _ _ us hl => match us, hl with | [_], _ => rfl,
    a_law := fa,
    d_law := _,
    f_law := fun_mk (st := st_law) lq13 cq13 kq13,
    m_law := PySem.W.mg_of X G aq13,
    b_law := (fun_mk (st := st_law) lq13 cq13 kq13).binds (ps := ["_law_script"]) fun _ _ _ _ _ _ us hl => match us, hl with | [_], _ => rfl,
    n_all := PySem.W.mg_none_of X G z_all,
    n_isinstance := PySem.W.mg_none_of X G z_isinstance,
    n_len := PySem.W.mg_none_of X G z_len,
    n_list := PySem.W.mg_none_of X G z_list,
    n_range := PySem.W.mg_none_of X G z_range,
    n_repr := PySem.W.mg_none_of X G z_repr,
    n_str := PySem.W.mg_none_of X G z_str,
    n_tuple := PySem.W.mg_none_of X G z_tuple,
    w_HANDED := .ref r_HANDED,
    u_HANDED := .ref r_HANDED,
    m_HANDED := PySem.W.mg_of X G g_HANDED,
    v_HANDED := rfl,
    r_HANDED := fun _ _ => tup_of h_HANDED n_HANDED i_HANDED e_HANDED s_HANDED,
    w_LETTERS := (.str "abcdefghijklmnopqrstuvwxyz"),
    u_LETTERS := u_LETTERS,
    m_LETTERS := PySem.W.mg_of X G g_LETTERS,
    v_LETTERS := e_LETTERS,
    r_LETTERS := fun _ _ => rfl,
    w_LONGEST := (.int 8),
    u_LONGEST := u_LONGEST,
    m_LONGEST := PySem.W.mg_of X G g_LONGEST,
    v_LONGEST := e_LONGEST,
    r_LONGEST := fun _ _ => rfl }
  exact ⟨_, fun s v => .of_eq rfl, fun base _ _ => (oks P base T 200).o13⟩
end Pg
open PySem PySem.W PyProof.Rows
theorem PySem.Challenge.cw_mustmays_k01_sayings_by_kind_holds : PySem.Challenge.rw_mustmays_k01_sayings_by_kind.Holds := by
  w_on; o_law; k_head; (case hw => w_witness2)
  k_fill
  refine Dn.walk_law (l := PySem.Challenge.rw_mustmays_k01_sayings_by_kind) (n := 63) (k := 200) (x := "_law_script") (F := Pg.Gam 200 13) rfl (by decide) rfl ⟨rfl, by decide, by decide⟩ (fun w h Y => PySem.W.kIn_of Y) ?F Pg.law_true
  case F =>
    intro w mg fa h KX G hmg
    refine' Pg.all_mk KX G hmg ?aq0 ?lq0 ?cq0 ?kq0 ?aq1 ?lq1 ?cq1 ?kq1 ?aq2 ?lq2 ?cq2 ?kq2 ?aq3 ?lq3 ?cq3 ?kq3 ?aq4 ?lq4 ?cq4 ?kq4 ?aq5 ?lq5 ?cq5 ?kq5 ?aq6 ?lq6 ?cq6 ?kq6 ?aq7 ?lq7 ?cq7 ?kq7 ?aq8 ?lq8 ?cq8 ?kq8 ?aq9 ?lq9 ?cq9 ?kq9 ?aq10 ?lq10 ?cq10 ?kq10 ?aq11 ?lq11 ?cq11 ?kq11 ?aq12 ?lq12 ?cq12 ?kq12 ?aq13 ?lq13 ?cq13 ?kq13 ?z_all ?z_isinstance ?z_len ?z_list ?z_range ?z_repr ?z_str ?z_tuple ?g_HANDED ?h_HANDED ?n_HANDED ?i_HANDED ?e_HANDED ?s_HANDED ?g_LETTERS ?e_LETTERS ?g_LONGEST ?e_LONGEST
    (case aq0 => k_is)
    (case lq0 => k_is)
    (case cq0 => k_is)
    (case kq0 => k_is)
    (case aq1 => k_is)
    (case lq1 => k_is)
    (case cq1 => k_is)
    (case kq1 => k_is)
    (case aq2 => k_is)
    (case lq2 => k_is)
    (case cq2 => k_is)
    (case kq2 => k_is)
    (case aq3 => k_is)
    (case lq3 => k_is)
    (case cq3 => k_is)
    (case kq3 => k_is)
    (case aq4 => k_is)
    (case lq4 => k_is)
    (case cq4 => k_is)
    (case kq4 => k_is)
    (case aq5 => k_is)
    (case lq5 => k_is)
    (case cq5 => k_is)
    (case kq5 => k_is)
    (case aq6 => k_is)
    (case lq6 => k_is)
    (case cq6 => k_is)
    (case kq6 => k_is)
    (case aq7 => k_is)
    (case lq7 => k_is)
    (case cq7 => k_is)
    (case kq7 => k_is)
    (case aq8 => k_is)
    (case lq8 => k_is)
    (case cq8 => k_is)
    (case kq8 => k_is)
    (case aq9 => k_is)
    (case lq9 => k_is)
    (case cq9 => k_is)
    (case kq9 => k_is)
    (case aq10 => k_is)
    (case lq10 => k_is)
    (case cq10 => k_is)
    (case kq10 => k_is)
    (case aq11 => k_is)
    (case lq11 => k_is)
    (case cq11 => k_is)
    (case kq11 => k_is)
    (case aq12 => k_is)
    (case lq12 => k_is)
    (case cq12 => k_is)
    (case kq12 => k_is)
    (case aq13 => k_is)
    (case lq13 => k_is)
    (case cq13 => k_is)
    (case kq13 => k_is)
    (case z_all => k_is)
    (case z_isinstance => k_is)
    (case z_len => k_is)
    (case z_list => k_is)
    (case z_range => k_is)
    (case z_repr => k_is)
    (case z_str => k_is)
    (case z_tuple => k_is)
    (case g_HANDED => k_is)
    (case h_HANDED => k_is)
    (case g_LETTERS => k_is)
    (case g_LONGEST => k_is)
    (case n_HANDED => rfl)
    (case i_HANDED => rfl)
    (case e_HANDED => rfl)
    (case s_HANDED => exact ⟨⟨_, rfl⟩, ⟨_, rfl⟩, trivial⟩)
    (case e_LETTERS => exact ⟨_, rfl⟩)
    (case e_LONGEST => exact ⟨_, rfl⟩)

