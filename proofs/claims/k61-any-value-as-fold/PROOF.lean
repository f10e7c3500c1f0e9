import PyProof.Rows.All
import Wide.All
import OpenK.AllK
import Wide.FinOn
import HandS.TupAny
import HandS.WideBits
import HandS.List
import HandS.Dict
import KE.KDictPairs
import HandS.TupMul
import HandS.ForMost
import HandS.IsInst
import HandS.SetKeys
import KE.KDictKeyed
import HandS.Defaults
import HandS.Words
import HandS.MakeKwOnly
import HandS.Comp
import HandS.Iter
import HandS.Deep
import KE.DataCmp
import HandS.More
import KE.DataMinMax
import KE.SortData
import HandS.Remove
import HandS.Style
import KE.DataFind
import PyProof.Rows.RegFStrParts
import HandS.SetFor
import HandS.HeadEnd
import HandS.SetBool
import HandS.TupSets
import HandS.SortInts
import HandS.Conv
import HandS.Text
import KE.GoesEnum
import PyProof.IsRules
import HandS.SortOrd
import HandS.DictTup
import KE.KSortTupAny
import HandS.DictEq
import PyProof.FitsInt
import PyProof.Rows.ReprOcc
import HandS.Head0
import HandS.Head1
import HandS.Head2
import HandS.HeadHook1
import HandS.HeadHook2
import PySem.Challenge.RW_markedrows_k61_any_value_as_fold
section
set_option Elab.async false
set_option linter.all false
set_option maxRecDepth 100000
set_option maxHeartbeats 4000000
namespace DV
open PySem PySem.Spec PyProof.Rows L2
/-! ### new tuples, with what stands at their address: no dict of their own -/
section
variable {X : Cx} {pins : List (Addr × Obj)} {σ : L2.St} {H : Hp} {s : Shared} {Q : VK}
/-- the object that a new tuple is -/
abbrev tupO (us : List Value) : Obj := { cls := .type "tuple", data := .seq us.toArray }
/-- what is wanted where a tuple is made: it has no dict of its own -/
def NewT (H : Hp) (Q : VK) (vs : List V) : Prop := ∀ (p : Addr) (o : Obj), H p = none → o.dict = none → Q (.ref p) (upd H p (.frz o (.tup vs)))
theorem laidZ {vs : List V} {us : List Value} {k : Tok} (I : Inv X pins σ H s) (rel : Vals vs us) (room : vs.length ≤ sizeLine) (new : NewT H Q vs) :
    EP X pins σ Q (.ref s.heap.objs.size) { s with toks := k, heap := s.heap.push (tupO us) } := by
  have at_end : (s.heap.push (tupO us)).get? s.heap.objs.size = some (tupO us) := Heap.get?_push_size _ rfl
  have I2 := I.laid (t' := k) (h' := s.heap.push (tupO us)) (a := s.heap.objs.size) (o := .frz (tupO us) (.tup vs)) (fun _ _ e => Heap.get?_push_of_some _ e) (Nat.le_refl _) ⟨at_end, room, us, rel, IsTup.new _ _⟩
  exact ⟨.ref s.heap.objs.size, _, I2, rfl, new _ _ (I.hok.fresh (Nat.le_refl _)) rfl⟩
end
section
variable {X : Cx} {es : List Expr} {t : TA} {pos : Pos}
def tTupZ (t : TA) : TE := fun σ H Q => t σ H fun xs H1 => xs.length ≤ sizeLine ∧ NewT H1 Q xs
theorem pe_tupZ {x1} (h : PA X es t) : PE X (.Tuple es x1 pos) (tTupZ t) where
  run pins s σ H Q I want := by
    have items := h.run pos pins s σ H _ I want
    refine wpAny_Tuple_spliced (thn items fun us s1 got => ?_)
    obtain ⟨xs, H1, I1, rel, room, new⟩ := got
    refine ⟨?_, laidZ (k := s1.toks) I1 rel room new⟩
    have := rel.length
    omega
/-- t + u -/
def rCatZ (K : PySem.W.Frag) : R2 := fun x y H Q => ∃ a b xs ys, x = .ref a ∧ y = .ref b ∧ SqT K H a xs ∧ SqT K H b ys ∧ xs.length + ys.length ≤ sizeLine ∧
  (xs = [] → Q (.ref b) H) ∧ (xs ≠ [] → ys = [] → Q (.ref a) H) ∧ (xs ≠ [] → ys ≠ [] → NewT H Q (xs ++ ys))
theorem op_catZ : OpR X (binaryOp .Add) (rCatZ X.K) := by
  rintro pins s σ H x y v u Q I rx ry ⟨a, b, xs, ys, rfl, rfl, hl, hr, room, w0, w1, w2⟩
  cases rx; cases ry
  obtain ⟨us, e1, t1, _⟩ := I.tuple hl
  obtain ⟨ws, e2, t2, _⟩ := I.tuple hr
  have n1 := e1.length
  have n2 := e2.length
  cases us with
  | nil =>
    have : xs = [] := List.eq_nil_of_length_eq_zero n1
    exact cat_tup0 t1 t2 ⟨.ref b, _, I, rfl, w0 this⟩
  | cons z zs =>
    have nx : xs ≠ [] := fun e => by rw [e] at n1; cases n1
    refine HT.cat_tup t1 t2 (by simp) (fun e => ⟨.ref a, _, I, rfl, w1 nx (e2.nil_iff.mp e)⟩) (fun e => ?_) (by omega)
    exact laidZ (k := s.toks) I (e1.append e2) (by simpa using room) (w2 nx fun z => e (e2.nil_iff.mpr z))
/-- t[lo:hi] -/
def rSlZ (K : PySem.W.Frag) : V → Option Int → Option Int → Hp → VK → Prop := fun x lo hi H Q => ∃ a xs, x = .ref a ∧ SqT K H a xs ∧
  (HT.sIx xs.length 0 lo = 0 ∧ HT.sIx xs.length xs.length hi = xs.length → Q (.ref a) H) ∧ (¬ (HT.sIx xs.length 0 lo = 0 ∧ HT.sIx xs.length xs.length hi = xs.length) → NewT H Q (cutV xs lo hi))
theorem sl_tupZ : SlR X (rSlZ X.K) := by
  rintro pins s σ H x v vl vu lo hi sl Q I rx hs pl pu ⟨a, xs, rfl, hx, whole, part⟩
  cases rx
  obtain ⟨us, rel, tp, room⟩ := I.tuple hx
  have n : us.toArray.size = xs.length := by simp [rel.length]
  refine ⟨"tuple", _, PyProof.Rows.slot_tuple_getitem.lookup, tp.typeIs, ?_⟩
  rcases Classical.em (HT.sIx xs.length 0 lo = 0 ∧ HT.sIx xs.length xs.length hi = xs.length) with all | some
  · exact getItem_tuple_whole tp hs pl pu (n ▸ all) ⟨.ref a, _, I, rfl, whole all⟩
  · refine HT.getItem_tuple_cut tp hs pl pu (n ▸ some) ?_ (n ▸ room)
    rw [n]
    have cut := (rel.drop (HT.sIx xs.length 0 lo)).take (HT.sIx xs.length xs.length hi - HT.sIx xs.length 0 lo)
    exact laidZ (k := s.toks) I cut (Nat.le_trans (cutV_length xs lo hi) room) (part some)
/-- tuple(x) -/
theorem call_tupleZ : CallR X (.type "tuple") (fun xs H Q => ∃ p ys, xs = [.ref p] ∧ ((SqL X.K H p ys ∧ NewT H Q ys) ∨ (SqT X.K H p ys ∧ Q (.ref p) H))) := by
  rintro pins s σ H xs us Q I args ⟨p, ys, rfl, how⟩
  obtain ⟨w, rfl, rw1⟩ := vals1 args
  cases rw1
  cases how with
  | inl hl =>
    obtain ⟨items, rel, pl, room⟩ := I.list hl.1
    have n := rel.length
    refine call_tuple_list pl.isList (fun h2 keep => ?_) (by simp; omega)
    exact laidZ (s := { s with heap := h2 }) (k := s.toks) (I.kept (t' := s.toks) keep) rel room hl.2
  | inr hr =>
    obtain ⟨items, _, tp, _⟩ := I.tuple hr.1
    exact call_tuple_same tp ⟨.ref p, _, I, rfl, hr.2⟩
/-- divmod -/
theorem call_divmodZ : CallR X (.builtin "divmod") (fun xs H Q => ∃ i j, xs = [.int i, .int j] ∧ CDiv i j ∧ NewT H Q [.int (i / j), .int (i % j)]) := by
  rintro pins s σ H xs us Q I args ⟨i, j, rfl, ⟨pos, small⟩, new⟩
  obtain ⟨u1, u2, rfl, ⟨t1, rfl⟩, ⟨t2, rfl⟩⟩ := vals2 args
  refine divmod_int (by omega) ?_ (.inl (PyProof.noPylong_small (by omega)))
  have nn : 0 ≤ j := by omega
  have two : Vals [V.int (i / j), V.int (i % j)] [Value.int (i.fdiv j) s.toks, Value.int (i.fmod j) (s.toks + 1)] := by
    rw [Int.fdiv_eq_ediv_of_nonneg i nn, Int.fmod_eq_emod_of_nonneg i nn]
    exact .cons ⟨_, rfl⟩ (.cons ⟨_, rfl⟩ .nil)
  exact laidZ I two (by rw [sizeLine_eq]; simp) new
/-- t * k -/
def rRepZ (K : PySem.W.Frag) : R2 := fun x y H Q => ∃ l k xs, x = .ref l ∧ y = .int k ∧ SqT K H l xs ∧ xs ≠ [] ∧ 2 ≤ k ∧ k ≤ 1000 ∧ xs.length ≤ 1000 ∧ NewT H Q (List.replicate k.toNat xs).flatten
/-- what t * k wants of the sizes -/
theorem rep_sizes {its : List Value} {k : Int} (hne : its ≠ []) (h1 : 2 ≤ k) (h2 : k ≤ 1000) (hz : its.length ≤ 1000) :
    (decide (k < -(2 ^ 63)) || decide (k ≥ 2 ^ 63)) = false ∧ (its.toArray.isEmpty || k == 1) = false ∧ (decide (k ≤ 0) || its.toArray.isEmpty) = false ∧ ((its.toArray.size : Nat) : Int) * k ≤ 1000000 ∧
      (List.replicate k.toNat its).flatten.length ≤ sizeLine ∧ 0 ≤ ((its.toArray.size : Nat) : Int) * k := by
  have ne : its.toArray.isEmpty = false := by cases its <;> first | exact absurd rfl hne | rfl
  have k1 : (k == 1) = false := by simp; omega
  have mu : (its.length : Int) * k ≤ 1000 * 1000 := Int.mul_le_mul (by omega) h2 (by omega) (by omega)
  have nn : 0 ≤ (its.length : Int) * k := Int.mul_nonneg (by omega) (by omega)
  have mun : k.toNat * its.length ≤ 1000 * 1000 := Nat.mul_le_mul (by omega) hz
  refine ⟨by simp; omega, by simp [ne, k1], by simp [ne]; omega, by simpa using mu, ?_, by simpa using nn⟩
  rw [PyProof.Rows.lm_len_rep_flat, sizeLine_eq]
  omega
theorem op_repZ : OpR X (binaryOp .Mult) (rRepZ X.K) := by
  rintro pins s σ H x y v u Q I rx ry ⟨l, k, xs, rfl, rfl, hT, hne, h1, h2, hz, q⟩
  cases rx
  obtain ⟨t, rfl⟩ := ry
  obtain ⟨its, r, ht, hs⟩ := I.tuple hT
  have el := r.length
  obtain ⟨o1, ho, hc, n, hd⟩ := ht
  obtain ⟨cc, dd, dt, sl⟩ := o1
  cases (show cc = Value.type "tuple" from hc)
  cases (show dt = Data.seq its.toArray n from hd)
  obtain ⟨z0, z1, z2, z3, z4, z5⟩ := rep_sizes (k := k) (its := its) (fun e => hne (by rw [e] at el; exact List.eq_nil_of_length_eq_zero el)) h1 h2 (by omega)
  have z6 : Builtin.Tuple.tupleTooMany (((its.toArray.size : Nat) : Int) * k) = false := by
    unfold Builtin.Tuple.tupleTooMany; rw [sizeLine_eq]; simp; simp at z3; omega
  have cl := tuple_mulW l its.toArray n dd sl k t z0 z1 z2 (by omega) z6 (by rw [size_rep]; simpa using z4)
  have tyT : s.TypeIs (.ref l) "tuple" := ⟨_, ho, rfl⟩
  have fin := laidZ (k := s.toks) I (r.rep k.toNat) (by rw [PyProof.Rows.lm_len_rep_flat] at z4 ⊢; rw [el]; exact z4) q
  unfold tupO at fin
  rw [← size_rep] at fin
  refine wpAny_binaryOp_repeat_ref (by decide) tyT (fun s' => typeIs_int s' k t) noFill_tuple_mul F.fills_int_mul F.slot_int_rmul repeat_tuple F.slot_int_index.lookup ?_
  refine call_meets F.slot_int_rmul (typeIs_int s k t) F.entry_int_rmul (F.args_int_rmul_2 _ _) (int_rmul_tuple k t l its.toArray n dd sl) ⟨ho, rfl, tyT, ?_⟩
  exact call_meets F.slot_tuple_mul tyT F.entry_tuple_mul (F.args_tuple_mul_2 _ _) cl ⟨ho, fin⟩
/-- dict(t) of a tuple of pairs that has no dict of its own -/
def PlT (K : PySem.W.Frag) (H : Hp) (a : Addr) (xs : List V) : Prop := (∃ o, H a = some (.frz o (.tup xs)) ∧ o.dict = none) ∨
  ∃ (o : Obj) (its : Array Value) (n : Nat), K.lookup a = some o ∧ o.cls = .type "tuple" ∧ o.dict = none ∧ o.data = .seq its n ∧ its.size ≤ sizeLine ∧ Vals xs its.toList
theorem PlT.seq {pins : List (Addr × Obj)} {σ : L2.St} {H : Hp} {s : Shared} (I : Inv X pins σ H s) {a : Addr} {xs : List V} (h : PlT X.K H a xs) : ∃ its : List Value, Vals xs its ∧ PySem.PlainSeq "tuple" s.heap a its.toArray ∧ xs.length ≤ sizeLine := by
  rcases h with ⟨o, h, hd⟩ | ⟨o, its, n, hk, hc, hd, hs, hz, r⟩
  · obtain ⟨e, z, its, r, o', e', hc, n, hdat⟩ := I.hok _ _ h
    rw [e] at e'
    cases e'
    exact ⟨its, r, ⟨o, n, e, hc, hd, hdat⟩, z⟩
  · refine ⟨its.toList, r, ⟨o, n, I.kIn a o hk, hc, hd, by simpa using hs⟩, ?_⟩
    have e := r.length
    simp only [Array.length_toList] at e
    omega
/-- the pairs' keys and values -/
theorem pairs_ofV {pins : List (Addr × Obj)} {σ : L2.St} {H : Hp} {s : Shared} (I : Inv X pins σ H s) {as : List Addr} {kvs : List (Key × V)} (hp : Paired (fun a kv => SqT X.K H a [kV kv.1, kv.2]) as kvs) :
    ∃ (ents : List (Key × Value)) (pv : List (Value × Value)), KV kvs ents ∧ ents.length = as.length ∧ pv.length = as.length ∧ ∀ (j : Nat) (k v : Value), pv[j]? = some (k, v) → (∃ a, as[j]? = some a ∧ IsTup s.heap a #[k, v]) ∧ ∃ key, ents[j]? = some (key, v) ∧ keyIs key k = true := by
  induction hp with
  | nil => exact ⟨[], [], .nil, rfl, rfl, fun j k v e => by cases e⟩
  | @cons a kv as kvs head tail ih =>
    obtain ⟨ents, pv, all, n1, n2, look⟩ := ih
    obtain ⟨its, rel, tp, _⟩ := I.tuple head
    obtain ⟨ku, vu, rfl, rk, rv⟩ := vals2 rel
    refine ⟨(kv.1, vu) :: ents, (ku, vu) :: pv, .cons ⟨rfl, rv⟩ all, by simp [n1], by simp [n2], fun j k v e => ?_⟩
    match j, e with
    | 0, e =>
      cases (Option.some.inj e : (ku, vu) = (k, v))
      exact ⟨⟨a, rfl, tp⟩, kv.1, rfl, kV_is (P := X.prog) (w := X.w) rk⟩
    | j + 1, e => simpa using look j k v (by simpa using e)
theorem call_dictTZ (hcalm : X.calm = true) : CallR X (.type "dict") (fun xs H Q => ∃ (a : Addr) (ps : List Addr) (kvs : List (Key × V)), xs = [.ref a] ∧ PlT X.K H a (ps.map V.ref) ∧ Paired (fun p kv => SqT X.K H p [kV kv.1, kv.2]) ps kvs ∧
    ∀ p, H p = none → Q (.ref p) (upd H p (.dK (mergeK [] kvs)))) := by
  rintro pins s σ H xs us Q I args ⟨a, ps, kvs, rfl, seq, prs, want⟩
  obtain ⟨w, rfl, rw1⟩ := vals1 args
  cases rw1
  obtain ⟨its, rel, pl, room⟩ := PlT.seq I seq
  cases refs_at rel
  obtain ⟨ents, pv, all, n1, n2, look⟩ := pairs_ofV I prs
  have items : PairItems s.heap (ps.map Value.ref).toArray (fun j => ps.getD j 0) pv := ⟨by simp [n2], fun j k v e => by
    obtain ⟨⟨b, e1, e2⟩, _⟩ := look j k v e
    have : ps.getD j 0 = b := by rw [List.getD_eq_getElem?_getD, e1]; rfl
    simp only [this]
    exact ⟨by simp [e1], .inl e2⟩⟩
  have room2 : pv.length ≤ sizeLine := by simpa [n2] using room
  refine PySem.call_dict_pairs (knd := mixKind X.prog X.w) (kvs := ents) (PairArg.tuple a _ _ pv) (I.ok.hd hcalm) ⟨pl, items⟩ ⟨by rw [n1, n2], fun j k v e => (look j k v e).2⟩ room2 fun h2 tk isD keep => ?_
  have not_sys : (s.heap.objs.size == sysModules) = false := by simpa using Nat.ne_of_gt I.big
  have few : (mergeK [] kvs).length ≤ sizeLine := Nat.le_trans (length_mergeK kvs []) (by have := all.length; simp; omega)
  exact ⟨.ref s.heap.objs.size, _, I.laid (t' := tk) (o := .dK (mergeK [] kvs)) (fun b o e => keep b o (by simp) e) (Nat.le_refl _) ⟨few, not_sys, _, KV.merge all .nil, isD⟩, rfl, want _ (I.hok.fresh (Nat.le_refl _))⟩
end
end DV
end
section
set_option Elab.async false
set_option linter.all false
set_option maxRecDepth 100000
namespace DV
open PySem PySem.Spec PyProof.Rows L2

abbrev D := PyData
/-- what a value is at the other end of a list of pairs -/
inductive All2 {α β : Type} (R : α → β → Prop) : List α → List β → Prop
  | nil : All2 R [] []
  | cons {a b as bs} : R a b → All2 R as bs → All2 R (a :: as) (b :: bs)
theorem All2.imp {α β : Type} {R S : α → β → Prop} (h : ∀ a b, R a b → S a b) : ∀ {as bs}, All2 R as bs → All2 S as bs
  | _, _, .nil => .nil
  | _, _, .cons r t => .cons (h _ _ r) (All2.imp h t)
theorem All2.length {α β : Type} {R : α → β → Prop} : ∀ {as bs}, All2 R as bs → as.length = bs.length
  | _, _, .nil => rfl
  | _, _, .cons _ t => by rw [List.length_cons, List.length_cons, t.length]

def keyD : Key → D
  | .inl i => .int i
  | .inr x => .str x

/-- the module's fixed things, and the world -/
structure KW where
  k : PySem.W.Frag
  w : World
instance : Coe KW PySem.W.Frag := ⟨KW.k⟩
abbrev KW.lookup (K : KW) (a : Addr) : Option Obj := K.k.lookup a
/-- .. of a place -/
abbrev _root_.L2.Cx.KW (X : Cx) : DV.KW := ⟨X.K, X.w⟩
/-- a list to be read at a: tracked and not hidden, or one of the module's -/
def SqLo (K : KW) (H : Hp) (O : Addr → Prop) (a : Addr) (xs : List V) : Prop :=
  (Rd H a (.lst xs) ∧ ¬ O a) ∨ ∃ (o : Obj) (its : Array Value) (n : Nat), K.lookup a = some o ∧ o.cls = .type "list" ∧ o.dict = none ∧ o.data = .seq its n ∧ its.size ≤ sizeLine ∧ Vals xs its.toList
def SqTo (K : KW) (H : Hp) (O : Addr → Prop) (a : Addr) (xs : List V) : Prop :=
  ((∃ o : Obj, H a = some (.frz o (.tup xs)) ∧ o.dict = none) ∧ ¬ O a) ∨ ∃ (o : Obj) (its : Array Value) (n : Nat), K.lookup a = some o ∧ o.cls = .type "tuple" ∧ o.dict = none ∧ o.data = .seq its n ∧ its.size ≤ sizeLine ∧ Vals xs its.toList
theorem SqLo.sq {K : KW} {H : Hp} {O : Addr → Prop} {a : Addr} {xs : List V} (h : SqLo K H O a xs) : SqL K H a xs := h.imp (·.1) id
theorem SqTo.sq {K : KW} {H : Hp} {O : Addr → Prop} {a : Addr} {xs : List V} (h : SqTo K H O a xs) : SqT K H a xs := by
  rcases h with ⟨⟨o, r, _⟩, _⟩ | ⟨o, its, n, h1, h2, _, h3⟩
  · exact .inl (.inr ⟨o, r⟩)
  · exact .inr ⟨o, its, n, h1, h2, h3⟩
theorem SqTo.pl {K : KW} {H : Hp} {O : Addr → Prop} {a : Addr} {xs : List V} (h : SqTo K H O a xs) : PlT K H a xs := h.imp (·.1) id

/-! dicts whose keys are tuples (of tuples, ints, texts) -/
mutual
/-- a datum as such a key -/
def nkOf : D → Option NestedKey
  | .none => some .none
  | .int i => some (.num i)
  | .str x => some (.text x)
  | .tuple ds => match nkAll ds with
    | some ks => some (.tup ks)
    | none => none
  | .bool _ => none
  | .list _ => none
  | .dict _ => none
def nkAll : List D → Option (List NestedKey)
  | [] => some []
  | d :: ds => match nkOf d, nkAll ds with
    | some k, some ks => some (k :: ks)
    | _, _ => none
end
/-- a tuple that may be a key: it, and how deep it is -/
def tkOf : D → Option NestedKey
  | .tuple ds => match nkOf (.tuple ds) with
    | some k => if k.depth ≤ 8 then some k else none
    | none => none
  | _ => none
/-- a plain key: an int or a text -/
def smp1 : D → Bool
  | .int _ => true
  | .str _ => true
  | _ => false
def smpK (kvs : List (D × D)) : Bool := kvs.all fun p => smp1 p.1
/-- the dict's object, by its entries -/
def DictX (w : World) (a : Addr) (xs : List (NestedKey × Addr × Value)) (h : Heap) : Prop :=
  ∃ o es ep, h.get? a = some o ∧ o.ExactDict ∧ o.data = .dict es ep ∧ es.toList = xs.map fun x => (⟨x.1.hash w, .ref x.2.1, x.2.2⟩ : DictEntry)
structure NdK (a : Addr) (xs : List (NestedKey × Addr × Value)) : Prop where
  nd : (xs.map (·.1)).Nodup
  ln : xs.length ≤ sizeLine
  ns : (a == sysModules) = false
mutual
/-- the value v stands for the datum d; nothing of it is hidden (O) -/
inductive Rp (K : KW) (H : Hp) (O : Addr → Prop) : V → D → Prop
  | non : Rp K H O .non .none
  | bl (b : Bool) : Rp K H O (.bl b) (.bool b)
  | int (i : Int) : Rp K H O (.int i) (.int i)
  | str (x : Str) : Rp K H O (.str x) (.str x)
  | lst {a : Addr} {xs : List V} {ds : List D} : SqLo K H O a xs → RpL K H O xs ds → Rp K H O (.ref a) (.list ds)
  | tup {a : Addr} {xs : List V} {ds : List D} : SqTo K H O a xs → RpL K H O xs ds → Rp K H O (.ref a) (.tuple ds)
  | dct {a : Addr} {ks : List (Key × V)} {kvs : List (D × D)} : H a = some (.dK ks) → ¬ O a → RpE K H O ks kvs → Rp K H O (.ref a) (.dict kvs)
  | dcn {a : Addr} {xs : List (NestedKey × Addr × Value)} {kvs : List (D × D)} : H a = some (.ext (DictX K.w a xs)) → ¬ O a → xs ≠ [] → NdK a xs → RpN K H O xs kvs → Rp K H O (.ref a) (.dict kvs)
inductive RpL (K : KW) (H : Hp) (O : Addr → Prop) : List V → List D → Prop
  | nil : RpL K H O [] []
  | cons {v : V} {vs : List V} {d : D} {ds : List D} : Rp K H O v d → RpL K H O vs ds → RpL K H O (v :: vs) (d :: ds)
inductive RpE (K : KW) (H : Hp) (O : Addr → Prop) : List (Key × V) → List (D × D) → Prop
  | nil : RpE K H O [] []
  | cons {k : Key} {v : V} {ks : List (Key × V)} {d : D} {kvs : List (D × D)} : Rp K H O v d → RpE K H O ks kvs → RpE K H O ((k, v) :: ks) ((keyD k, d) :: kvs)
inductive RpN (K : KW) (H : Hp) (O : Addr → Prop) : List (NestedKey × Addr × Value) → List (D × D) → Prop
  | nil : RpN K H O [] []
  | cons {n : NestedKey} {b : Addr} {u : Value} {v : V} {c d : D} {xs : List (NestedKey × Addr × Value)} {kvs : List (D × D)} : tkOf c = some n → Rp K H O (.ref b) c → RelV v u → Rp K H O v d → RpN K H O xs kvs → RpN K H O ((n, b, u) :: xs) ((c, d) :: kvs)
end

section
variable {K : KW} {H H' : Hp} {O O' : Addr → Prop}
/-- what is not hidden stands as it did, and is not hidden -/
def Stay (H H' : Hp) (O O' : Addr → Prop) : Prop := ∀ a o, H a = some o → ¬ O a → H' a = some o ∧ ¬ O' a
theorem SqLo.stay (s : Stay H H' O O') {a : Addr} {xs : List V} (h : SqLo K H O a xs) : SqLo K H' O' a xs := by
  rcases h with ⟨r | ⟨o, r⟩, n⟩ | h
  · exact .inl ⟨.inl (s _ _ r n).1, (s _ _ r n).2⟩
  · exact .inl ⟨.inr ⟨o, (s _ _ r n).1⟩, (s _ _ r n).2⟩
  · exact .inr h
theorem SqTo.stay (s : Stay H H' O O') {a : Addr} {xs : List V} (h : SqTo K H O a xs) : SqTo K H' O' a xs := by
  rcases h with ⟨⟨o, r, d⟩, n⟩ | h
  · exact .inl ⟨⟨o, (s _ _ r n).1, d⟩, (s _ _ r n).2⟩
  · exact .inr h
mutual
theorem Rp.stay (s : Stay H H' O O') : ∀ {v : V} (d : D), Rp K H O v d → Rp K H' O' v d
  | _, .none, h => by cases h; exact .non
  | _, .bool _, h => by cases h; exact .bl _
  | _, .int _, h => by cases h; exact .int _
  | _, .str _, h => by cases h; exact .str _
  | _, .list ds, h => by
    cases h with
    | lst q r => exact .lst (q.stay s) (RpL.stay s ds r)
  | _, .tuple ds, h => by
    cases h with
    | tup q r => exact .tup (q.stay s) (RpL.stay s ds r)
  | _, .dict kvs, h => by
    cases h with
    | dct q n r => exact .dct (s _ _ q n).1 (s _ _ q n).2 (RpE.stay s kvs r)
    | dcn q n e k r => exact .dcn (s _ _ q n).1 (s _ _ q n).2 e k (RpN.stay s kvs r)
theorem RpL.stay (s : Stay H H' O O') : ∀ {vs : List V} (ds : List D), RpL K H O vs ds → RpL K H' O' vs ds
  | _, [], h => by cases h; exact .nil
  | _, d :: ds, h => by
    cases h with
    | cons q r => exact .cons (Rp.stay s d q) (RpL.stay s ds r)
theorem RpE.stay (s : Stay H H' O O') : ∀ {ks : List (Key × V)} (kvs : List (D × D)), RpE K H O ks kvs → RpE K H' O' ks kvs
  | _, [], h => by cases h; exact .nil
  | _, (k, d) :: kvs, h => by
    cases h with
    | cons q r => exact .cons (Rp.stay s d q) (RpE.stay s kvs r)
theorem RpN.stay (s : Stay H H' O O') : ∀ {xs : List (NestedKey × Addr × Value)} (kvs : List (D × D)), RpN K H O xs kvs → RpN K H' O' xs kvs
  | _, [], h => by cases h; exact .nil
  | _, (c, d) :: kvs, h => by
    cases h with
    | cons e q l p r => exact .cons e (Rp.stay s c q) l (Rp.stay s d p) (RpN.stay s kvs r)
end
theorem tk_smp {c : D} {n : NestedKey} (h : tkOf c = some n) : smp1 c = false := by
  cases c <;> first | rfl | cases h
theorem RpN.smp : ∀ {xs : List (NestedKey × Addr × Value)} {kvs : List (D × D)}, xs ≠ [] → RpN K H O xs kvs → smpK kvs = false
  | _, _, n, .nil => absurd rfl n
  | _, _, _, .cons (c := c) (d := d) (kvs := kvs) e _ _ _ _ => by
    show ((c, d) :: kvs).all (fun p => smp1 p.1) = false
    rw [List.all_cons, tk_smp e]; rfl
theorem RpE.smp : ∀ {ks : List (Key × V)} {kvs : List (D × D)}, RpE K H O ks kvs → smpK kvs = true
  | _, _, .nil => rfl
  | _, _, .cons (k := k) (d := d) (kvs := kvs) _ t => by
    show ((keyD k, d) :: kvs).all (fun p => smp1 p.1) = true
    rw [List.all_cons, show smp1 (keyD k) = true by cases k <;> rfl]
    exact t.smp
theorem RpN.length : ∀ {xs : List (NestedKey × Addr × Value)} {kvs : List (D × D)}, RpN K H O xs kvs → xs.length = kvs.length
  | _, _, .nil => rfl
  | _, _, .cons _ _ _ _ t => by rw [List.length_cons, List.length_cons, t.length]
theorem RpL.length : ∀ {vs : List V} {ds : List D}, RpL K H O vs ds → vs.length = ds.length
  | _, _, .nil => rfl
  | _, _, .cons _ t => by rw [List.length_cons, List.length_cons, t.length]
theorem RpL.get : ∀ {vs : List V} {ds : List D} {i : Nat} {d : D}, RpL K H O vs ds → ds[i]? = some d → ∃ v, vs[i]? = some v ∧ Rp K H O v d
  | _, _, _, _, .nil, e => by simp at e
  | _, _, 0, _, .cons r _, e => by simp at e; subst e; exact ⟨_, rfl, r⟩
  | _, _, i + 1, _, .cons _ t, e => by
    obtain ⟨v, h1, h2⟩ := RpL.get (i := i) t (by simpa using e)
    exact ⟨v, by simpa using h1, h2⟩
theorem RpL.getV : ∀ {vs : List V} {ds : List D} {i : Nat} {v : V}, RpL K H O vs ds → vs[i]? = some v → ∃ d, ds[i]? = some d ∧ Rp K H O v d
  | _, _, _, _, .nil, e => by simp at e
  | _, _, 0, _, .cons r _, e => by simp at e; subst e; exact ⟨_, rfl, r⟩
  | _, _, i + 1, _, .cons _ t, e => by
    obtain ⟨v, h1, h2⟩ := RpL.getV (i := i) t (by simpa using e)
    exact ⟨v, by simpa using h1, h2⟩
theorem RpL.append : ∀ {vs ws : List V} {ds es : List D}, RpL K H O vs ds → RpL K H O ws es → RpL K H O (vs ++ ws) (ds ++ es)
  | _, _, _, _, .nil, s => s
  | _, _, _, _, .cons r t, s => .cons r (RpL.append t s)
theorem RpL.take : ∀ {vs : List V} {ds : List D} (n : Nat), RpL K H O vs ds → RpL K H O (vs.take n) (ds.take n)
  | _, _, 0, _ => .nil
  | _, _, _ + 1, .nil => .nil
  | _, _, n + 1, .cons r t => .cons r (RpL.take n t)
theorem RpL.drop : ∀ {vs : List V} {ds : List D} (n : Nat), RpL K H O vs ds → RpL K H O (vs.drop n) (ds.drop n)
  | _, _, 0, r => r
  | _, _, _ + 1, .nil => .nil
  | _, _, n + 1, .cons _ t => RpL.drop n t
theorem RpL.set {v : V} {d : D} (r : Rp K H O v d) : ∀ {vs : List V} {ds : List D} (i : Nat), RpL K H O vs ds → RpL K H O (vs.set i v) (ds.set i d)
  | _, _, _, .nil => .nil
  | _, _, 0, .cons _ t => .cons r t
  | _, _, i + 1, .cons q t => .cons q (RpL.set r i t)
theorem RpL.eraseIdx : ∀ {vs : List V} {ds : List D} (i : Nat), RpL K H O vs ds → RpL K H O (vs.eraseIdx i) (ds.eraseIdx i)
  | _, _, _, .nil => .nil
  | _, _, 0, .cons _ t => t
  | _, _, i + 1, .cons q t => .cons q (RpL.eraseIdx i t)
theorem RpL.reverse : ∀ {vs : List V} {ds : List D}, RpL K H O vs ds → RpL K H O vs.reverse ds.reverse
  | _, _, .nil => .nil
  | _, _, .cons r t => by rw [List.reverse_cons, List.reverse_cons]; exact (RpL.reverse t).append (.cons r .nil)
theorem RpE.length : ∀ {ks : List (Key × V)} {kvs : List (D × D)}, RpE K H O ks kvs → ks.length = kvs.length
  | _, _, .nil => rfl
  | _, _, .cons _ t => by rw [List.length_cons, List.length_cons, t.length]
theorem RpE.append : ∀ {vs ws : List (Key × V)} {ds es : List (D × D)}, RpE K H O vs ds → RpE K H O ws es → RpE K H O (vs ++ ws) (ds ++ es)
  | _, _, _, _, .nil, s => s
  | _, _, _, _, .cons r t, s => .cons r (RpE.append t s)

/-- the content of a mutable object -/
def Ct (K : KW) (H : Hp) (O : Addr → Prop) (a : Addr) (d : D) : Prop :=
  (∃ xs ds, d = .list ds ∧ H a = some (.lst xs) ∧ RpL K H O xs ds) ∨ (∃ ks kvs, d = .dict kvs ∧ H a = some (.dK ks) ∧ RpE K H O ks kvs) ∨
    ∃ xs kvs, d = .dict kvs ∧ H a = some (.ext (DictX K.w a xs)) ∧ xs ≠ [] ∧ NdK a xs ∧ RpN K H O xs kvs
theorem Ct.stay (s : Stay H H' O O') {a : Addr} {d : D} (h : Ct K H O a d) (ha : ∀ o, H a = some o → H' a = some o) : Ct K H' O' a d := by
  rcases h with ⟨xs, ds, rfl, e, r⟩ | ⟨ks, kvs, rfl, e, r⟩ | ⟨xs, kvs, rfl, e, n, k, r⟩
  · exact .inl ⟨xs, ds, rfl, ha _ e, r.stay s⟩
  · exact .inr (.inl ⟨ks, kvs, rfl, ha _ e, r.stay s⟩)
  · exact .inr (.inr ⟨xs, kvs, rfl, ha _ e, n, k, r.stay s⟩)
theorem Ct.there {a : Addr} {d : D} (h : Ct K H O a d) : ∃ o, H a = some o := by
  rcases h with ⟨xs, ds, rfl, e, r⟩ | ⟨ks, kvs, rfl, e, r⟩ | ⟨xs, kvs, rfl, e, _⟩
  · exact ⟨_, e⟩
  · exact ⟨_, e⟩
  · exact ⟨_, e⟩
/-- what is read: a datum, or the content of a mutable object -/
def RpR (K : KW) (H : Hp) (O : Addr → Prop) (v : V) (d : D) : Prop := Rp K H O v d ∨ ∃ a, v = .ref a ∧ Ct K H O a d
end

/-! ### slots, results -/
/-- fz: a datum; ow: a mutable object of this frame alone; bo: one that stands still for now; pt: a cell -/
inductive Sl where
  | fz (d : D) | ow (d : D) | bo (d : D) | pt (k : Nat)
/-- fz: a datum; fr: a new mutable object that nobody else holds; sl: what the slot holds -/
inductive Rs where
  | fz (d : D) | fr (d : D) | sl (i : Nat)
def Sl.isOw : Sl → Bool
  | .ow _ => true
  | _ => false
def Sl.isMu : Sl → Bool
  | .ow _ => true
  | .bo _ => true
  | _ => false
structure En where
  ρ : List (Option Sl)
  μ : List (Int × Int)
abbrev M (α : Type) := En → Option (α × En)

def OwnA (ρ : List (Option Sl)) (σ : L2.St) (a : Addr) : Prop := ∃ (i : Nat) (d : D), ρ[i]? = some (some (Sl.ow d)) ∧ σ[i]? = some (some (V.ref a))
def MutA (ρ : List (Option Sl)) (σ : L2.St) (a : Addr) : Prop := ∃ (i : Nat) (s : Sl), ρ[i]? = some (some s) ∧ s.isMu = true ∧ σ[i]? = some (some (V.ref a))
def Hid (γ : List Addr) (ρ : List (Option Sl)) (σ : L2.St) (Z : Addr → Prop) (a : Addr) : Prop := MutA ρ σ a ∨ a ∈ γ ∨ Z a
theorem OwnA.mu {ρ : List (Option Sl)} {σ : L2.St} {a : Addr} (h : OwnA ρ σ a) : MutA ρ σ a := let ⟨i, d, h1, h2⟩ := h; ⟨i, _, h1, rfl, h2⟩

def SlOk (K : KW) (γ : List Addr) (H : Hp) (O : Addr → Prop) : Sl → V → Prop
  | .fz d, v => Rp K H O v d
  | .ow d, v => ∃ a, v = .ref a ∧ Ct K H O a d
  | .bo d, v => ∃ a, v = .ref a ∧ Ct K H O a d
  | .pt k, v => ∃ a, v = .ref a ∧ γ[k]? = some a

structure Rep (K : KW) (γ : List Addr) (e : En) (σ : L2.St) (H : Hp) (Z : Addr → Prop) : Prop where
  len : σ.length = e.ρ.length
  slot : ∀ (i : Nat) (s : Sl), e.ρ[i]? = some (some s) → ∃ v, σ[i]? = some (some v) ∧ SlOk K γ H (Hid γ e.ρ σ Z) s v
  mu : ∀ (i : Nat) (s : Sl) (a : Addr), e.ρ[i]? = some (some s) → s.isMu = true → σ[i]? = some (some (V.ref a)) → ¬ Z a ∧ a ∉ γ
  own : ∀ (i : Nat) (d : D) (a : Addr), e.ρ[i]? = some (some (Sl.ow d)) → σ[i]? = some (some (V.ref a)) → ∀ (j : Nat) (s : Sl), e.ρ[j]? = some (some s) → s.isMu = true → σ[j]? = some (some (V.ref a)) → j = i
  cl : γ.length = e.μ.length
  nd : γ.Nodup
  cell : ∀ (k : Nat) (a : Addr) (x y : Int), γ[k]? = some a → e.μ[k]? = some (x, y) → H a = some (.lst [.int x, .int y])
  cz : ∀ a ∈ γ, ¬ Z a
  zt : ∀ a, Z a → ∃ o, H a = some o

/-- all but the frame's own objects and the cells stands as it did -/
structure Kp (γ : List Addr) (ρ : List (Option Sl)) (σ : L2.St) (H H' : Hp) : Prop where
  st : ∀ a o, H a = some o → ¬ OwnA ρ σ a → a ∉ γ → H' a = some o
  th : ∀ a o, H a = some o → ∃ o', H' a = some o'
/-- slots that hold mutable objects held them before -/
structure Sh (e e' : En) : Prop where
  m : ∀ (i : Nat) (s' : Sl), e'.ρ[i]? = some (some s') → s'.isMu = true → ∃ (s : Sl), e.ρ[i]? = some (some s) ∧ s.isMu = true ∧ (s'.isOw = true → s.isOw = true)
  bo : ∀ (i : Nat) (d : D), e.ρ[i]? = some (some (Sl.bo d)) → e'.ρ[i]? = some (some (Sl.bo d))
  bb : ∀ (i : Nat) (d : D), e'.ρ[i]? = some (some (Sl.bo d)) → e.ρ[i]? = some (some (Sl.bo d))
  ln : e'.ρ.length = e.ρ.length
theorem Sh.refl (e : En) : Sh e e := ⟨fun _ s' h m => ⟨s', h, m, id⟩, fun _ _ h => h, fun _ _ h => h, rfl⟩
theorem Sh.trans {e e' e'' : En} (a : Sh e e') (b : Sh e' e'') : Sh e e'' := ⟨fun i s'' h m => by
  obtain ⟨s', h1, m1, o1⟩ := b.m i s'' h m
  obtain ⟨s, h2, m2, o2⟩ := a.m i s' h1 m1
  exact ⟨s, h2, m2, fun z => o2 (o1 z)⟩, fun i d h => b.bo i d (a.bo i d h), fun i d h => a.bb i d (b.bb i d h), b.ln.trans a.ln⟩
theorem Sh.mu {e e' : En} {σ : L2.St} {a : Addr} (s : Sh e e') (h : MutA e'.ρ σ a) : MutA e.ρ σ a := by
  obtain ⟨i, s', h1, m, h2⟩ := h
  obtain ⟨s0, h3, m3, _⟩ := s.m i s' h1 m
  exact ⟨i, s0, h3, m3, h2⟩
theorem Sh.own {e e' : En} {σ : L2.St} {a : Addr} (s : Sh e e') (h : OwnA e'.ρ σ a) : OwnA e.ρ σ a := by
  obtain ⟨i, d, h1, h2⟩ := h
  obtain ⟨s0, h3, _, o3⟩ := s.m i _ h1 rfl
  cases s0 with
  | ow d0 => exact ⟨i, d0, h3, h2⟩
  | fz _ => exact absurd (o3 rfl) (by simp [Sl.isOw])
  | bo _ => exact absurd (o3 rfl) (by simp [Sl.isOw])
  | pt _ => exact absurd (o3 rfl) (by simp [Sl.isOw])
theorem Kp.refl {γ : List Addr} {ρ : List (Option Sl)} {σ : L2.St} (H : Hp) : Kp γ ρ σ H H := ⟨fun _ _ h _ _ => h, fun _ o h => ⟨o, h⟩⟩
theorem Kp.trans {γ : List Addr} {e e' : En} {σ : L2.St} {H H1 H2 : Hp} (a : Kp γ e.ρ σ H H1) (s : Sh e e') (b : Kp γ e'.ρ σ H1 H2) : Kp γ e.ρ σ H H2 :=
  ⟨fun c o h n g => b.st c o (a.st c o h n g) (fun z => n (s.own z)) g, fun c o h => let ⟨o', h'⟩ := a.th c o h; b.th c o' h'⟩
theorem Kp.none {γ : List Addr} {ρ : List (Option Sl)} {σ : L2.St} {H H' : Hp} (k : Kp γ ρ σ H H') {a : Addr} (h : H' a = Option.none) : H a = Option.none := by
  cases q : H a with
  | none => rfl
  | some o => obtain ⟨o', h'⟩ := k.th a o q; rw [h] at h'; cases h'

def RsOk (K : KW) (γ : List Addr) (H : Hp) (e : En) (σ : L2.St) (Z Z' : Addr → Prop) : Rs → V → Prop
  | .fz d, v => Rp K H (Hid γ e.ρ σ Z') v d
  | .fr d, v => ∃ p, v = .ref p ∧ Z' p ∧ ¬ Z p ∧ Ct K H (Hid γ e.ρ σ Z') p d
  | .sl i, v => σ[i]? = some (some v)
/-- behind an evaluation from H (hidden beside: Z) -/
def Pst (K : KW) (γ : List Addr) (H : Hp) (σ : L2.St) (Z : Addr → Prop) (e' : En) (rs : List Rs) (vs : List V) (H' : Hp) : Prop :=
  ∃ Z' : Addr → Prop, (∀ a, Z a → Z' a) ∧ (∀ a, Z' a → Z a ∨ H a = none) ∧ Rep K γ e' σ H' Z' ∧ All2 (RsOk K γ H' e' σ Z Z') rs vs

/-! ### what an evaluation leaves of what was known -/
section
variable {K : KW} {γ : List Addr} {e e1 e2 : En} {σ : L2.St} {H H1 H2 : Hp} {Z Z0 Z1 Z2 : Addr → Prop}
theorem stay_of (kp : Kp γ e1.ρ σ H1 H2) (sh : Sh e1 e2) (hz : ∀ a, Z2 a → Z1 a ∨ H1 a = none) : Stay H1 H2 (Hid γ e1.ρ σ Z1) (Hid γ e2.ρ σ Z2) := fun a o h n => by
  refine ⟨kp.st a o h (fun z => n (.inl z.mu)) (fun z => n (.inr (.inl z))), fun z => ?_⟩
  rcases z with z | z | z
  · exact n (.inl (sh.mu z))
  · exact n (.inr (.inl z))
  · rcases hz a z with z | z
    · exact n (.inr (.inr z))
    · rw [h] at z; cases z
theorem RsOk.keep (R : Rep K γ e1 σ H1 Z1) (R2 : Rep K γ e2 σ H2 Z2) (kp : Kp γ e1.ρ σ H1 H2) (sh : Sh e1 e2) (h12 : ∀ a, Z1 a → Z2 a) (hz : ∀ a, Z2 a → Z1 a ∨ H1 a = none) {r : Rs} {v : V} (h : RsOk K γ H1 e1 σ Z Z1 r v) : RsOk K γ H2 e2 σ Z Z2 r v := by
  cases r with
  | fz d => exact Rp.stay (stay_of kp sh hz) d h
  | sl i => exact h
  | fr d =>
    obtain ⟨p, rfl, hp, np, c⟩ := h
    refine ⟨p, rfl, h12 p hp, np, c.stay (stay_of kp sh hz) fun o ho => kp.st p o ho (fun z => ?_) (fun z => R.cz p z hp)⟩
    obtain ⟨i, d', h1, h2⟩ := z
    exact (R.mu i _ p h1 rfl h2).1 hp
theorem RsOk.keeps (R : Rep K γ e1 σ H1 Z1) (R2 : Rep K γ e2 σ H2 Z2) (kp : Kp γ e1.ρ σ H1 H2) (sh : Sh e1 e2) (h12 : ∀ a, Z1 a → Z2 a) (hz : ∀ a, Z2 a → Z1 a ∨ H1 a = none) {rs : List Rs} {vs : List V} (h : All2 (RsOk K γ H1 e1 σ Z Z1) rs vs) : All2 (RsOk K γ H2 e2 σ Z Z2) rs vs :=
  h.imp fun _ _ q => q.keep R R2 kp sh h12 hz
/-- a result that was new towards a greater Z is new towards a lesser one -/
theorem RsOk.down (h01 : ∀ a, Z0 a → Z1 a) {r : Rs} {v : V} (h : RsOk K γ H2 e2 σ Z1 Z2 r v) : RsOk K γ H2 e2 σ Z0 Z2 r v := by
  cases r with
  | fz d => exact h
  | sl i => exact h
  | fr d =>
    obtain ⟨p, rfl, hp, np, c⟩ := h
    exact ⟨p, rfl, hp, fun z => np (h01 p z), c⟩
end
end DV
end
section
set_option Elab.async false
set_option linter.all false
set_option maxRecDepth 100000
namespace DV
open PySem PySem.Spec PyProof.Rows L2

/-! ### the plain words -/
def ret {α : Type} (a : α) : M α := fun e => some (a, e)
def bnd {α β : Type} (f : M α) (g : α → M β) : M β := fun e => match f e with
  | some (a, e') => g a e'
  | none => none
theorem bnd_eq {α β : Type} {f : M α} {g : α → M β} {e e2 : En} {b : β} (h : bnd f g e = some (b, e2)) : ∃ a e1, f e = some (a, e1) ∧ g a e1 = some (b, e2) := by
  unfold bnd at h
  cases q : f e with
  | none => rw [q] at h; cases h
  | some p => rw [q] at h; exact ⟨p.1, p.2, rfl, h⟩
def opt {α : Type} (o : Option α) : M α := fun e => o.map fun a => (a, e)
theorem opt_eq {α : Type} {o : Option α} {e e1 : En} {a : α} (h : opt o e = some (a, e1)) : o = some a ∧ e1 = e := by
  unfold opt at h
  cases o with
  | none => cases h
  | some b => cases h; exact ⟨rfl, rfl⟩
/-- what a result holds -/
def rdS (e : En) : Sl → Option D
  | .fz d => some d
  | .ow d => some d
  | .bo d => some d
  | .pt k => match e.μ[k]? with
    | some (x, y) => some (.list [.int x, .int y])
    | none => none
def rdv (e : En) : Rs → Option D
  | .fz d => some d
  | .fr d => some d
  | .sl i => match e.ρ[i]? with
    | some (some s) => rdS e s
    | _ => none
def rdM (r : Rs) : M D := fun e => (rdv e r).map fun d => (d, e)
def rdAll (e : En) : List Rs → Option (List D)
  | [] => some []
  | r :: rs => match rdv e r, rdAll e rs with
    | some d, some ds => some (d :: ds)
    | _, _ => none
theorem rdM_eq {r : Rs} {e e1 : En} {d : D} (h : rdM r e = some (d, e1)) : rdv e r = some d ∧ e1 = e := by
  unfold rdM at h
  cases q : rdv e r with
  | none => rw [q] at h; cases h
  | some b => rw [q] at h; cases h; exact ⟨rfl, rfl⟩
/-- what a result holds, handed on for good: a slot's own object stands still from then on -/
def als (r : Rs) : M D := fun e => match r with
  | .fz d => some (d, e)
  | .fr d => some (d, e)
  | .sl i => match e.ρ[i]? with
    | some (some (.fz d)) => some (d, e)
    | some (some (.ow d)) => some (d, { e with ρ := e.ρ.set i (some (.fz d)) })
    | _ => none
def alsAll : List Rs → M (List D)
  | [] => ret []
  | r :: rs => bnd (als r) fun d => bnd (alsAll rs) fun ds => ret (d :: ds)

section
variable (K : KW)
def tE (f : M Rs) : TE := fun σ H Q => ∃ γ e Z r e', Rep K γ e σ H Z ∧ f e = some (r, e') ∧ ∀ v H', Kp γ e.ρ σ H H' → Sh e e' → Pst K γ H σ Z e' [r] [v] H' → Q v H'
def tA (f : M (List Rs)) : TA := fun σ H Q => ∃ γ e Z rs e', Rep K γ e σ H Z ∧ f e = some (rs, e') ∧ ∀ vs H', Kp γ e.ρ σ H H' → Sh e e' → Pst K γ H σ Z e' rs vs H' → Q vs H'
def tT (f : M Bool) : TT := fun σ H Q => ∃ γ e Z b e', Rep K γ e σ H Z ∧ f e = some (b, e') ∧ ∀ H', Kp γ e.ρ σ H H' → Sh e e' → Rep K γ e' σ H' Z → Q b H'
end
theorem PE.weak {X : Cx} {e : Expr} {t t' : TE} (h : PE X e t) (w : ∀ σ H Q, t' σ H Q → t σ H Q) : PE X e t' := ⟨fun pins s σ H Q I q => h.run pins s σ H Q I (w σ H Q q)⟩
theorem PA.weak {X : Cx} {e : List Expr} {t t' : TA} (h : PA X e t) (w : ∀ σ H Q, t' σ H Q → t σ H Q) : PA X e t' := ⟨fun pos pins s σ H Q I q => h.run pos pins s σ H Q I (w σ H Q q)⟩
theorem PT.weak {X : Cx} {e : Expr} {t t' : TT} (h : PT X e t) (w : ∀ σ H Q, t' σ H Q → t σ H Q) : PT X e t' := ⟨fun pins s σ H Q I q => h.run pins s σ H Q I (w σ H Q q)⟩
theorem PW.weak {X : Cx} {e : Expr} {t t' : TT} (h : PW X e t) (w : ∀ σ H Q, t' σ H Q → t σ H Q) : PW X e t' := ⟨fun wh pins s σ H Q I q => h.run wh pins s σ H Q I (w σ H Q q)⟩
theorem PS.weak {X : Cx} {e : Stmt} {t t' : TS} (h : PS X e t) (w : ∀ D σ H, t' D σ H → t D σ H) : PS X e t' := ⟨fun pins s σ H Q I q => h.run pins s σ H Q I (w Q σ H q)⟩
theorem PSs.weak {X : Cx} {e : List Stmt} {t t' : TS} (h : PSs X e t) (w : ∀ D σ H, t' D σ H → t D σ H) : PSs X e t' := ⟨fun pins s σ H Q I q => h.run pins s σ H Q I (w Q σ H q)⟩

section
variable {K : KW} {γ : List Addr} {e e1 e2 : En} {σ : L2.St} {H H1 H2 : Hp} {Z Z0 Z1 Z2 : Addr → Prop}
theorem stay_refl {O O' : Addr → Prop} (h : ∀ a o, H a = some o → O' a → O a) : Stay H H O O' := fun a o e n => ⟨e, fun z => n (h a o e z)⟩
theorem Hid.tr (R : Rep K γ e σ H Z) {a : Addr} (h : Hid γ e.ρ σ Z a) : ∃ o, H a = some o := by
  rcases h with ⟨i, s, h1, m, h2⟩ | h | h
  · obtain ⟨v, hv, ok⟩ := R.slot i s h1
    rw [h2] at hv
    cases hv
    cases s with
    | ow d => obtain ⟨b, eb, c⟩ := ok; cases eb; exact c.there
    | bo d => obtain ⟨b, eb, c⟩ := ok; cases eb; exact c.there
    | fz d => exact absurd m (by simp [Sl.isMu])
    | pt k => exact absurd m (by simp [Sl.isMu])
  · obtain ⟨k, hk, ek⟩ := List.getElem_of_mem h
    have hk' : k < e.μ.length := by rw [← R.cl]; exact hk
    exact ⟨_, R.cell k a (e.μ[k]).1 (e.μ[k]).2 (by rw [List.getElem?_eq_getElem hk, ek]) (by rw [List.getElem?_eq_getElem hk'])⟩
  · exact R.zt a h
theorem SlOk.stay {H' : Hp} {O O' : Addr → Prop} (s : Stay H H' O O') {x : Sl} {v : V} (hx : ∀ a, v = .ref a → x.isMu = true → ∀ o, H a = some o → H' a = some o) (h : SlOk K γ H O x v) : SlOk K γ H' O' x v := by
  cases x with
  | fz d => exact Rp.stay s d h
  | ow d => obtain ⟨a, rfl, c⟩ := h; exact ⟨a, rfl, c.stay s (hx a rfl rfl)⟩
  | bo d => obtain ⟨a, rfl, c⟩ := h; exact ⟨a, rfl, c.stay s (hx a rfl rfl)⟩
  | pt k => exact h
theorem Rep.down (R : Rep K γ e σ H Z1) (h : ∀ a, Z0 a → Z1 a) : Rep K γ e σ H Z0 where
  len := R.len
  slot := fun i s hi => by
    obtain ⟨v, hv, ok⟩ := R.slot i s hi
    exact ⟨v, hv, ok.stay (stay_refl fun a o _ z => z.imp id (Or.imp id (h a))) fun _ _ _ o ho => ho⟩
  mu := fun i s a h1 h2 h3 => ⟨fun z => (R.mu i s a h1 h2 h3).1 (h a z), (R.mu i s a h1 h2 h3).2⟩
  own := R.own
  cl := R.cl
  nd := R.nd
  cell := R.cell
  cz := fun a ha z => R.cz a ha (h a z)
  zt := fun a z => R.zt a (h a z)
/-- two evaluations in a row -/
theorem Pst.cons {r : Rs} {x : V} {rs : List Rs} {xs : List V} (kp : Kp γ e.ρ σ H H1) (kp2 : Kp γ e1.ρ σ H1 H2) (sh2 : Sh e1 e2)
    (h01 : ∀ a, Z a → Z1 a) (hf : ∀ a, Z1 a → Z a ∨ H a = none) (R1 : Rep K γ e1 σ H1 Z1) (A1 : RsOk K γ H1 e1 σ Z Z1 r x)
    (P : Pst K γ H1 σ Z1 e2 rs xs H2) : Pst K γ H σ Z e2 (r :: rs) (x :: xs) H2 := by
  obtain ⟨Z2, h12, hf2, R2, A2⟩ := P
  refine ⟨Z2, fun a z => h12 a (h01 a z), fun a z => ?_, R2, .cons (A1.keep R1 R2 kp2 sh2 h12 hf2) (A2.imp fun _ _ q => q.down h01)⟩
  rcases hf2 a z with z | z
  · exact hf a z
  · exact .inr (kp.none z)
/-- .. the first result dropped -/
theorem Pst.next {rs0 : List Rs} {xs0 : List V} {rs : List Rs} {xs : List V} (kp : Kp γ e.ρ σ H H1)
    (h01 : ∀ a, Z a → Z1 a) (hf : ∀ a, Z1 a → Z a ∨ H a = none) (P : Pst K γ H1 σ Z1 e2 rs xs H2) : Pst K γ H σ Z e2 rs xs H2 := by
  obtain ⟨Z2, h12, hf2, R2, A2⟩ := P
  refine ⟨Z2, fun a z => h12 a (h01 a z), fun a z => ?_, R2, A2.imp fun _ _ q => q.down h01⟩
  rcases hf2 a z with z | z
  · exact hf a z
  · exact .inr (kp.none z)
theorem Pst.one {r : Rs} {x : V} (P : Pst K γ H σ Z e1 [r] [x] H1) : ∃ Z1 : Addr → Prop, (∀ a, Z a → Z1 a) ∧ (∀ a, Z1 a → Z a ∨ H a = none) ∧ Rep K γ e1 σ H1 Z1 ∧ RsOk K γ H1 e1 σ Z Z1 r x := by
  obtain ⟨Z1, h1, h2, h3, h4⟩ := P
  cases h4 with
  | cons q _ => exact ⟨Z1, h1, h2, h3, q⟩
theorem Pst.rep {rs : List Rs} {xs : List V} (P : Pst K γ H σ Z e1 rs xs H1) : Rep K γ e1 σ H1 Z := by
  obtain ⟨Z1, h1, h2, h3, h4⟩ := P
  exact h3.down h1
/-- reading -/
theorem RsOk.rd (R : Rep K γ e σ H Z1) {r : Rs} {x : V} {d : D} (h : RsOk K γ H e σ Z Z1 r x) (q : rdv e r = some d) : RpR K H (Hid γ e.ρ σ Z1) x d := by
  cases r with
  | fz d0 => cases q; exact .inl h
  | fr d0 => cases q; obtain ⟨p, rfl, _, _, c⟩ := h; exact .inr ⟨p, rfl, c⟩
  | sl i =>
    have q' : (match e.ρ[i]? with
      | some (some s) => rdS e s
      | _ => none) = some d := q
    cases q2 : e.ρ[i]? with
    | none => rw [q2] at q'; cases q'
    | some o =>
      cases o with
      | none => rw [q2] at q'; cases q'
      | some s =>
        rw [q2] at q'
        obtain ⟨v, hv, ok⟩ := R.slot i s q2
        have hx : σ[i]? = some (some x) := h
        rw [hx] at hv
        cases hv
        cases s with
        | fz d0 => cases q'; exact .inl ok
        | ow d0 => cases q'; obtain ⟨a, rfl, c⟩ := ok; exact .inr ⟨a, rfl, c⟩
        | bo d0 => cases q'; obtain ⟨a, rfl, c⟩ := ok; exact .inr ⟨a, rfl, c⟩
        | pt k =>
          obtain ⟨a, rfl, hk⟩ := ok
          have q3 : (match e.μ[k]? with
            | some (x, y) => some (PyData.list [.int x, .int y])
            | none => none) = some d := q'
          cases q4 : e.μ[k]? with
          | none => rw [q4] at q3; cases q3
          | some p =>
            obtain ⟨x, y⟩ := p
            rw [q4] at q3
            cases q3
            exact .inr ⟨a, rfl, .inl ⟨_, _, rfl, R.cell k a x y hk q4, .cons (.int x) (.cons (.int y) .nil)⟩⟩
theorem rd_all (R : Rep K γ e σ H Z1) : ∀ {rs : List Rs} {xs : List V} {ds : List D}, All2 (RsOk K γ H e σ Z Z1) rs xs → rdAll e rs = some ds → All2 (RpR K H (Hid γ e.ρ σ Z1)) xs ds
  | _, _, _, .nil, q => by cases q; exact .nil
  | r :: rs, _, ds, .cons h t, q => by
    have q' : (match rdv e r, rdAll e rs with
      | some d, some ds => some (d :: ds)
      | _, _ => none) = some ds := q
    cases q1 : rdv e r with
    | none => rw [q1] at q'; cases q'
    | some d =>
      cases q2 : rdAll e rs with
      | none => rw [q1, q2] at q'; cases q'
      | some es =>
        rw [q1, q2] at q'
        cases q'
        exact .cons (h.rd R q1) (rd_all R t q2)

/-! ### what an operation makes -/
inductive Gr (K : KW) (H : Hp) (O : Addr → Prop) : Rs → V → Hp → Prop
  | same {v : V} {d : D} : Rp K H O v d → Gr K H O (.fz d) v H
  | tup {H1 : Hp} {p : Addr} {o : Obj} {xs : List V} {ds : List D} : Same H H1 → H1 p = none → o.dict = none → RpL K H1 O xs ds → Gr K H O (.fz (.tuple ds)) (.ref p) (upd H1 p (.frz o (.tup xs)))
  | lst {H1 : Hp} {p : Addr} {xs : List V} {ds : List D} : Same H H1 → H1 p = none → RpL K H1 O xs ds → Gr K H O (.fr (.list ds)) (.ref p) (upd H1 p (.lst xs))
  | dct {H1 : Hp} {p : Addr} {ks : List (Key × V)} {kvs : List (D × D)} : Same H H1 → H1 p = none → RpE K H1 O ks kvs → Gr K H O (.fr (.dict kvs)) (.ref p) (upd H1 p (.dK ks))
theorem same_upd {p : Addr} {o : HO} (h : H p = none) : Same H (upd H p o) := fun b x e => by
  rw [upd_ne (ne_of_none e h)]
  exact e
theorem Rep.grow (R : Rep K γ e σ H Z) (s : Same H H1) (h : ∀ a, Z1 a → Z a ∨ (H a = none ∧ ∃ o, H1 a = some o)) : Rep K γ e σ H1 Z1 where
  len := R.len
  slot := fun i x hi => by
    obtain ⟨v, hv, ok⟩ := R.slot i x hi
    refine ⟨v, hv, ok.stay (fun a o ho n => ⟨s a o ho, fun z => ?_⟩) fun a _ _ o ho => s a o ho⟩
    rcases z with z | z | z
    · exact n (.inl z)
    · exact n (.inr (.inl z))
    · rcases h a z with z | ⟨z, _⟩
      · exact n (.inr (.inr z))
      · rw [ho] at z; cases z
  mu := fun i x a h1 h2 h3 => by
    refine ⟨fun z => ?_, (R.mu i x a h1 h2 h3).2⟩
    rcases h a z with z | ⟨z, _⟩
    · exact (R.mu i x a h1 h2 h3).1 z
    · obtain ⟨o, ho⟩ := Hid.tr R (.inl ⟨i, x, h1, h2, h3⟩)
      rw [ho] at z; cases z
  own := R.own
  cl := R.cl
  nd := R.nd
  cell := fun k a x y h1 h2 => s a _ (R.cell k a x y h1 h2)
  cz := fun a ha z => by
    rcases h a z with z | ⟨z, _⟩
    · exact R.cz a ha z
    · obtain ⟨o, ho⟩ := Hid.tr R (.inr (.inl ha))
      rw [ho] at z; cases z
  zt := fun a z => by
    rcases h a z with z | ⟨_, z⟩
    · obtain ⟨o, ho⟩ := R.zt a z
      exact ⟨o, s a o ho⟩
    · exact z
theorem stay_grow {O : Addr → Prop} (s : Same H H1) : Stay H H1 O O := fun a o e n => ⟨s a o e, n⟩
theorem Kp.of_same {ρ : List (Option Sl)} (s : Same H H1) : Kp γ ρ σ H H1 := ⟨fun a o h _ _ => s a o h, fun a o h => ⟨o, s a o h⟩⟩
theorem same_none {p : Addr} (s : Same H H1) (h : H1 p = none) : H p = none := s.free h
theorem Gr.pst (R : Rep K γ e σ H Z) {r : Rs} {v : V} (g : Gr K H (Hid γ e.ρ σ Z) r v H1) : Kp γ e.ρ σ H H1 ∧ Pst K γ H σ Z e [r] [v] H1 := by
  cases g with
  | same h => exact ⟨Kp.refl H, Z, fun _ z => z, fun _ z => .inl z, R, .cons h .nil⟩
  | @tup H2 p o xs ds s hp hd q =>
    have s2 : Same H (upd H2 p (.frz o (.tup xs))) := s.trans (same_upd hp)
    have np : ¬ Hid γ e.ρ σ Z p := fun z => by
      obtain ⟨o, ho⟩ := Hid.tr R z
      rw [same_none s hp] at ho; cases ho
    refine ⟨Kp.of_same s2, Z, fun _ z => z, fun _ z => .inl z, R.grow s2 fun a z => .inl z, .cons ?_ .nil⟩
    exact .tup (.inl ⟨⟨o, upd_same, hd⟩, np⟩) (q.stay (stay_grow (same_upd hp)))
  | @lst H2 p xs ds s hp q =>
    have s2 : Same H (upd H2 p (.lst xs)) := s.trans (same_upd hp)
    have hp0 := same_none s hp
    refine ⟨Kp.of_same s2, fun a => Z a ∨ a = p, fun _ z => .inl z, fun a z => z.imp id fun z => by rw [z]; exact hp0, R.grow s2 fun a z => z.imp id fun z => by rw [z]; exact ⟨hp0, _, upd_same⟩, .cons ⟨p, rfl, .inr rfl, fun z => ?_, .inl ⟨xs, ds, rfl, upd_same, q.stay fun a o ho n => ⟨same_upd hp a o ho, fun z => ?_⟩⟩⟩ .nil⟩
    · obtain ⟨o, ho⟩ := R.zt p z
      rw [hp0] at ho; cases ho
    · rcases z with z | z | z | z
      · exact n (.inl z)
      · exact n (.inr (.inl z))
      · exact n (.inr (.inr z))
      · rw [z, hp] at ho; cases ho
  | @dct H2 p xs ds s hp q =>
    have s2 : Same H (upd H2 p (.dK xs)) := s.trans (same_upd hp)
    have hp0 := same_none s hp
    refine ⟨Kp.of_same s2, fun a => Z a ∨ a = p, fun _ z => .inl z, fun a z => z.imp id fun z => by rw [z]; exact hp0, R.grow s2 fun a z => z.imp id fun z => by rw [z]; exact ⟨hp0, _, upd_same⟩, .cons ⟨p, rfl, .inr rfl, fun z => ?_, .inr (.inl ⟨xs, ds, rfl, upd_same, q.stay fun a o ho n => ⟨same_upd hp a o ho, fun z => ?_⟩⟩)⟩ .nil⟩
    · obtain ⟨o, ho⟩ := R.zt p z
      rw [hp0] at ho; cases ho
    · rcases z with z | z | z | z
      · exact n (.inl z)
      · exact n (.inr (.inl z))
      · exact n (.inr (.inr z))
      · rw [z, hp] at ho; cases ho
end

/-! ### operators, calls -/
def op1 (g : D → Option Rs) (fa : M Rs) : M Rs := bnd fa fun a => bnd (rdM a) fun x => opt (g x)
def op2 (g : D → D → Option Rs) (fa fb : M Rs) : M Rs := bnd fa fun a => bnd fb fun b => bnd (rdM a) fun x => bnd (rdM b) fun y => opt (g x y)
def consM (fa : M Rs) (fs : M (List Rs)) : M (List Rs) := bnd fa fun a => bnd fs fun as => ret (a :: as)
def opN (g : List D → Option Rs) (fs : M (List Rs)) : M Rs := bnd fs fun as => fun e => match rdAll e as with
  | some ds => (g ds).map fun r => (r, e)
  | none => none
def Op1 (K : KW) (r : V → Hp → VK → Prop) (g : D → Option Rs) : Prop :=
  ∀ (H : Hp) (O : Addr → Prop) (x : V) (d : D) (res : Rs) (Q : VK), (∀ a, O a → ∃ o, H a = some o) → RpR K H O x d → g d = some res → (∀ v H', Gr K H O res v H' → Q v H') → r x H Q
def Op2 (K : KW) (r : R2) (g : D → D → Option Rs) : Prop :=
  ∀ (H : Hp) (O : Addr → Prop) (x y : V) (dx dy : D) (res : Rs) (Q : VK), (∀ a, O a → ∃ o, H a = some o) → RpR K H O x dx → RpR K H O y dy → g dx dy = some res → (∀ v H', Gr K H O res v H' → Q v H') → r x y H Q
def OpN (K : KW) (r : List V → Hp → VK → Prop) (g : List D → Option Rs) : Prop :=
  ∀ (H : Hp) (O : Addr → Prop) (xs : List V) (ds : List D) (res : Rs) (Q : VK), (∀ a, O a → ∃ o, H a = some o) → All2 (RpR K H O) xs ds → g ds = some res → (∀ v H', Gr K H O res v H' → Q v H') → r xs H Q
section
variable {X : Cx} {K : KW} {e : Expr} {es : List Expr}
theorem tE_op1 {r : V → Hp → VK → Prop} {g : D → Option Rs} {fa : M Rs} (o : Op1 K r g) : ∀ σ H Q, tE K (op1 g fa) σ H Q → tUn r (tE K fa) σ H Q := by
  rintro σ H Q ⟨γ, e, Z, res, e', R, h, k⟩
  obtain ⟨ra, e1, h1, ha⟩ := bnd_eq h
  obtain ⟨d, e2, h2, hb⟩ := bnd_eq ha
  obtain ⟨q1, rfl⟩ := rdM_eq h2
  obtain ⟨q2, rfl⟩ := opt_eq hb
  refine ⟨γ, e, Z, ra, e', R, h1, fun x H1 kp sh P => ?_⟩
  obtain ⟨Z1, h01, hf, R1, A1⟩ := P.one
  refine o H1 _ x d res _ (fun a ha => Hid.tr R1 ha) (A1.rd R1 q1) q2 fun v H' gr => ?_
  obtain ⟨kp2, P2⟩ := gr.pst R1
  exact k v H' (kp.trans sh kp2) sh (Pst.next (rs0 := []) (xs0 := []) kp h01 hf P2)
theorem tE_op2 {r : R2} {g : D → D → Option Rs} {fa fb : M Rs} (o : Op2 K r g) : ∀ σ H Q, tE K (op2 g fa fb) σ H Q → tOp r (tE K fa) (tE K fb) σ H Q := by
  rintro σ H Q ⟨γ, e, Z, res, e', R, h, k⟩
  obtain ⟨ra, e1, h1, ha⟩ := bnd_eq h
  obtain ⟨rb, e2, h2, hb⟩ := bnd_eq ha
  obtain ⟨dx, e3, h3, hc⟩ := bnd_eq hb
  obtain ⟨q1, rfl⟩ := rdM_eq h3
  obtain ⟨dy, e4, h4, hd⟩ := bnd_eq hc
  obtain ⟨q2, rfl⟩ := rdM_eq h4
  obtain ⟨q3, rfl⟩ := opt_eq hd
  refine ⟨γ, e, Z, ra, e1, R, h1, fun x H1 kp sh P => ?_⟩
  obtain ⟨Z1, h01, hf, R1, A1⟩ := P.one
  refine ⟨γ, e1, Z1, rb, _, R1, h2, fun y H2 kp2 sh2 P2 => ?_⟩
  obtain ⟨Z2, h12, hf2, R2, A2⟩ := P2.one
  have A1' := A1.keep R1 R2 kp2 sh2 h12 hf2
  refine o H2 _ x y dx dy res _ (fun a ha => Hid.tr R2 ha) (A1'.rd R2 q1) (A2.rd R2 q2) q3 fun v H' gr => ?_
  obtain ⟨kp3, P3⟩ := gr.pst R2
  exact k v H' ((kp.trans sh kp2).trans (sh.trans sh2) kp3) (sh.trans sh2) (Pst.next (rs0 := []) (xs0 := []) kp h01 hf (Pst.next (rs0 := []) (xs0 := []) kp2 h12 hf2 P3))
theorem tA_nil : ∀ σ H Q, tA K (ret []) σ H Q → tNil σ H Q := by
  rintro σ H Q ⟨γ, e, Z, res, e', R, h, k⟩
  cases h
  exact k [] H (Kp.refl H) (Sh.refl e) ⟨Z, fun _ z => z, fun _ z => .inl z, R, .nil⟩
theorem tA_cons {fa : M Rs} {fs : M (List Rs)} : ∀ σ H Q, tA K (consM fa fs) σ H Q → tCons (tE K fa) (tA K fs) σ H Q := by
  rintro σ H Q ⟨γ, e, Z, res, e', R, h, k⟩
  obtain ⟨ra, e1, h1, h⟩ := bnd_eq h
  obtain ⟨rs, e2, h2, h⟩ := bnd_eq h
  cases h
  refine ⟨γ, e, Z, ra, e1, R, h1, fun x H1 kp sh P => ?_⟩
  obtain ⟨Z1, h01, hf, R1, A1⟩ := P.one
  refine ⟨γ, e1, Z1, rs, e', R1, h2, fun xs H2 kp2 sh2 P2 => ?_⟩
  exact k (x :: xs) H2 (kp.trans sh kp2) (sh.trans sh2) (Pst.cons kp kp2 sh2 h01 hf R1 A1 P2)
theorem tE_opN {r : List V → Hp → VK → Prop} {g : List D → Option Rs} {fs : M (List Rs)} (o : OpN K r g) : ∀ σ H Q, tE K (opN g fs) σ H Q → tCB r (tA K fs) σ H Q := by
  rintro σ H Q ⟨γ, e, Z, res, e', R, h, k⟩
  obtain ⟨rs, e1, h1, h⟩ := bnd_eq h
  have h : (match rdAll e1 rs with
    | some ds => (g ds).map fun r => (r, e1)
    | none => none) = some (res, e') := h
  cases q1 : rdAll e1 rs with
  | none => rw [q1] at h; cases h
  | some ds =>
    rw [q1] at h
    cases q2 : g ds with
    | none => simp [q2] at h
    | some r0 =>
      simp only [q2, Option.map_some, Option.some.injEq, Prod.mk.injEq] at h
      obtain ⟨rfl, rfl⟩ := h
      refine ⟨γ, e, Z, rs, e1, R, h1, fun xs H1 kp sh P => ?_⟩
      obtain ⟨Z1, h01, hf, R1, A1⟩ := P
      refine o H1 _ xs ds r0 _ (fun a ha => Hid.tr R1 ha) (rd_all R1 A1 q1) q2 fun v H' gr => ?_
      obtain ⟨kp2, P2⟩ := gr.pst R1
      exact k v H' (kp.trans sh kp2) sh (Pst.next (rs0 := []) (xs0 := []) kp h01 hf P2)
theorem da_nil : PA X [] (tA X.KW (ret [])) := PA.weak pa_nil tA_nil
theorem da_cons {fa : M Rs} {fs : M (List Rs)} (ha : PE X e (tE X.KW fa)) (hr : PA X es (tA X.KW fs)) (hs : starEach (e :: es) X.env = (false, eval e X.env) :: starEach es X.env := by rfl) : PA X (e :: es) (tA X.KW (consM fa fs)) :=
  PA.weak (pa_cons ha hr hs) tA_cons
end

/-! ### names, constants -/
def slM (i : Nat) : M Rs := fun e => match e.ρ[i]? with
  | some (some (.fz d)) => some (.fz d, e)
  | some (some _) => some (.sl i, e)
  | _ => none
def fzM (d : D) : M Rs := ret (.fz d)
section
variable {X : Cx} {K : KW}
theorem tE_var {i : Nat} : ∀ σ H Q, tE K (slM i) σ H Q → tVar i σ H Q := by
  rintro σ H Q ⟨γ, e, Z, res, e', R, h, k⟩
  have h' : (match e.ρ[i]? with
    | some (some (.fz d)) => some (.fz d, e)
    | some (some _) => some (.sl i, e)
    | _ => none) = some (res, e') := h
  cases q : e.ρ[i]? with
  | none => rw [q] at h'; cases h'
  | some o =>
    cases o with
    | none => rw [q] at h'; cases h'
    | some s =>
      rw [q] at h'
      obtain ⟨v, hv, ok⟩ := R.slot i s q
      refine ⟨v, hv, ?_⟩
      cases s with
      | fz d => cases h'; exact k v H (Kp.refl H) (Sh.refl e) ⟨Z, fun _ z => z, fun _ z => .inl z, R, .cons ok .nil⟩
      | ow d => cases h'; exact k v H (Kp.refl H) (Sh.refl e) ⟨Z, fun _ z => z, fun _ z => .inl z, R, .cons hv .nil⟩
      | bo d => cases h'; exact k v H (Kp.refl H) (Sh.refl e) ⟨Z, fun _ z => z, fun _ z => .inl z, R, .cons hv .nil⟩
      | pt d => cases h'; exact k v H (Kp.refl H) (Sh.refl e) ⟨Z, fun _ z => z, fun _ z => .inl z, R, .cons hv .nil⟩
theorem tE_const {v : V} {d : D} (h : ∀ H O, Rp K H O v d) : ∀ σ H Q, tE K (fzM d) σ H Q → tC v σ H Q := by
  rintro σ H Q ⟨γ, e, Z, res, e', R, q, k⟩
  cases q
  exact k v H (Kp.refl H) (Sh.refl e) ⟨Z, fun _ z => z, fun _ z => .inl z, R, .cons (h _ _) .nil⟩
theorem de_name (i : Nat) {x : Str} {pos : Pos} (hN : X.N[i]? = some x := by rfl) (hv : Vis X.env.scope x := by first | exact Or.inl rfl | exact Or.inr (Or.inl rfl) | exact Or.inr (Or.inr rfl)) (hd : (x == ("__debug__" : Str)) = false := by decide)
    (hcd : (x == ("__classdict__" : Str)) = false := by decide) : PE X (.Name x pos) (tE X.KW (slM i)) := PE.weak (pe_var hN hv hd hcd) tE_var
theorem de_int {i j pos} : PE X (.Constant (.int i) j pos) (tE X.KW (fzM (.int i))) := PE.weak pe_int (tE_const fun _ _ => .int i)
theorem de_bool {b j pos} : PE X (.Constant (.bool b) j pos) (tE X.KW (fzM (.bool b))) := PE.weak pe_bl (tE_const fun _ _ => .bl b)
theorem de_none {j pos} : PE X (.Constant .none j pos) (tE X.KW (fzM .none)) := PE.weak pe_non (tE_const fun _ _ => .non)
theorem de_str {x j pos} : PE X (.Constant (.str x) j pos) (tE X.KW (fzM (.str x))) := PE.weak pe_str (tE_const fun _ _ => .str x)
theorem de_gint {x : Str} {i : Int} {u : Value} {pos : Pos} (hg : Gl X x) (hm : X.mg x = some u) (r : RelV (.int i) u) (hd : (x == ("__debug__" : Str)) = false := by decide) : PE X (.Name x pos) (tE X.KW (fzM (.int i))) := PE.weak (pe_glob hg hm r hd) (tE_const fun _ _ => .int i)
theorem de_gstr {x : Str} {i : Str} {u : Value} {pos : Pos} (hg : Gl X x) (hm : X.mg x = some u) (r : RelV (.str i) u) (hd : (x == ("__debug__" : Str)) = false := by decide) : PE X (.Name x pos) (tE X.KW (fzM (.str i))) := PE.weak (pe_glob hg hm r hd) (tE_const fun _ _ => .str i)
/-- a part that the run never comes to -/
def noM {α : Type} : M α := fun _ => none
theorem de_no {e : Expr} : PE X e (tE X.KW noM) := ⟨fun _ _ _ _ _ _ h => by obtain ⟨_, _, _, _, _, _, q, _⟩ := h; cases q⟩
end
end DV
end
section
set_option Elab.async false
set_option linter.all false
set_option maxRecDepth 100000
namespace DV
open PySem PySem.Spec PyProof.Rows L2

/-! ### slots stored, taken, frozen -/
section
variable {K : KW} {γ : List Addr} {e e1 e2 : En} {σ : L2.St} {H H1 H2 : Hp} {Z Z0 Z1 Z2 : Addr → Prop}
theorem set_get {α : Type} {l : List (Option α)} {i j : Nat} {x : Option α} {y : α} (h : (l.set i x)[j]? = some (some y)) : (j = i ∧ x = some y) ∨ (j ≠ i ∧ l[j]? = some (some y)) := by
  by_cases e : j = i
  · subst e
    by_cases hl : j < l.length
    · rw [List.getElem?_set_self hl] at h; cases h; exact .inl ⟨rfl, rfl⟩
    · rw [List.getElem?_eq_none (by simpa using hl)] at h; cases h
  · rw [List.getElem?_set_ne (Ne.symm e)] at h; exact .inr ⟨e, h⟩
abbrev En.st (e : En) (i : Nat) (s : Option Sl) : En := { e with ρ := e.ρ.set i s }
/-- a slot that holds no mutable object gets a value (or nothing) -/
theorem Rep.put {i : Nat} {s : Sl} {v : V} (R : Rep K γ e σ H Z) (hi : i < e.ρ.length) (hm : s.isMu = false) (ok : SlOk K γ H (Hid γ e.ρ σ Z) s v) : Rep K γ (e.st i (some s)) (σ.set i (some v)) H Z := by
  have hσ : i < σ.length := by rw [R.len]; exact hi
  have mm : ∀ {a : Addr}, MutA (e.st i (some s)).ρ (σ.set i (some v)) a → MutA e.ρ σ a := fun {a} ⟨j, x, h1, m, h2⟩ => by
    rcases set_get h1 with ⟨rfl, e1⟩ | ⟨ne, h1⟩
    · cases e1; rw [hm] at m; cases m
    · rw [List.getElem?_set_ne (Ne.symm ne)] at h2
      exact ⟨j, x, h1, m, h2⟩
  have st : Stay H H (Hid γ e.ρ σ Z) (Hid γ (e.st i (some s)).ρ (σ.set i (some v)) Z) := stay_refl fun a o _ z => z.imp mm id
  refine ⟨by simp [R.len], fun j x h => ?_, fun j x a h m h2 => ?_, fun j d a h h2 j' x h3 m h4 => ?_, R.cl, R.nd, R.cell, R.cz, R.zt⟩
  · rcases set_get h with ⟨rfl, e1⟩ | ⟨ne, h⟩
    · cases e1
      exact ⟨v, List.getElem?_set_self hσ, ok.stay st fun _ _ _ o ho => ho⟩
    · obtain ⟨w, hw, q⟩ := R.slot j x h
      exact ⟨w, by rw [List.getElem?_set_ne (Ne.symm ne)]; exact hw, q.stay st fun _ _ _ o ho => ho⟩
  · rcases set_get h with ⟨rfl, e1⟩ | ⟨ne, h⟩
    · cases e1; rw [hm] at m; cases m
    · rw [List.getElem?_set_ne (Ne.symm ne)] at h2
      exact R.mu j x a h m h2
  · rcases set_get h with ⟨rfl, e1⟩ | ⟨ne, h⟩
    · cases e1; cases hm
    · rcases set_get h3 with ⟨rfl, e1⟩ | ⟨ne', h3⟩
      · cases e1; rw [hm] at m; cases m
      · rw [List.getElem?_set_ne (Ne.symm ne)] at h2
        rw [List.getElem?_set_ne (Ne.symm ne')] at h4
        exact R.own j d a h h2 j' x h3 m h4
/-- a slot gets a new object of its own -/
theorem Rep.putOw {i : Nat} {d : D} {p : Addr} (R : Rep K γ e σ H Z) (hi : i < e.ρ.length) (hp : Z p) (c : Ct K H (Hid γ e.ρ σ Z) p d) : Rep K γ (e.st i (some (.ow d))) (σ.set i (some (.ref p))) H fun a => Z a ∧ a ≠ p := by
  have hσ : i < σ.length := by rw [R.len]; exact hi
  have mm : ∀ {a : Addr}, MutA (e.st i (some (.ow d))).ρ (σ.set i (some (.ref p))) a → MutA e.ρ σ a ∨ a = p := fun {a} ⟨j, x, h1, m, h2⟩ => by
    rcases set_get h1 with ⟨rfl, e1⟩ | ⟨ne, h1⟩
    · rw [List.getElem?_set_self hσ] at h2
      cases h2; exact .inr rfl
    · rw [List.getElem?_set_ne (Ne.symm ne)] at h2
      exact .inl ⟨j, x, h1, m, h2⟩
  have st : Stay H H (Hid γ e.ρ σ Z) (Hid γ (e.st i (some (.ow d))).ρ (σ.set i (some (.ref p))) fun a => Z a ∧ a ≠ p) := stay_refl fun a o _ z => by
    rcases z with z | z | z
    · rcases mm z with z | z
      · exact .inl z
      · exact .inr (.inr (by rw [z]; exact hp))
    · exact .inr (.inl z)
    · exact .inr (.inr z.1)
  refine ⟨by simp [R.len], fun j x h => ?_, fun j x a h m h2 => ?_, fun j d' a h h2 j' x h3 m h4 => ?_, R.cl, R.nd, R.cell, fun a ha z => R.cz a ha z.1, fun a z => R.zt a z.1⟩
  · rcases set_get h with ⟨rfl, e1⟩ | ⟨ne, h⟩
    · cases e1
      exact ⟨_, List.getElem?_set_self hσ, p, rfl, c.stay st fun o ho => ho⟩
    · obtain ⟨w, hw, q⟩ := R.slot j x h
      exact ⟨w, by rw [List.getElem?_set_ne (Ne.symm ne)]; exact hw, q.stay st fun _ _ _ o ho => ho⟩
  · rcases set_get h with ⟨rfl, e1⟩ | ⟨ne, h⟩
    · rw [List.getElem?_set_self hσ] at h2
      cases h2
      exact ⟨fun z => z.2 rfl, fun z => R.cz p z hp⟩
    · rw [List.getElem?_set_ne (Ne.symm ne)] at h2
      exact ⟨fun z => (R.mu j x a h m h2).1 z.1, (R.mu j x a h m h2).2⟩
  · rcases set_get h with ⟨q0, e1⟩ | ⟨ne, g0⟩
    · subst q0
      rw [List.getElem?_set_self hσ] at h2
      cases h2
      rcases set_get h3 with ⟨q1, e1⟩ | ⟨ne', h3⟩
      · exact q1
      · rw [List.getElem?_set_ne (Ne.symm ne')] at h4
        exact absurd hp (R.mu j' x p h3 m h4).1
    · rw [List.getElem?_set_ne (Ne.symm ne)] at h2
      rcases set_get h3 with ⟨q1, e1⟩ | ⟨ne', h3⟩
      · subst q1
        rw [List.getElem?_set_self hσ] at h4
        cases h4
        exact absurd hp (R.mu j _ p g0 rfl h2).1
      · rw [List.getElem?_set_ne (Ne.symm ne')] at h4
        exact R.own j d' a g0 h2 j' x h3 m h4
/-- a slot is emptied -/
theorem Rep.clear {i : Nat} (R : Rep K γ e σ H Z) : Rep K γ (e.st i none) σ H Z := by
  have gg : ∀ {j : Nat} {x : Sl}, (e.st i none).ρ[j]? = some (some x) → e.ρ[j]? = some (some x) := fun {j x} h => by
    rcases set_get h with ⟨rfl, e1⟩ | ⟨ne, h⟩
    · cases e1
    · exact h
  have st : Stay H H (Hid γ e.ρ σ Z) (Hid γ (e.st i none).ρ σ Z) := stay_refl fun a o _ z => z.imp (fun ⟨j, x, h1, m, h2⟩ => ⟨j, x, gg h1, m, h2⟩) id
  refine ⟨by simp [R.len], fun j x h => ?_, fun j x a h m h2 => R.mu j x a (gg h) m h2, fun j d a h h2 j' x h3 m h4 => R.own j d a (gg h) h2 j' x (gg h3) m h4, R.cl, R.nd, R.cell, R.cz, R.zt⟩
  obtain ⟨w, hw, q⟩ := R.slot j x (gg h)
  exact ⟨w, hw, q.stay st fun _ _ _ o ho => ho⟩
/-- a slot's own object is taken out -/
theorem Rep.take {i : Nat} {d : D} (R : Rep K γ e σ H Z) (h : e.ρ[i]? = some (some (.ow d))) : ∃ a, σ[i]? = some (some (.ref a)) ∧ ¬ Z a ∧ a ∉ γ ∧ Rep K γ (e.st i none) σ H (fun b => Z b ∨ b = a) ∧ Ct K H (Hid γ (e.st i none).ρ σ fun b => Z b ∨ b = a) a d := by
  obtain ⟨v, hv, a, rfl, c⟩ := R.slot i _ h
  obtain ⟨nz, ng⟩ := R.mu i _ a h rfl hv
  have gg : ∀ {j : Nat} {x : Sl}, (e.st i none).ρ[j]? = some (some x) → j ≠ i ∧ e.ρ[j]? = some (some x) := fun {j x} h => by
    rcases set_get h with ⟨rfl, e1⟩ | ⟨ne, h⟩
    · cases e1
    · exact ⟨ne, h⟩
  have st : Stay H H (Hid γ e.ρ σ Z) (Hid γ (e.st i none).ρ σ fun b => Z b ∨ b = a) := stay_refl fun b o _ z => by
    rcases z with ⟨j, x, h1, m, h2⟩ | z | z | z
    · exact .inl ⟨j, x, (gg h1).2, m, h2⟩
    · exact .inr (.inl z)
    · exact .inr (.inr z)
    · rw [z]; exact .inl ⟨i, _, h, rfl, hv⟩
  refine ⟨a, hv, nz, ng, ⟨by simp [R.len], fun j x h' => ?_, fun j x b h' m h2 => ?_, fun j d' b h' h2 j' x h3 m h4 => R.own j d' b (gg h').2 h2 j' x (gg h3).2 m h4, R.cl, R.nd, R.cell, fun b hb z => ?_, fun b z => ?_⟩, c.stay st fun o ho => ho⟩
  · obtain ⟨w, hw, q⟩ := R.slot j x (gg h').2
    exact ⟨w, hw, q.stay st fun _ _ _ o ho => ho⟩
  · refine ⟨fun z => ?_, (R.mu j x b (gg h').2 m h2).2⟩
    rcases z with z | z
    · exact (R.mu j x b (gg h').2 m h2).1 z
    · subst z
      exact (gg h').1 (R.own i d b h hv j x (gg h').2 m h2)
  · rcases z with z | z
    · exact R.cz b hb z
    · subst z; exact ng hb
  · rcases z with z | z
    · exact R.zt b z
    · subst z; exact c.there
/-- a slot's own object stands still from now on -/
theorem Rep.frz {i : Nat} {d : D} (R : Rep K γ e σ H Z) (h : e.ρ[i]? = some (some (.ow d))) : ∃ a, σ[i]? = some (some (.ref a)) ∧ Rep K γ (e.st i (some (.fz d))) σ H Z ∧ Rp K H (Hid γ (e.st i (some (.fz d))).ρ σ Z) (.ref a) d := by
  obtain ⟨a, hv, nz, ng, R1, c⟩ := R.take h
  have hi : i < e.ρ.length := (List.getElem?_eq_some_iff.mp h).1
  have R2 : Rep K γ (e.st i none) σ H Z := R1.down fun b z => .inl z
  have nm : ¬ Hid γ (e.st i none).ρ σ Z a := fun z => by
    rcases z with ⟨j, x, h1, m, h2⟩ | z | z
    · have q := (R1.mu j x a h1 m h2).1
      exact q (.inr rfl)
    · exact ng z
    · exact nz z
  have st : Stay H H (Hid γ (e.st i none).ρ σ fun b => Z b ∨ b = a) (Hid γ (e.st i none).ρ σ Z) := stay_refl fun b o _ z => z.imp id (Or.imp id .inl)
  have rp : Rp K H (Hid γ (e.st i none).ρ σ Z) (.ref a) d := by
    rcases c with ⟨xs, ds, rfl, q, r⟩ | ⟨ks, kvs, rfl, q, r⟩ | ⟨xs, kvs, rfl, q, n, k, r⟩
    · exact .lst (.inl ⟨.inl q, nm⟩) (r.stay st)
    · exact .dct q nm (r.stay st)
    · exact .dcn q nm n k (RpN.stay st _ r)
  have R3 := R2.put (i := i) (s := .fz d) (v := .ref a) (by simpa using hi) rfl rp
  have es : (e.st i none).st i (some (.fz d)) = e.st i (some (.fz d)) := by simp [En.st, List.set_set]
  have eσ : σ.set i (some (.ref a)) = σ := by
    refine List.ext_getElem? fun j => ?_
    by_cases e : j = i
    · subst e; rw [List.getElem?_set_self (List.getElem?_eq_some_iff.mp hv).1, hv]
    · rw [List.getElem?_set_ne (Ne.symm e)]
  rw [es, eσ] at R3
  refine ⟨a, hv, R3, Rp.stay (stay_refl fun b o _ z => ?_) d rp⟩
  rcases z with ⟨j, x, h1, m, h2⟩ | z
  · rcases set_get h1 with ⟨rfl, e1⟩ | ⟨ne, h1⟩
    · cases e1; cases m
    · exact .inl ⟨j, x, by show (e.ρ.set i none)[j]? = _; rw [List.getElem?_set_ne (Ne.symm ne)]; exact h1, m, h2⟩
  · exact .inr z
theorem Sh.st {i : Nat} {s : Option Sl} (h : ∀ d, e.ρ[i]? ≠ some (some (.bo d))) (hs : ∀ x, s = some x → x.isMu = false) : Sh e (e.st i s) := by
  refine ⟨fun j x h1 m => ?_, fun j d h1 => ?_, fun j d h1 => ?_, by simp⟩
  · rcases set_get h1 with ⟨rfl, e1⟩ | ⟨ne, h1⟩
    · rw [hs x e1] at m; cases m
    · exact ⟨x, h1, m, id⟩
  · show (e.ρ.set i s)[j]? = _
    by_cases q : j = i
    · subst q; exact absurd h1 (h d)
    · rw [List.getElem?_set_ne (Ne.symm q)]; exact h1
  · rcases set_get h1 with ⟨rfl, e1⟩ | ⟨ne, h1⟩
    · exact absurd (hs _ e1) (by simp [Sl.isMu])
    · exact h1
/-- handed on for good -/
theorem als_ok {r : Rs} {v : V} {d : D} (q : als r e = some (d, e1)) (h0 : ∀ a, Z a → Z1 a) (R : Rep K γ e σ H Z1) (h : RsOk K γ H e σ Z Z1 r v) :
    ∃ Z2, (∀ a, Z a → Z2 a) ∧ (∀ a, Z2 a → Z1 a) ∧ Rep K γ e1 σ H Z2 ∧ Rp K H (Hid γ e1.ρ σ Z2) v d ∧ Sh e e1 := by
  cases r with
  | fz d0 => cases q; exact ⟨Z1, h0, fun _ z => z, R, h, Sh.refl e⟩
  | fr d0 =>
    cases q
    obtain ⟨p, rfl, hp, np, c⟩ := h
    refine ⟨fun a => Z1 a ∧ a ≠ p, fun a z => ⟨h0 a z, fun e => np (e ▸ z)⟩, fun a z => z.1, R.down fun a z => z.1, ?_, Sh.refl e⟩
    have nm : ¬ Hid γ e.ρ σ (fun a => Z1 a ∧ a ≠ p) p := fun z => by
      rcases z with ⟨j, x, h1, m, h2⟩ | z | z
      · exact (R.mu j x p h1 m h2).1 hp
      · exact R.cz p z hp
      · exact z.2 rfl
    have st : Stay H H (Hid γ e.ρ σ Z1) (Hid γ e.ρ σ fun a => Z1 a ∧ a ≠ p) := stay_refl fun b o _ z => z.imp id (Or.imp id (·.1))
    rcases c with ⟨xs, ds, rfl, q, r⟩ | ⟨ks, kvs, rfl, q, r⟩ | ⟨xs, kvs, rfl, q, n, k, r⟩
    · exact .lst (.inl ⟨.inl q, nm⟩) (r.stay st)
    · exact .dct q nm (r.stay st)
    · exact .dcn q nm n k (RpN.stay st _ r)
  | sl i =>
    have q' : (match e.ρ[i]? with
      | some (some (.fz d)) => some (d, e)
      | some (some (.ow d)) => some (d, { e with ρ := e.ρ.set i (some (.fz d)) })
      | _ => none) = some (d, e1) := q
    have hx : σ[i]? = some (some v) := h
    cases q2 : e.ρ[i]? with
    | none => rw [q2] at q'; cases q'
    | some o =>
      cases o with
      | none => rw [q2] at q'; cases q'
      | some s =>
        rw [q2] at q'
        cases s with
        | fz d0 =>
          cases q'
          obtain ⟨w, hw, ok⟩ := R.slot i _ q2
          rw [hx] at hw; cases hw
          exact ⟨Z1, h0, fun _ z => z, R, ok, Sh.refl e⟩
        | ow d0 =>
          cases q'
          obtain ⟨a, ha, R1, rp⟩ := R.frz q2
          rw [hx] at ha; cases ha
          exact ⟨Z1, h0, fun _ z => z, R1, rp, Sh.st (fun d' z => by rw [q2] at z; cases z) fun x e => by cases e; rfl⟩
        | bo d0 => cases q'
        | pt k => cases q'
end

/-! ### values handed on for good, one behind another -/
def consF (fa : M Rs) (fs : M (List D)) : M (List D) := bnd fa fun a => bnd (als a) fun d => bnd fs fun ds => ret (d :: ds)
def tF (K : KW) (f : M (List D)) : TA := fun σ H Q => ∃ γ e Z ds e', Rep K γ e σ H Z ∧ f e = some (ds, e') ∧ ∀ vs H', Kp γ e.ρ σ H H' → Sh e e' →
  (∃ Z' : Addr → Prop, (∀ a, Z a → Z' a) ∧ (∀ a, Z' a → Z a ∨ H a = none) ∧ Rep K γ e' σ H' Z' ∧ RpL K H' (Hid γ e'.ρ σ Z') vs ds) → Q vs H'
section
variable {X : Cx} {K : KW} {e : Expr} {es : List Expr}
theorem tF_nil : ∀ σ H Q, tF K (ret []) σ H Q → tNil σ H Q := by
  rintro σ H Q ⟨γ, e, Z, res, e', R, h, k⟩
  cases h
  exact k [] H (Kp.refl H) (Sh.refl e) ⟨Z, fun _ z => z, fun _ z => .inl z, R, .nil⟩
theorem tF_cons {fa : M Rs} {fs : M (List D)} : ∀ σ H Q, tF K (consF fa fs) σ H Q → tCons (tE K fa) (tF K fs) σ H Q := by
  rintro σ H Q ⟨γ, e, Z, res, e', R, h, k⟩
  obtain ⟨ra, e1, h1, ha⟩ := bnd_eq h
  obtain ⟨d, e2, h2, hb⟩ := bnd_eq ha
  obtain ⟨ds, e3, h3, hc⟩ := bnd_eq hb
  cases hc
  refine ⟨γ, e, Z, ra, e1, R, h1, fun x H1 kp sh P => ?_⟩
  obtain ⟨Z1, h01, hf, R1, A1⟩ := P.one
  obtain ⟨Z2, h02, h21, R2, rp, sh2⟩ := als_ok h2 h01 R1 A1
  refine ⟨γ, e2, Z2, ds, _, R2, h3, fun xs H2 kp2 sh3 P2 => ?_⟩
  obtain ⟨Z3, h23, hf3, R3, rpl⟩ := P2
  refine k (x :: xs) H2 (kp.trans (sh.trans sh2) kp2) ((sh.trans sh2).trans sh3) ⟨Z3, fun a z => h23 a (h02 a z), fun a z => ?_, R3, .cons (Rp.stay (stay_of kp2 sh3 hf3) d rp) rpl⟩
  rcases hf3 a z with z | z
  · exact hf a (h21 a z)
  · exact .inr (kp.none z)
theorem df_nil : PA X [] (tF X.KW (ret [])) := PA.weak pa_nil tF_nil
theorem df_cons {fa : M Rs} {fs : M (List D)} (ha : PE X e (tE X.KW fa)) (hr : PA X es (tF X.KW fs)) (hs : starEach (e :: es) X.env = (false, eval e X.env) :: starEach es X.env := by rfl) : PA X (e :: es) (tF X.KW (consF fa fs)) :=
  PA.weak (pa_cons ha hr hs) tF_cons
/-- displays -/
def tupM (fs : M (List D)) : M Rs := bnd fs fun ds => if ds.length ≤ 1000 then ret (.fz (.tuple ds)) else noM
def lstM (fs : M (List D)) : M Rs := bnd fs fun ds => if ds.length ≤ 1000 then ret (.fr (.list ds)) else noM
theorem le1000 {n : Nat} (h : n ≤ 1000) : n ≤ sizeLine := Nat.le_of_lt (small1000 h)
theorem de_tup {fs : M (List D)} {j pos} (h : PA X es (tF X.KW fs)) : PE X (.Tuple es j pos) (tE X.KW (tupM fs)) := by
  refine PE.weak (pe_tupZ h) ?_
  rintro σ H Q ⟨γ, e, Z, res, e', R, h, k⟩
  obtain ⟨ds, e1, h1, ha⟩ := bnd_eq h
  by_cases hl : ds.length ≤ 1000
  · simp only [if_pos hl] at ha
    cases ha
    refine ⟨γ, e, Z, ds, _, R, h1, fun vs H1 kp sh P => ?_⟩
    obtain ⟨Z1, h01, hf, R1, rp⟩ := P
    refine ⟨by rw [rp.length]; exact le1000 hl, fun p o hp hd => ?_⟩
    obtain ⟨kp2, P2⟩ := (Gr.tup (Same.refl H1) hp hd rp).pst R1
    exact k _ _ (kp.trans sh kp2) sh (Pst.next (rs0 := []) (xs0 := []) kp h01 hf P2)
  · simp only [if_neg hl] at ha; cases ha
theorem de_lst {fs : M (List D)} {pos} (h : PA X es (tF X.KW fs)) : PE X (.List es pos) (tE X.KW (lstM fs)) := by
  refine PE.weak (pe_lst h) ?_
  rintro σ H Q ⟨γ, e, Z, res, e', R, h, k⟩
  obtain ⟨ds, e1, h1, ha⟩ := bnd_eq h
  by_cases hl : ds.length ≤ 1000
  · simp only [if_pos hl] at ha
    cases ha
    refine ⟨γ, e, Z, ds, _, R, h1, fun vs H1 kp sh P => ?_⟩
    obtain ⟨Z1, h01, hf, R1, rp⟩ := P
    refine ⟨by rw [rp.length]; exact le1000 hl, fun p hp => ?_⟩
    obtain ⟨kp2, P2⟩ := (Gr.lst (Same.refl H1) hp rp).pst R1
    exact k _ _ (kp.trans sh kp2) sh (Pst.next (rs0 := []) (xs0 := []) kp h01 hf P2)
  · simp only [if_neg hl] at ha; cases ha
/-- {} -/
theorem de_dnew {pos} : PE X (.Dict [] [] pos) (tE X.KW (ret (.fr (.dict [])))) := by
  refine PE.weak pe_dnewK ?_
  rintro σ H Q ⟨γ, e, Z, res, e', R, h, k⟩
  cases h
  intro p hp
  obtain ⟨kp2, P2⟩ := (Gr.dct (K := X.KW) (O := Hid γ e.ρ σ Z) (Same.refl H) hp .nil).pst R
  exact k _ _ kp2 (Sh.refl e) P2
end
end DV
end
section
set_option Elab.async false
set_option linter.all false
set_option maxRecDepth 100000
namespace DV
open PySem PySem.Spec PyProof.Rows L2

/-! ### steps of a body -/
structure Stp (γ : List Addr) (e : En) (σ : L2.St) (H : Hp) (γ' : List Addr) (e' : En) (σ' : L2.St) (H' : Hp) : Prop where
  pre : ∃ δ, γ' = γ ++ δ
  nw : ∀ a ∈ γ', a ∈ γ ∨ H a = none
  st : ∀ a o, H a = some o → ¬ OwnA e.ρ σ a → a ∉ γ → H' a = some o
  th : ∀ a o, H a = some o → ∃ o', H' a = some o'
  mu : ∀ a, MutA e'.ρ σ' a → MutA e.ρ σ a ∨ H a = none
  ow : ∀ a, OwnA e'.ρ σ' a → OwnA e.ρ σ a ∨ H a = none
  bo : ∀ (i : Nat) (d : D), e.ρ[i]? = some (some (Sl.bo d)) → e'.ρ[i]? = some (some (Sl.bo d)) ∧ σ'[i]? = σ[i]?
  bb : ∀ (i : Nat) (d : D), e'.ρ[i]? = some (some (Sl.bo d)) → e.ρ[i]? = some (some (Sl.bo d))
  ln : e'.ρ.length = e.ρ.length
section
variable {K : KW} {γ γ' γ'' : List Addr} {e e' e'' : En} {σ σ' σ'' : L2.St} {H H' H'' : Hp} {Z Z' : Addr → Prop}
theorem Stp.none (s : Stp γ e σ H γ' e' σ' H') {a : Addr} (h : H' a = Option.none) : H a = Option.none := by
  cases q : H a with
  | none => rfl
  | some o => obtain ⟨o', h'⟩ := s.th a o q; rw [h] at h'; cases h'
theorem Stp.refl : Stp γ e σ H γ e σ H := ⟨⟨[], by simp⟩, fun _ h => .inl h, fun _ _ h _ _ => h, fun _ o h => ⟨o, h⟩, fun _ h => .inl h, fun _ h => .inl h, fun _ _ h => ⟨h, rfl⟩, fun _ _ h => h, rfl⟩
theorem Stp.trans (a : Stp γ e σ H γ' e' σ' H') (b : Stp γ' e' σ' H' γ'' e'' σ'' H'') : Stp γ e σ H γ'' e'' σ'' H'' where
  pre := by
    obtain ⟨d1, h1⟩ := a.pre
    obtain ⟨d2, h2⟩ := b.pre
    exact ⟨d1 ++ d2, by rw [h2, h1, List.append_assoc]⟩
  nw := fun c hc => by
    rcases b.nw c hc with z | z
    · exact a.nw c z
    · exact .inr (a.none z)
  st := fun c o h n g => b.st c o (a.st c o h n g) (fun z => by
    rcases a.ow c z with z | z
    · exact n z
    · rw [h] at z; cases z) fun z => by
    rcases a.nw c z with z | z
    · exact g z
    · rw [h] at z; cases z
  th := fun c o h => let ⟨o', h'⟩ := a.th c o h; b.th c o' h'
  mu := fun c h => by
    rcases b.mu c h with z | z
    · exact a.mu c z
    · exact .inr (a.none z)
  ow := fun c h => by
    rcases b.ow c h with z | z
    · exact a.ow c z
    · exact .inr (a.none z)
  bo := fun i d h => by
    obtain ⟨h1, h2⟩ := a.bo i d h
    obtain ⟨h3, h4⟩ := b.bo i d h1
    exact ⟨h3, h4.trans h2⟩
  bb := fun i d h => a.bb i d (b.bb i d h)
  ln := b.ln.trans a.ln
theorem Stp.ev (kp : Kp γ e.ρ σ H H') (sh : Sh e e') : Stp γ e σ H γ e' σ H' := ⟨⟨[], by simp⟩, fun _ h => .inl h, kp.st, kp.th, fun _ h => .inl (sh.mu h), fun _ h => .inl (sh.own h), fun i d h => ⟨sh.bo i d h, rfl⟩, sh.bb, sh.ln⟩
theorem Stp.stay (s : Stp γ e σ H γ' e' σ' H') (hz : ∀ a, Z' a → Z a ∨ H a = Option.none) : Stay H H' (Hid γ e.ρ σ Z) (Hid γ' e'.ρ σ' Z') := fun a o h n => by
  refine ⟨s.st a o h (fun z => n (.inl z.mu)) (fun z => n (.inr (.inl z))), fun z => ?_⟩
  rcases z with z | z | z
  · rcases s.mu a z with z | z
    · exact n (.inl z)
    · rw [h] at z; cases z
  · rcases s.nw a z with z | z
    · exact n (.inr (.inl z))
    · rw [h] at z; cases z
  · rcases hz a z with z | z
    · exact n (.inr (.inr z))
    · rw [h] at z; cases z
end

inductive Fl where
  | nx | bk | ct | rt (r : Rs)
/-- what stands behind a return -/
def Prt (K : KW) (H : Hp) (e : En) (σ : L2.St) (Z : Addr → Prop) (γ' : List Addr) (e' : En) (σ' : L2.St) (r : Rs) (v : V) (H' : Hp) : Prop :=
  ∃ Z' : Addr → Prop, (∀ a, Z a → Z' a) ∧ (∀ a, Z' a → Z a ∨ H a = none ∨ OwnA e.ρ σ a) ∧ Rep K γ' e' σ' H' Z' ∧ RsOk K γ' H' e' σ' Z Z' r v
def Ends.at (D : Ends) (K : KW) (γ : List Addr) (e : En) (σ : L2.St) (H : Hp) (Z : Addr → Prop) (e' : En) : Fl → Prop
  | .nx => ∀ γ' σ' H', Stp γ e σ H γ' e' σ' H' → Rep K γ' e' σ' H' Z → D.nx σ' H'
  | .bk => ∀ γ' σ' H', Stp γ e σ H γ' e' σ' H' → Rep K γ' e' σ' H' Z → D.bk σ' H'
  | .ct => ∀ γ' σ' H', Stp γ e σ H γ' e' σ' H' → Rep K γ' e' σ' H' Z → D.ct σ' H'
  | .rt r => ∀ γ' σ' v H', Stp γ e σ H γ' e' σ' H' → Prt K H e σ Z γ' e' σ' r v H' → D.rt v H'
def tS (K : KW) (f : M Fl) : TS := fun D σ H => ∃ γ e Z fl e', Rep K γ e σ H Z ∧ f e = some (fl, e') ∧ Ends.at D K γ e σ H Z e' fl
section
variable {X : Cx} {K : KW} {γ γ' γ'' : List Addr} {e e' e'' : En} {σ σ' σ'' : L2.St} {H H' H'' : Hp} {Z Z' : Addr → Prop} {D : Ends}
theorem Prt.back (s : Stp γ e σ H γ' e' σ' H') {r : Rs} {v : V} (p : Prt K H' e' σ' Z γ'' e'' σ'' r v H'') : Prt K H e σ Z γ'' e'' σ'' r v H'' := by
  obtain ⟨Z1, h1, h2, h3, h4⟩ := p
  refine ⟨Z1, h1, fun a z => ?_, h3, h4⟩
  rcases h2 a z with z | z | z
  · exact .inl z
  · exact .inr (.inl (s.none z))
  · rcases s.ow a z with z | z
    · exact .inr (.inr z)
    · exact .inr (.inl z)
/-- an end told from a later point -/
theorem Ends.back (s : Stp γ e σ H γ' e' σ' H') {fl : Fl} (h : Ends.at D K γ e σ H Z e'' fl) : Ends.at D K γ' e' σ' H' Z e'' fl := by
  cases fl with
  | nx => exact fun g t h2 s2 R => h g t h2 (s.trans s2) R
  | bk => exact fun g t h2 s2 R => h g t h2 (s.trans s2) R
  | ct => exact fun g t h2 s2 R => h g t h2 (s.trans s2) R
  | rt r => exact fun g t v h2 s2 p => h g t v h2 (s.trans s2) (p.back s)
def seqM (f g : M Fl) : M Fl := fun e => match f e with
  | some (.nx, e1) => g e1
  | o => o
theorem tS_seq {f g : M Fl} : ∀ D σ H, tS K (seqM f g) D σ H → tSeq (tS K f) (tS K g) D σ H := by
  rintro D σ H ⟨γ, e, Z, fl, e', R, h, k⟩
  have h' : (match f e with
    | some (.nx, e1) => g e1
    | o => o) = some (fl, e') := h
  cases q : f e with
  | none => rw [q] at h'; cases h'
  | some p =>
    obtain ⟨fl1, e1⟩ := p
    rw [q] at h'
    cases fl1 with
    | nx => exact ⟨γ, e, Z, .nx, e1, R, q, fun γ1 σ1 H1 s R1 => ⟨γ1, e1, Z, fl, e', R1, h', Ends.back s k⟩⟩
    | bk => cases h'; exact ⟨γ, e, Z, .bk, e', R, q, k⟩
    | ct => cases h'; exact ⟨γ, e, Z, .ct, e', R, q, k⟩
    | rt r => cases h'; exact ⟨γ, e, Z, .rt r, e', R, q, k⟩
theorem dss_cons {st : Stmt} {rest : List Stmt} {f g : M Fl} (h1 : PS X st (tS X.KW f)) (h2 : PSs X rest (tS X.KW g)) : PSs X (st :: rest) (tS X.KW (seqM f g)) := PSs.weak (pss_cons h1 h2) tS_seq
theorem dss_one {st : Stmt} {f : M Fl} (h1 : PS X st (tS X.KW f)) : PSs X [st] (tS X.KW f) := pss_one h1
theorem tS_nil : ∀ D σ H, tS K (ret .nx) D σ H → tNext D σ H := by
  rintro D σ H ⟨γ, e, Z, fl, e', R, h, k⟩
  cases h
  exact k γ σ H Stp.refl R
theorem dss_nil : PSs X [] (tS X.KW (ret .nx)) := PSs.weak pss_nil tS_nil
theorem ds_pass {pos : Pos} : PS X (.Pass pos) (tS X.KW (ret .nx)) := PS.weak ps_pass tS_nil
theorem ds_no {st : Stmt} : PS X st (tS X.KW noM) := ⟨fun _ _ _ _ _ _ h => by obtain ⟨_, _, _, _, _, _, q, _⟩ := h; cases q⟩
theorem ds_break {pos : Pos} : PS X (.Break pos) (tS X.KW (ret .bk)) := PS.weak ps_break (by
  rintro D σ H ⟨γ, e, Z, fl, e', R, h, k⟩
  cases h
  exact k γ σ H Stp.refl R)
theorem ds_continue {pos : Pos} : PS X (.Continue pos) (tS X.KW (ret .ct)) := PS.weak ps_continue (by
  rintro D σ H ⟨γ, e, Z, fl, e', R, h, k⟩
  cases h
  exact k γ σ H Stp.refl R)
/-- if -/
def iteM {α : Type} (c : M Bool) (f g : M α) : M α := bnd c fun b => if b = true then f else g
theorem tS_if {c : M Bool} {f g : M Fl} : ∀ D σ H, tS K (iteM c f g) D σ H → tIfS (tT K c) (tS K f) (tS K g) D σ H := by
  rintro D σ H ⟨γ, e, Z, fl, e', R, h, k⟩
  obtain ⟨b, e1, h1, h2⟩ := bnd_eq h
  refine ⟨γ, e, Z, b, e1, R, h1, fun H1 kp sh R1 => ?_⟩
  cases b with
  | true => rw [if_pos rfl] at h2 ⊢; exact ⟨γ, e1, Z, fl, e', R1, h2, Ends.back (Stp.ev kp sh) k⟩
  | false => rw [if_neg Bool.false_ne_true] at h2 ⊢; exact ⟨γ, e1, Z, fl, e', R1, h2, Ends.back (Stp.ev kp sh) k⟩
theorem ds_if {c : Expr} {a b : List Stmt} {pos : Pos} {tc : M Bool} {f g : M Fl} (hc : PT X c (tT X.KW tc)) (ha : PSs X a (tS X.KW f)) (hb : PSs X b (tS X.KW g)) : PS X (.If c a b pos) (tS X.KW (iteM tc f g)) := PS.weak (ps_if hc ha hb) tS_if
/-- an expression for its effect -/
def drpM (f : M Rs) : M Fl := bnd f fun _ => ret .nx
theorem ds_expr {e : Expr} {pos : Pos} {f : M Rs} (he : PE X e (tE X.KW f)) (hs : swapsWith e none pos.line X.env = pure false := by rfl) : PS X (.Expr e pos) (tS X.KW (drpM f)) := PS.weak (ps_expr he hs) (by
  rintro D σ H ⟨γ, e, Z, fl, e', R, h, k⟩
  obtain ⟨r, e1, h1, h2⟩ := bnd_eq h
  cases h2
  exact ⟨γ, e, Z, r, e', R, h1, fun v H1 kp sh P => k γ σ H1 (Stp.ev kp sh) P.rep⟩)

/-! ### a name stored -/
def asg1 (i : Nat) (r : Rs) (e : En) : Option (Unit × En) := match r with
    | .fz d => some ((), e.st i (some (.fz d)))
    | .fr d => some ((), e.st i (some (.ow d)))
    | .sl j => match e.ρ[j]? with
      | some (some (.ow d)) => some ((), (e.st j none).st i (some (.ow d)))
      | _ => none
def asg (i : Nat) (r : Rs) : M Unit := fun e => match e.ρ[i]? with
  | none => none
  | some (some (.bo _)) => none
  | _ => asg1 i r e
/-- behind a store -/
theorem asg_ok {i : Nat} {r : Rs} {v : V} {e1 e2 : En} {Z1 : Addr → Prop} (q : asg i r e1 = some ((), e2)) (h01 : ∀ a, Z a → Z1 a) (hz : ∀ a, Z1 a → Z a ∨ H a = none) (s : Stp γ e σ H γ e1 σ H') (R : Rep K γ e1 σ H' Z1)
    (ok : RsOk K γ H' e1 σ Z Z1 r v) : Rep K γ e2 (σ.set i (some v)) H' Z ∧ Stp γ e σ H γ e2 (σ.set i (some v)) H' := by
  unfold asg at q
  have hi : i < e1.ρ.length ∧ ∀ d, e1.ρ[i]? ≠ some (some (.bo d)) := by
    cases q1 : e1.ρ[i]? with
    | none => rw [q1] at q; cases q
    | some o =>
      refine ⟨(List.getElem?_eq_some_iff.mp q1).1, fun d z => ?_⟩
      cases z
      rw [q1] at q; cases q
  obtain ⟨hi, nb⟩ := hi
  have hσ : i < σ.length := by rw [R.len]; exact hi
  have q' : asg1 i r e1 = some ((), e2) := by
    cases q1 : e1.ρ[i]? with
    | none => rw [q1] at q; cases q
    | some o =>
      rw [q1] at q
      cases o with
      | none => exact q
      | some x =>
        cases x with
        | bo d => cases q
        | fz d => exact q
        | ow d => exact q
        | pt k => exact q
  have bo' : ∀ (e2 : En) (w : V), (∀ j : Nat, j ≠ i → ∀ d, e1.ρ[j]? = some (some (.bo d)) → e2.ρ[j]? = some (some (.bo d))) → ∀ (j : Nat) (d : D), e.ρ[j]? = some (some (Sl.bo d)) → e2.ρ[j]? = some (some (Sl.bo d)) ∧ (σ.set i (some w))[j]? = σ[j]? := fun e2 w h j d hj => by
    obtain ⟨h1, _⟩ := s.bo j d hj
    by_cases ej : j = i
    · subst ej; exact absurd h1 (nb d)
    · exact ⟨h j ej d h1, by rw [List.getElem?_set_ne (Ne.symm ej)]⟩
  have bb1 : ∀ (x : Option Sl), (∀ d, x ≠ some (.bo d)) → ∀ (j : Nat) (d : D), (e1.st i x).ρ[j]? = some (some (Sl.bo d)) → e1.ρ[j]? = some (some (Sl.bo d)) := fun x hx j d h => by
    rcases set_get h with ⟨q0, e1'⟩ | ⟨ne, h1⟩
    · exact absurd e1' (hx d)
    · exact h1
  cases r with
  | fz d =>
    cases q'
    have R2 := (R.put (s := .fz d) hi rfl ok).down h01
    have mm : ∀ a, MutA (e1.st i (some (.fz d))).ρ (σ.set i (some v)) a → MutA e1.ρ σ a := fun a ⟨j, x, h1, m, h2⟩ => by
      rcases set_get h1 with ⟨q0, e1'⟩ | ⟨ne, h1⟩
      · cases e1'; cases m
      · rw [List.getElem?_set_ne (Ne.symm ne)] at h2; exact ⟨j, x, h1, m, h2⟩
    have oo : ∀ a, OwnA (e1.st i (some (.fz d))).ρ (σ.set i (some v)) a → OwnA e1.ρ σ a := fun a ⟨j, x, h1, h2⟩ => by
      rcases set_get h1 with ⟨q0, e1'⟩ | ⟨ne, h1⟩
      · cases e1'
      · rw [List.getElem?_set_ne (Ne.symm ne)] at h2; exact ⟨j, x, h1, h2⟩
    exact ⟨R2, s.pre, s.nw, s.st, s.th, fun a h => s.mu a (mm a h), fun a h => s.ow a (oo a h), bo' _ v fun j ne d' h => by show (e1.ρ.set i _)[j]? = _; rw [List.getElem?_set_ne (Ne.symm ne)]; exact h, fun j d' h => s.bb j d' (bb1 _ (fun x => by rintro ⟨⟩) j d' h), by simp [s.ln]⟩
  | fr d =>
    cases q'
    obtain ⟨p, rfl, hp, np, c⟩ := ok
    have hpn : H p = none := (hz p hp).resolve_left np
    have R2 := (R.putOw hi hp c).down fun a z => (⟨h01 a z, fun e => np (e ▸ z)⟩ : Z1 a ∧ a ≠ p)
    have mm : ∀ a, MutA (e1.st i (some (.ow d))).ρ (σ.set i (some (V.ref p))) a → MutA e1.ρ σ a ∨ a = p := fun a ⟨j, x, h1, m, h2⟩ => by
      rcases set_get h1 with ⟨q0, e1'⟩ | ⟨ne, h1⟩
      · subst q0; rw [List.getElem?_set_self hσ] at h2; cases h2; exact .inr rfl
      · rw [List.getElem?_set_ne (Ne.symm ne)] at h2; exact .inl ⟨j, x, h1, m, h2⟩
    have oo : ∀ a, OwnA (e1.st i (some (.ow d))).ρ (σ.set i (some (V.ref p))) a → OwnA e1.ρ σ a ∨ a = p := fun a ⟨j, x, h1, h2⟩ => by
      rcases set_get h1 with ⟨q0, e1'⟩ | ⟨ne, h1⟩
      · subst q0; rw [List.getElem?_set_self hσ] at h2; cases h2; exact .inr rfl
      · rw [List.getElem?_set_ne (Ne.symm ne)] at h2; exact .inl ⟨j, x, h1, h2⟩
    refine ⟨R2, s.pre, s.nw, s.st, s.th, fun a h => ?_, fun a h => ?_, bo' _ _ fun j ne d' h => by show (e1.ρ.set i _)[j]? = _; rw [List.getElem?_set_ne (Ne.symm ne)]; exact h, fun j d' h => s.bb j d' (bb1 _ (fun x => by rintro ⟨⟩) j d' h), by simp [s.ln]⟩
    · rcases mm a h with z | z
      · exact s.mu a z
      · rw [z]; exact .inr hpn
    · rcases oo a h with z | z
      · exact s.ow a z
      · rw [z]; exact .inr hpn
  | sl j =>
    have q2 : (match e1.ρ[j]? with
      | some (some (.ow d)) => some ((), (e1.st j none).st i (some (.ow d)))
      | _ => none) = some ((), e2) := q'
    cases q3 : e1.ρ[j]? with
    | none => rw [q3] at q2; cases q2
    | some o =>
      cases o with
      | none => rw [q3] at q2; cases q2
      | some x =>
        rw [q3] at q2
        cases x with
        | fz d => cases q2
        | bo d => cases q2
        | pt k => cases q2
        | ow d =>
          cases q2
          obtain ⟨a, ha, nz, ng, R1, c⟩ := R.take q3
          have hv : σ[j]? = some (some v) := ok
          rw [ha] at hv
          cases hv
          have R2 := (R1.putOw (i := i) (by simpa using hi) (.inr rfl) c).down fun b z => (⟨.inl (h01 b z), fun e => nz (e ▸ h01 b z)⟩ : (Z1 b ∨ b = a) ∧ b ≠ a)
          have oa : OwnA e1.ρ σ a := ⟨j, d, q3, ha⟩
          have mm : ∀ b, MutA ((e1.st j none).st i (some (.ow d))).ρ (σ.set i (some (V.ref a))) b → MutA e1.ρ σ b := fun b ⟨l, x, h1, m, h2⟩ => by
            rcases set_get h1 with ⟨q0, e1'⟩ | ⟨ne, h1⟩
            · subst q0; rw [List.getElem?_set_self hσ] at h2; cases h2; exact oa.mu
            · rw [List.getElem?_set_ne (Ne.symm ne)] at h2
              rcases set_get h1 with ⟨q0, e1'⟩ | ⟨ne', h1⟩
              · cases e1'
              · exact ⟨l, x, h1, m, h2⟩
          have oo : ∀ b, OwnA ((e1.st j none).st i (some (.ow d))).ρ (σ.set i (some (V.ref a))) b → OwnA e1.ρ σ b := fun b ⟨l, x, h1, h2⟩ => by
            rcases set_get h1 with ⟨q0, e1'⟩ | ⟨ne, h1⟩
            · subst q0; rw [List.getElem?_set_self hσ] at h2; cases h2; exact oa
            · rw [List.getElem?_set_ne (Ne.symm ne)] at h2
              rcases set_get h1 with ⟨q0, e1'⟩ | ⟨ne', h1⟩
              · cases e1'
              · exact ⟨l, x, h1, h2⟩
          refine ⟨R2, s.pre, s.nw, s.st, s.th, fun b h => s.mu b (mm b h), fun b h => s.ow b (oo b h), bo' _ _ fun l ne d' h => ?_, fun l d' h => s.bb l d' ?_, by simp [s.ln]⟩
          rotate_left
          · rcases set_get h with ⟨q0, e1'⟩ | ⟨ne, h1⟩
            · cases e1'
            · rcases set_get h1 with ⟨q0, e1'⟩ | ⟨ne', h1⟩
              · cases e1'
              · exact h1
          show ((e1.ρ.set j none).set i _)[l]? = _
          rw [List.getElem?_set_ne (Ne.symm ne)]
          by_cases e : l = j
          · subst e; rw [q3] at h; cases h
          · rw [List.getElem?_set_ne (Ne.symm e)]; exact h
def setM (i : Nat) (f : M Rs) : M Fl := bnd f fun r => bnd (asg i r) fun _ => ret .nx
theorem ds_set {i : Nat} {x : Str} {e : Expr} {f : M Rs} {pos pos' : Pos} (he : PE X e (tE X.KW f)) (hN : X.N.Nodup) (hi : X.N[i]? = some x := by rfl) (hx : Loc X.env.scope x := by first | exact Or.inl rfl | exact Or.inr rfl)
    (hs : swapsWith e (some (.Name x pos')) pos.line X.env = pure false := by rfl) (hf : X.fn x = true ∨ X.env.scope.names.lookup x = some .local := by first | exact .inl rfl | exact .inr rfl | assumption) :
    PS X (.Assign [.Name x pos'] e pos) (tS X.KW (setM i f)) := PS.weak (ps_set (i := i) hN hi hx he hs hf) (by
  rintro D σ H ⟨γ, e, Z, fl, e', R, h, k⟩
  obtain ⟨r, e1, h1, h2⟩ := bnd_eq h
  obtain ⟨u, e2, h3, h4⟩ := bnd_eq h2
  cases h4
  refine ⟨γ, e, Z, r, e1, R, h1, fun v H1 kp sh P => ?_⟩
  obtain ⟨Z1, h01, hf, R1, A1⟩ := P.one
  obtain ⟨R2, s2⟩ := asg_ok h3 h01 hf (Stp.ev kp sh) R1 A1
  exact k γ _ H1 s2 R2)

/-! ### return -/
def rtn (r : Rs) : M Fl := fun e => match r with
  | .fz d => some (.rt (.fz d), e)
  | .fr d => some (.rt (.fr d), e)
  | .sl i => match e.ρ[i]? with
    | some (some (.ow d)) => some (.rt (.fr d), e.st i none)
    | _ => none
def retM (f : M Rs) : M Fl := bnd f rtn
theorem ds_ret {e : Expr} {f : M Rs} {pos : Pos} (he : PE X e (tE X.KW f)) : PS X (.Return (some e) pos) (tS X.KW (retM f)) := PS.weak (ps_ret he) (by
  rintro D σ H ⟨γ, e, Z, fl, e', R, h, k⟩
  obtain ⟨r, e1, h1, h2⟩ := bnd_eq h
  refine ⟨γ, e, Z, r, e1, R, h1, fun v H1 kp sh P => ?_⟩
  obtain ⟨Z1, h01, hf, R1, A1⟩ := P.one
  cases r with
  | fz d => cases h2; exact k γ σ v H1 (Stp.ev kp sh) ⟨Z1, h01, fun a z => (hf a z).imp id .inl, R1, A1⟩
  | fr d => cases h2; exact k γ σ v H1 (Stp.ev kp sh) ⟨Z1, h01, fun a z => (hf a z).imp id .inl, R1, A1⟩
  | sl i =>
    have h3 : (match e1.ρ[i]? with
      | some (some (.ow d)) => some (.rt (.fr d), e1.st i none)
      | _ => none) = some (fl, e') := h2
    cases q : e1.ρ[i]? with
    | none => rw [q] at h3; cases h3
    | some o =>
      cases o with
      | none => rw [q] at h3; cases h3
      | some x =>
        rw [q] at h3
        cases x with
        | fz d => cases h3
        | bo d => cases h3
        | pt d => cases h3
        | ow d =>
          cases h3
          obtain ⟨a, ha, nz, ng, R2, c⟩ := R1.take q
          have hv : σ[i]? = some (some v) := A1
          rw [ha] at hv
          cases hv
          have oa : OwnA e.ρ σ a := sh.own ⟨i, d, q, ha⟩
          refine k γ σ _ H1 ((Stp.ev kp sh).trans (Stp.ev (Kp.refl H1) (Sh.st (fun d' z => by rw [q] at z; cases z) fun x e => by cases e))) ⟨fun b => Z1 b ∨ b = a, fun b z => .inl (h01 b z), fun b z => ?_, R2, a, rfl, .inr rfl, fun z => nz (h01 a z), c⟩
          rcases z with z | z
          · exact (hf b z).imp id .inl
          · rw [z]; exact .inr (.inr oa))
end
end DV
end
section
set_option Elab.async false
set_option linter.all false
set_option maxRecDepth 100000
namespace DV
open PySem PySem.Spec PyProof.Rows L2
/-! ### what a def promises while no repr is under way -/
structure FnG (P : Program) (w : World) (K : PySem.W.Frag) (mg : Str → Option Value) (base : Heap) (CX : CXT) (k : Nat) (f : Addr) (fd : FuncData) (ps : List Str) (sp : Sp) : Prop where
  few : ∀ vs H Q E, sp vs H Q E → vs.length = ps.length
  go : ∀ (A : Around) (outer : List Env) (s : Shared) (H : Hp) (args : Args) (us : List Value) (vs : List V) (Q : VK) (E : XK), A.guards = some [] → Room k A → Env0 P w K mg base A outer s H → BindsTo s fd args (ps.zip us) → Vals vs us → sp vs H Q E →
    codeAny (model P w) A (.call (.ref f) args) (CR CX outer P w H s Q E) s
theorem FnG.mono {P : Program} {w : World} {K : PySem.W.Frag} {mg : Str → Option Value} {base : Heap} {CX : CXT} {i k : Nat} {f : Addr} {fd : FuncData} {ps : List Str} {sp : Sp} (F : FnG P w K mg base CX i f fd ps sp) (le : i ≤ k) : FnG P w K mg base CX k f fd ps sp where
  few := F.few
  go A outer s H args us vs Q E quiet room := F.go A outer s H args us vs Q E quiet (room.mono le)
/-- a def, by the derivation of its body -/
theorem fnG_of {P : Program} {w : World} {K : PySem.W.Frag} {mg : Str → Option Value} {base : Heap} {CX : CXT} {k : Nat} {f : Addr} {fd : FuncData} {x : Str} {st : Stmt} {N ps : List Str} {sp : Sp} (F : FunD K x x (defArgs st) (defBody st) (defScope st) [] [] f fd) (S : FnScope N ps (defScope st))
    (few : ∀ vs H Q E, sp vs H Q E → vs.length = ps.length)
    (body : ∀ (cdv : Value) (A : Around) (outer : List Env) (s : Shared) (H : Hp) (vs : List V) (Q : VK) (E : XK), A.guards = some [] → Room k (A.deeper (envOfC x (defScope st) s.heap.objs.size f cdv)) → sp vs H Q E →
      ∃ t, PSs (cxOf CX P w K mg base N x (defScope st) f cdv A outer s H E) (defBody st) t ∧ t { nx := fun _ H' => Q .non H', rt := Q } (start N vs) H) : FnG P w K mg base CX (k + 1) f fd ps sp := by
  obtain ⟨oc, od, dV, kV, doc, pm, an, cdv, ct, osl, rfl, lk, hcd, _, _⟩ := F.ex
  refine ⟨few, fun A outer s H args us vs Q E quiet room e0 bound rel want => ?_⟩
  have n := few _ _ _ _ want
  have known : K.In s.heap := e0.mod.kin.keeps fun b o e => (e0.bs b o e).1
  have kinds : ∀ y ∈ ps.zip us, (defScope st).names.lookup y.1 = some .local ∨ ((defScope st).names.lookup y.1 = some .cell ∧ ((cellsFrom (s.heap.objs.size + 1) (defScope st).names []).lookup y.1).isSome = true) := fun y hy =>
    (S.par y.1 (List.of_mem_zip hy).1).imp id fun q => ⟨q, PySem.W.cellsFrom_some _ _ _ (.inl q)⟩
  refine codeAny_call_function room.depth (known _ _ lk) rfl S.co S.gen rfl (PySem.W.codeRec_of known hcd) (bound _ _ _ _ (wpAny_newFunctionEnv_cells S.kind kinds fun env he s1 y => ?_))
  subst he
  refine ⟨(e0.mod.nolimit.keeps fun b o e => (e0.bs b o e).1 : s.heap.NoLimit).keeps y.toInCall.keep, codeAny_func ?_⟩
  obtain ⟨t, walk, q⟩ := body cdv A outer s H vs Q E quiet (room.deeper _) want
  have begun : Inv (cxOf CX P w K mg base N x (defScope st) f cdv A outer s H E) [] (start N vs) H s1 := inv_start S room.hd e0 n rel y
  refine wpAny_mono (walk.run [] s1 (start N vs) H _ begun q) (fun fl s' ends => ?_) fun e s' ends => ends
  cases fl with
  | ret u => obtain ⟨v, σ', H', J, rv, done⟩ := ends; exact ⟨v, H', J.os, J.bare, J.base, J.hok, rv, done⟩
  | next => obtain ⟨σ', H', J, done⟩ := ends; exact ⟨V.non, H', J.os, J.bare, J.base, J.hok, rfl, done⟩
  | brk => obtain ⟨_, _, _, no⟩ := ends; exact False.elim no
  | cont => obtain ⟨_, _, _, no⟩ := ends; exact False.elim no
section
variable {X : Cx} {CX : CXT} {k n : Nat} {f : Addr} {fd : FuncData} {ps ks : List Str} {sp : Sp} {E : XK} {x : Str} {p pos : Pos} {e : Expr} {es : List Expr} {kws : List Keyword} {t tk : TA}
/-- it runs -/
theorem FnG.at {pins : List (Addr × Obj)} {σ : L2.St} {H : Hp} {s : Shared} {Q : VK} {args : Args} {us : List Value} {vs : List V} (F : FnG X.prog X.w X.K X.mg X.base CX k f fd ps sp) (quiet : X.A.guards = some []) (room : Room k X.A) (pass : Passes CX X E)
    (I : Inv X pins σ H s) (bound : BindsTo s fd args (ps.zip us)) (rel : Vals vs us) (want : sp vs H Q E) : codeAny (model X.prog X.w) X.A (.call (.ref f) args) (fun r s' => match r with
      | .ok (.ret u) => EP X pins σ Q u s'
      | .ok _ => False
      | .error e => X.xe e s') s := by
  refine codeAny_mono (F.go X.A X.stack s H args us vs Q E quiet room I.env0 bound rel want) fun r s' h => ?_
  match r, h with
  | .error e, h => exact pass pins σ H s e s' I h
  | .ok (.ret u), h => exact I.after h
  | .ok .next, h => exact h
  | .ok .brk, h => exact h
  | .ok .cont, h => exact h
theorem end_of {pins : List (Addr × Obj)} {σ : L2.St} {Q : VK} {s : Shared} {args : List Value} {kw : List (Str × Value)} (h : codeAny (model X.prog X.w) X.A (.call (.ref f) ⟨args, kw⟩) (fun r s' => match r with
      | .ok (.ret u) => EP X pins σ Q u s'
      | .ok _ => False
      | .error e => X.xe e s') s) : wpAny (model X.prog X.w) X.A (call (.ref f) args kw) (EP X pins σ Q) X.xe s := by
  refine wpAny_call (codeAny_mono h fun r s' q => ?_)
  match r, q with
  | .error e, q => exact q
  | .ok (.ret u), q => exact q
theorem peG_call (F : FnG X.prog X.w X.K X.mg X.base CX k f fd ps sp) (quiet : X.A.guards = some []) (room : Room k X.A) (hg : Gl X x) (hm : X.mg x = some (.ref f)) (hk : PySem.W.keepIn X.K (.ref f) = true) (hb : Binds X.K fd ps []) (pass : Passes CX X E)
    (ha : PA X (e :: es) t) (hdb : (x == ("__debug__" : Str)) = false := by decide) (he : starEach (e :: es) X.env = (false, eval e X.env) :: starEach es X.env := by rfl) (hpl : (backTo pos (starEach es X.env)).any (·.1) = false := by rfl) :
    PE X (.Call (.Name x p) (e :: es) [] pos) (tCall sp [] E t) where
  run pins s σ H Q I want := by
    refine wpAny_Call_Name_kw (ld_glob I hg hm (PySem.W.callWith_K (h₀ := X.base) I.ok.mod.kin hk (thn (ha.run pos pins s σ H _ I want) fun us s1 ⟨vs, H1, I1, r, q⟩ => ⟨I1.kIn, end_of ?_⟩) he hpl) hdb)
    have q' : sp (vs ++ []) H1 Q E := q
    rw [List.append_nil] at q'
    have b := hb s1 us I1.kIn (by rw [List.append_nil, ← r.length]; exact F.few _ _ _ _ q')
    rw [List.append_nil] at b
    exact F.at quiet room pass I1 b r q'
theorem peG_call0 (F : FnG X.prog X.w X.K X.mg X.base CX k f fd ps sp) (quiet : X.A.guards = some []) (room : Room k X.A) (hg : Gl X x) (hm : X.mg x = some (.ref f)) (hk : PySem.W.keepIn X.K (.ref f) = true) (hb : Binds X.K fd ps []) (pass : Passes CX X E)
    (hdb : (x == ("__debug__" : Str)) = false := by decide) : PE X (.Call (.Name x p) [] [] pos) (tCall sp [] E tNil) where
  run pins s σ H Q I want := by
    refine wpAny_Call_Name_kw (ld_glob I hg hm (PySem.W.callWith_K0 I.kIn hk (end_of ?_)) hdb)
    have q : sp [] H Q E := want
    have b := hb s [] I.kIn (F.few _ _ _ _ q)
    exact F.at (us := []) quiet room pass I b .nil q
theorem kw_run {gV : List V → List V → List V} {g : List Value → List Value → List Value} {pins : List (Addr × Obj)} {σ : L2.St} {H : Hp} {s : Shared} {Q : VK} {us ws : List Value} {vs zs : List V} (F : FnG X.prog X.w X.K X.mg X.base CX k f fd ps sp) (quiet : X.A.guards = some []) (room : Room k X.A) (hb : KBn X.K fd ps n ks g gV) (pass : Passes CX X E)
    (I : Inv X pins σ H s) (r : Vals vs us) (rz : Vals zs ws) (l1 : vs.length = n) (l2 : zs.length = ks.length) (want : sp (gV vs zs) H Q E) : wpAny (model X.prog X.w) X.A (call (.ref f) us (ks.zip ws)) (EP X pins σ Q) X.xe s :=
  end_of (F.at quiet room pass I (hb.to s us ws I.kIn (r.length.symm.trans l1) (rz.length.symm.trans l2)) (hb.rel r rz) want)
theorem peG_callN {gV : List V → List V → List V} {g : List Value → List Value → List Value} (F : FnG X.prog X.w X.K X.mg X.base CX k f fd ps sp) (quiet : X.A.guards = some []) (room : Room k X.A) (hg : Gl X x) (hm : X.mg x = some (.ref f)) (hk : PySem.W.keepIn X.K (.ref f) = true) (hb : KBn X.K fd ps n ks g gV) (pass : Passes CX X E)
    (ha : PA X (e :: es) t) (hkw : PK X kws tk) (hall : (backToKw pos (keywordEach kws X.env)).all (·.1.isSome) = true := by rfl) (hks : (backToKw pos (keywordEach kws X.env)).filterMap (·.1) = ks := by rfl)
    (hdb : (x == ("__debug__" : Str)) = false := by decide) (he : starEach (e :: es) X.env = (false, eval e X.env) :: starEach es X.env := by rfl)
    (hpl : ((backTo pos (starEach (e :: es) X.env)).any (·.1) || (backToKw pos (keywordEach kws X.env)).any (·.1.isNone)) = false := by rfl) :
    PE X (.Call (.Name x p) (e :: es) kws pos) (tCallN n ks.length sp gV E t tk) where
  run pins s σ H Q I want := by
    refine wpAny_Call_Name_kw (ld_glob I hg hm (PySem.W.callWith_KW (h₀ := X.base) I.ok.mod.kin hk hall (thn (ha.run pos pins s σ H _ I want) fun us s1 ⟨vs, H1, I1, r, q⟩ => thn (hkw.run pos pins s1 σ H1 _ I1 q) fun ws s2 ⟨zs, H2, I2, rz, l1, l2, q2⟩ => ⟨I2.kIn, ?_⟩) hpl he) hdb)
    rw [hks]
    exact kw_run F quiet room hb pass I2 r rz l1 l2 q2
end
end DV
end
section
set_option Elab.async false
set_option linter.all false
set_option maxRecDepth 100000
namespace DV
open PySem PySem.Spec PyProof.Rows L2

/-! ### defs -/
/-- a def's worth: arguments, cells; its result, the cells behind -/
abbrev Fn := List Sl → List (Int × Int) → Option (Rs × List (Int × Int))
def fnOut (m : Nat) : Option (Fl × En) → Option (Rs × List (Int × Int))
  | some (.rt (.fz d), e) => some (.fz d, e.μ.take m)
  | some (.rt (.fr d), e) => some (.fr d, e.μ.take m)
  | some (.nx, e) => some (.fz .none, e.μ.take m)
  | _ => none
/-- np parameters among n names -/
def fnOf (np n : Nat) (body : M Fl) : Fn := fun ss μ =>
  if ss.length = np ∧ ss.all (fun s => !s.isOw) = true then fnOut μ.length (body ⟨ss.map some ++ List.replicate (n - np) none, μ⟩) else none
def spD (K : KW) (np : Nat) (F : Fn) : Sp := fun vs H Q _ => ∃ γ ss μ Z r μ', Rep K γ ⟨ss.map some, μ⟩ (vs.map some) H Z ∧ ss.length = np ∧ ss.all (fun s => !s.isOw) = true ∧ F ss μ = some (r, μ') ∧
  ∀ v H', Kp γ [] [] H H' → Pst K γ H (vs.map some) Z ⟨ss.map some, μ'⟩ [r] [v] H' → Q v H'
section
variable {K : KW} {γ γ' : List Addr} {σ σ' : L2.St} {H H' : Hp} {Z Z' : Addr → Prop}
theorem get_start {α : Type} {l : List α} {n i : Nat} {x : α} (h : (l.map some ++ List.replicate n none)[i]? = some (some x)) : l[i]? = some x := by
  by_cases hi : i < l.length
  · rw [List.getElem?_append_left (by simpa using hi), List.getElem?_map] at h
    cases q : l[i]? with
    | none => rw [q] at h; cases h
    | some y => rw [q] at h; cases h; rfl
  · rw [List.getElem?_append_right (by simpa using hi), List.getElem?_replicate] at h
    split at h <;> cases h
theorem get_map {α : Type} {l : List α} {i : Nat} {x : α} (h : (l.map some)[i]? = some (some x)) : l[i]? = some x := by
  rw [List.getElem?_map] at h
  cases q : l[i]? with
  | none => rw [q] at h; cases h
  | some y => rw [q] at h; cases h; rfl
theorem map_get {α : Type} {l : List α} {i : Nat} {x : α} (h : l[i]? = some x) : (l.map some)[i]? = some (some x) := by rw [List.getElem?_map, h]; rfl
theorem start_get {α : Type} {l : List α} {n i : Nat} {x : α} (h : l[i]? = some x) : (l.map some ++ List.replicate n none)[i]? = some (some x) := by
  rw [List.getElem?_append_left (by simpa using (List.getElem?_eq_some_iff.mp h).1)]
  exact map_get h
/-- at the entry -/
theorem Rep.enter {ss : List Sl} {vs : List V} {μ : List (Int × Int)} {N : List Str} {np : Nat} (R : Rep K γ ⟨ss.map some, μ⟩ (vs.map some) H Z) (hl : ss.length = np) : Rep K γ ⟨ss.map some ++ List.replicate (N.length - np) none, μ⟩ (L2.start N vs) H Z := by
  have lv : vs.length = np := by have := R.len; simp only [List.length_map] at this; omega
  have mm : ∀ {a : Addr}, MutA (ss.map some ++ List.replicate (N.length - np) none) (L2.start N vs) a → MutA (ss.map some) (vs.map some) a := fun {a} ⟨j, x, h1, m, h2⟩ =>
    ⟨j, x, map_get (get_start h1), m, map_get (get_start h2)⟩
  refine ⟨by unfold L2.start; simp [hl, lv], fun i s h => ?_, fun i s a h m h2 => R.mu i s a (map_get (get_start h)) m (map_get (get_start h2)), fun i d a h h2 j s h3 m h4 => R.own i d a (map_get (get_start h)) (map_get (get_start h2)) j s (map_get (get_start h3)) m (map_get (get_start h4)), R.cl, R.nd, R.cell, R.cz, R.zt⟩
  obtain ⟨v, hv, ok⟩ := R.slot i s (map_get (get_start h))
  exact ⟨v, start_get (get_map hv), ok.stay (stay_refl fun a o _ z => z.imp mm id) fun _ _ _ o ho => ho⟩
theorem not_own {ss : List Sl} (ho : ss.all (fun s => !s.isOw) = true) {n : Nat} {σ : L2.St} {a : Addr} : ¬ OwnA (ss.map some ++ List.replicate n none) σ a := fun ⟨i, d, h1, _⟩ => by
  have h := List.all_eq_true.mp ho _ (List.mem_of_getElem? (get_start h1))
  simp [Sl.isOw] at h
/-- behind the end -/
theorem fn_post {ss : List Sl} {vs : List V} {μ : List (Int × Int)} {N : List Str} {np : Nat} {e' : En} {r : Rs} {v : V} (R : Rep K γ ⟨ss.map some, μ⟩ (vs.map some) H Z) (hl : ss.length = np) (ho : ss.all (fun s => !s.isOw) = true)
    (s : Stp γ ⟨ss.map some ++ List.replicate (N.length - np) none, μ⟩ (L2.start N vs) H γ' e' σ' H') (P : Prt K H ⟨ss.map some ++ List.replicate (N.length - np) none, μ⟩ (L2.start N vs) Z γ' e' σ' r v H') (hr : ∀ i, r ≠ .sl i) :
    Kp γ [] [] H H' ∧ Pst K γ H (vs.map some) Z ⟨ss.map some, e'.μ.take μ.length⟩ [r] [v] H' := by
  have no : ∀ a, ¬ OwnA (ss.map some ++ List.replicate (N.length - np) none) (L2.start N vs) a := fun a => not_own ho
  have kp : ∀ a o, H a = some o → a ∉ γ → H' a = some o := fun a o h g => s.st a o h (no a) g
  refine ⟨⟨fun a o h _ g => kp a o h g, s.th⟩, ?_⟩
  obtain ⟨Z1, h01, hf, R1, ok⟩ := P
  obtain ⟨δ, rfl⟩ := s.pre
  have lv : vs.length = np := by have := R.len; simp only [List.length_map] at this; omega
  have cl := R.cl
  have cl1 := R1.cl
  rw [List.length_append] at cl1
  -- the parameters that are borrowed are hidden behind the end too
  have hid : ∀ a, MutA (ss.map some) (vs.map some) a → MutA e'.ρ σ' a := fun a ⟨i, x, h1, m, h2⟩ => by
    have g1 := get_map h1
    have nx : x.isOw = false := by
      have h := List.all_eq_true.mp ho _ (List.mem_of_getElem? g1)
      simpa using h
    cases x with
    | fz d => cases m
    | pt k => cases m
    | ow d => cases nx
    | bo d =>
      obtain ⟨b1, b2⟩ := s.bo i d (start_get g1)
      exact ⟨i, _, b1, rfl, by rw [b2]; exact start_get (get_map h2)⟩
  have fresh : ∀ a, Z1 a → Z a ∨ H a = none := fun a z => by
    rcases hf a z with z | z | z
    · exact .inl z
    · exact .inr z
    · exact absurd z (no a)
  -- the parameters behind the end, Z2 hidden
  have base : ∀ Z2 : Addr → Prop, (∀ a, Z2 a → Z1 a) → (∀ a, Z a → Z2 a) → Rep K γ ⟨ss.map some, e'.μ.take μ.length⟩ (vs.map some) H' Z2 := fun Z2 h2 h3 => by
    have st : Stay H H' (Hid γ (ss.map some) (vs.map some) Z) (Hid γ (ss.map some) (vs.map some) Z2) := fun a o h n => by
      refine ⟨kp a o h fun z => n (.inr (.inl z)), fun z => ?_⟩
      rcases z with z | z | z
      · exact n (.inl z)
      · exact n (.inr (.inl z))
      · rcases fresh a (h2 a z) with z | z
        · exact n (.inr (.inr z))
        · rw [h] at z; cases z
    refine ⟨R.len, fun i x h => ?_, fun i x a h m h2' => ⟨fun z => ?_, (R.mu i x a h m h2').2⟩, R.own, ?_, R.nd, fun k a x y h1 h2' => ?_, fun a ha z => R1.cz a (List.mem_append_left _ ha) (h2 a z), fun a z => R1.zt a (h2 a z)⟩
    · obtain ⟨w, hw, q⟩ := R.slot i x h
      exact ⟨w, hw, q.stay st fun a ea m o ho => kp a o ho fun z => (R.mu i x a h m (by rw [hw, ea])).2 z⟩
    · obtain ⟨o, hh⟩ := Hid.tr R (.inl ⟨i, x, h, m, h2'⟩)
      rcases fresh a (h2 a z) with z | z
      · exact (R.mu i x a h m h2').1 z
      · rw [hh] at z; cases z
    · show γ.length = (e'.μ.take μ.length).length
      rw [List.length_take]
      have : γ.length = μ.length := cl
      omega
    · have hk : k < γ.length := (List.getElem?_eq_some_iff.mp h1).1
      have : γ.length = μ.length := cl
      have h2' : (e'.μ.take μ.length)[k]? = some (x, y) := h2'
      rw [List.getElem?_take_of_lt (by omega)] at h2'
      exact R1.cell k a x y (by rw [List.getElem?_append_left hk]; exact h1) h2'
  cases r with
  | sl i => exact absurd rfl (hr i)
  | fz d =>
    refine ⟨Z, fun _ z => z, fun _ z => .inl z, base Z h01 fun _ z => z, .cons (Rp.stay (stay_refl fun a o _ z => ?_) d ok) .nil⟩
    rcases z with z | z | z
    · exact .inl (hid a z)
    · exact .inr (.inl (List.mem_append_left _ z))
    · exact .inr (.inr (h01 a z))
  | fr d =>
    obtain ⟨p, rfl, hp, np', c⟩ := ok
    refine ⟨fun a => Z a ∨ a = p, fun _ z => .inl z, fun a z => z.imp id fun z => ?_, base _ (fun a z => z.elim (h01 a) fun z => z ▸ hp) fun _ z => .inl z, .cons ⟨p, rfl, .inr rfl, np', c.stay (stay_refl fun a o _ z => ?_) fun o ho => ho⟩ .nil⟩
    · rw [z]; exact (fresh p hp).resolve_left np'
    · rcases z with z | z | z | z
      · exact .inl (hid a z)
      · exact .inr (.inl (List.mem_append_left _ z))
      · exact .inr (.inr (h01 a z))
      · exact .inr (.inr (z ▸ hp))
/-- a body that is walked keeps the promise -/
theorem fn_body {N : List Str} {np : Nat} {body : M Fl} {vs : List V} {Q : VK} {E : XK} (h : spD K np (fnOf np N.length body) vs H Q E) : tS K body { nx := fun _ H' => Q .non H', rt := Q } (L2.start N vs) H := by
  obtain ⟨γ, ss, μ, Z, r, μ', R, hl, ho, hf, k⟩ := h
  unfold fnOf at hf
  rw [if_pos ⟨hl, ho⟩] at hf
  cases q : body ⟨ss.map some ++ List.replicate (N.length - np) none, μ⟩ with
  | none => rw [q] at hf; cases hf
  | some p =>
    obtain ⟨fl, e'⟩ := p
    rw [q] at hf
    refine ⟨γ, _, Z, fl, e', R.enter hl, q, ?_⟩
    cases fl with
    | bk => cases hf
    | ct => cases hf
    | nx =>
      cases hf
      intro γ' σ' H' s R'
      have P := fn_post (v := .non) (r := .fz .none) R hl ho s ⟨Z, fun _ z => z, fun _ z => .inl z, R', .non⟩ fun i z => by cases z
      exact k .non H' P.1 P.2
    | rt r0 =>
      cases r0 with
      | sl i => cases hf
      | fz d =>
        cases hf
        intro γ' σ' v H' s P0
        have P := fn_post (v := v) (r := .fz d) R hl ho s P0 fun i z => by cases z
        exact k v H' P.1 P.2
      | fr d =>
        cases hf
        intro γ' σ' v H' s P0
        have P := fn_post (v := v) (r := .fr d) R hl ho s P0 fun i z => by cases z
        exact k v H' P.1 P.2
theorem spD_len {np : Nat} {F : Fn} {vs : List V} {Q : VK} {E : XK} (h : spD K np F vs H Q E) : vs.length = np := by
  obtain ⟨γ, ss, μ, Z, r, μ', R, hl, _⟩ := h
  have := R.len
  simp only [List.length_map] at this
  omega
/-- another word for the same worth -/
theorem spD_congr {np : Nat} {F G : Fn} (h : ∀ ss μ x, F ss μ = some x → G ss μ = some x) {vs : List V} {Q : VK} {E : XK} (p : spD K np F vs H Q E) : spD K np G vs H Q E := by
  obtain ⟨γ, ss, μ, Z, r, μ', R, hl, ho, hf, k⟩ := p
  exact ⟨γ, ss, μ, Z, r, μ', R, hl, ho, h _ _ _ hf, k⟩
end
abbrev FnP (K : PySem.W.Frag) (x : Str) (st : Stmt) (f : Addr) (fd : FuncData) : Prop := FunD K x x (defArgs st) (defBody st) (defScope st) [] [] f fd
/-- THE RULE: a def, by its body -/
theorem fn_ok {P : Program} {w : World} {K : PySem.W.Frag} {mg : Str → Option Value} {base : Heap} {x : Str} {st : Stmt} {f : Addr} {fd : FuncData} {N ps : List Str} {k : Nat} {body : M Fl} (F : FnP K x st f fd) (S : FnScope N ps (defScope st))
    (h : ∀ (cdv : Value) (A : Around) (outer : List Env) (s : Shared) (H : Hp) (E : XK), (A.deeper (envOfC x (defScope st) s.heap.objs.size f cdv)).guards = some [] → Room k (A.deeper (envOfC x (defScope st) s.heap.objs.size f cdv)) → PSs (cxOf CX0 P w K mg base N x (defScope st) f cdv A outer s H E).nox (defBody st) (tS ⟨K, w⟩ body)) :
    FnG P w K mg base CX0 (k + 1) f fd ps (spD ⟨K, w⟩ ps.length (fnOf ps.length N.length body)) :=
  fnG_of F S (fun _ _ _ _ q => spD_len q) fun cdv A outer s H vs Q E hgd hr q => ⟨tS ⟨K, w⟩ body, (h cdv A outer s H E hgd hr).nox, fn_body q⟩

/-! ### calls -/
def argS (e : En) : Rs → Option Sl
  | .fz d => some (.fz d)
  | .fr d => some (.fz d)
  | .sl i => match e.ρ[i]? with
    | some (some (.fz d)) => some (.fz d)
    | some (some (.ow d)) => some (.bo d)
    | some (some (.bo d)) => some (.bo d)
    | some (some (.pt k)) => some (.pt k)
    | _ => none
def argAll (e : En) : List Rs → Option (List Sl)
  | [] => some []
  | r :: rs => match argS e r, argAll e rs with
    | some s, some ss => some (s :: ss)
    | _, _ => none
def callM (F : Fn) (fs : M (List Rs)) : M Rs := bnd fs fun rs => fun e => match argAll e rs with
  | some ss => match F ss e.μ with
    | some (.fz d, μ') => some (.fz d, { e with μ := μ' })
    | some (.fr d, μ') => some (.fr d, { e with μ := μ' })
    | _ => none
  | none => none
section
variable {K : KW} {γ γ' : List Addr} {e e1 : En} {σ σ' : L2.St} {H H1 H2 : Hp} {Z Z1 : Addr → Prop}
theorem args_ok (R : Rep K γ e1 σ H1 Z1) (h01 : ∀ a, Z a → Z1 a) : ∀ {rs : List Rs} {vs : List V} {ss : List Sl}, All2 (RsOk K γ H1 e1 σ Z Z1) rs vs → argAll e1 rs = some ss → All2 (fun s v => s.isOw = false ∧ (∀ a, s.isMu = true → v = .ref a → MutA e1.ρ σ a) ∧ ∀ O : Addr → Prop, (∀ a, O a → Hid γ e1.ρ σ Z a) → SlOk K γ H1 O s v) ss vs
  | _, _, _, .nil, q => by cases q; exact .nil
  | r :: rs, _, ss, .cons (b := v) h t, q => by
    have q' : (match argS e1 r, argAll e1 rs with
      | some s, some ss => some (s :: ss)
      | _, _ => none) = some ss := q
    cases q1 : argS e1 r with
    | none => rw [q1] at q'; cases q'
    | some s =>
      cases q2 : argAll e1 rs with
      | none => rw [q1, q2] at q'; cases q'
      | some ss' =>
        rw [q1, q2] at q'
        cases q'
        refine .cons ?_ (args_ok R h01 t q2)
        have up : ∀ O : Addr → Prop, (∀ a, O a → Hid γ e1.ρ σ Z a) → ∀ a o, H1 a = some o → O a → Hid γ e1.ρ σ Z1 a := fun O hO a _ _ z => (hO a z).imp id (Or.imp id (h01 a))
        cases r with
        | fz d => cases q1; exact ⟨rfl, fun a m => (Bool.false_ne_true m).elim, fun O hO => Rp.stay (stay_refl (up O hO)) d h⟩
        | fr d =>
          cases q1
          obtain ⟨p, rfl, hp, np, c⟩ := h
          refine ⟨rfl, fun a m => (Bool.false_ne_true m).elim, fun O hO => ?_⟩
          have nO : ¬ O p := fun z => by
            rcases hO p z with ⟨j, x, h1, m, h2⟩ | z | z
            · exact (R.mu j x p h1 m h2).1 hp
            · exact R.cz p z hp
            · exact np z
          rcases c with ⟨xs, ds, rfl, q, r⟩ | ⟨ks, kvs, rfl, q, r⟩ | ⟨xs, kvs, rfl, q, n, k, r⟩
          · exact .lst (.inl ⟨.inl q, nO⟩) (r.stay (stay_refl (up O hO)))
          · exact .dct q nO (r.stay (stay_refl (up O hO)))
          · exact .dcn q nO n k (RpN.stay (stay_refl (up O hO)) _ r)
        | sl i =>
          have hv : σ[i]? = some (some v) := h
          have q3 : (match e1.ρ[i]? with
            | some (some (.fz d)) => some (Sl.fz d)
            | some (some (.ow d)) => some (.bo d)
            | some (some (.bo d)) => some (.bo d)
            | some (some (.pt k)) => some (.pt k)
            | _ => none) = some s := q1
          cases q4 : e1.ρ[i]? with
          | none => rw [q4] at q3; cases q3
          | some o =>
            cases o with
            | none => rw [q4] at q3; cases q3
            | some x =>
              rw [q4] at q3
              obtain ⟨w, hw, ok⟩ := R.slot i x q4
              rw [hv] at hw; cases hw
              cases x with
              | fz d => cases q3; exact ⟨rfl, fun a m => (Bool.false_ne_true m).elim, fun O hO => Rp.stay (stay_refl (up O hO)) d ok⟩
              | ow d =>
                cases q3
                obtain ⟨a, rfl, c⟩ := ok
                exact ⟨rfl, fun b _ eb => by cases eb; exact ⟨i, _, q4, rfl, hv⟩, fun O hO => ⟨a, rfl, c.stay (stay_refl (up O hO)) fun o ho => ho⟩⟩
              | bo d =>
                cases q3
                obtain ⟨a, rfl, c⟩ := ok
                exact ⟨rfl, fun b _ eb => by cases eb; exact ⟨i, _, q4, rfl, hv⟩, fun O hO => ⟨a, rfl, c.stay (stay_refl (up O hO)) fun o ho => ho⟩⟩
              | pt k => cases q3; exact ⟨rfl, fun a m => (Bool.false_ne_true m).elim, fun O hO => ok⟩
theorem All2.get {α β : Type} {R : α → β → Prop} : ∀ {as : List α} {bs : List β} {i : Nat} {a : α}, All2 R as bs → as[i]? = some a → ∃ b, bs[i]? = some b ∧ R a b
  | _, _, _, _, .nil, e => by simp at e
  | _, _, 0, _, .cons r _, e => by simp at e; subst e; exact ⟨_, rfl, r⟩
  | _, _, i + 1, _, .cons _ t, e => by
    obtain ⟨v, h1, h2⟩ := All2.get (i := i) t (by simpa using e)
    exact ⟨v, by simpa using h1, h2⟩
/-- a call, from the caller's side -/
theorem call_ok {np : Nat} {F : Fn} {rs : List Rs} {vs : List V} {ss : List Sl} {r : Rs} {μ' : List (Int × Int)} {Q : VK} {E : XK} (kp0 : Kp γ e.ρ σ H H1) (h01 : ∀ a, Z a → Z1 a) (hf : ∀ a, Z1 a → Z a ∨ H a = none) (R : Rep K γ e1 σ H1 Z1)
    (A : All2 (RsOk K γ H1 e1 σ Z Z1) rs vs) (ha : argAll e1 rs = some ss) (hF : F ss e1.μ = some (r, μ')) (hnp : ss.length = np) (hr : ∀ i, r ≠ .sl i)
    (k : ∀ v H2, Kp γ e1.ρ σ H1 H2 → Pst K γ H σ Z { e1 with μ := μ' } [r] [v] H2 → Q v H2) : spD K np F vs H1 Q E := by
  have B := args_ok R h01 A ha
  have lv : ss.length = vs.length := B.length
  let Zc : Addr → Prop := fun a => (MutA e1.ρ σ a ∨ Z a) ∧ ¬ MutA (ss.map some) (vs.map some) a
  have hM : ∀ a, MutA (ss.map some) (vs.map some) a → MutA e1.ρ σ a := fun a ⟨i, s, h1, m, h2⟩ => by
    obtain ⟨v, hv, _, q, _⟩ := B.get (get_map h1)
    have := get_map h2
    rw [hv] at this
    cases this
    exact q a m rfl
  have hO : ∀ a, Hid γ (ss.map some) (vs.map some) Zc a → Hid γ e1.ρ σ Z a := fun a z => by
    rcases z with z | z | z
    · exact .inl (hM a z)
    · exact .inr (.inl z)
    · exact z.1.imp id .inr
  have hO' : ∀ a, Hid γ e1.ρ σ Z a → Hid γ (ss.map some) (vs.map some) Zc a := fun a z => by
    by_cases c : MutA (ss.map some) (vs.map some) a
    · exact .inl c
    · rcases z with z | z | z
      · exact .inr (.inr ⟨.inl z, c⟩)
      · exact .inr (.inl z)
      · exact .inr (.inr ⟨.inr z, c⟩)
  have noOw : ∀ (i : Nat) (d : D), (ss.map some)[i]? ≠ some (some (.ow d)) := fun i d h => by
    obtain ⟨v, hv, q, _⟩ := B.get (get_map h)
    cases q
  have Rc : Rep K γ ⟨ss.map some, e1.μ⟩ (vs.map some) H1 Zc := by
    refine ⟨by simp [lv], fun i s h => ?_, fun i s a h m h2 => ⟨fun z => z.2 ⟨i, s, h, m, h2⟩, ?_⟩, fun i d a h => absurd h (noOw i d), R.cl, R.nd, R.cell, fun a ha z => ?_, fun a z => ?_⟩
    · obtain ⟨v, hv, _, _, q⟩ := B.get (get_map h)
      exact ⟨v, map_get hv, q _ hO⟩
    · obtain ⟨i', s', h1, m', h2'⟩ := hM a ⟨i, s, h, m, h2⟩
      exact (R.mu i' s' a h1 m' h2').2
    · rcases z.1 with ⟨i', s', h1, m', h2'⟩ | z
      · exact (R.mu i' s' a h1 m' h2').2 ha
      · exact R.cz a ha (h01 a z)
    · rcases z.1 with z | z
      · exact Hid.tr R (.inl z)
      · exact R.zt a (h01 a z)
  refine ⟨γ, ss, e1.μ, Zc, r, μ', Rc, hnp, List.all_eq_true.mpr fun s hs => ?_, hF, fun v H2 kp P => ?_⟩
  · obtain ⟨i, hi, es⟩ := List.getElem_of_mem hs
    obtain ⟨v, _, q, _⟩ := B.get (i := i) (a := s) (by rw [List.getElem?_eq_getElem hi, es])
    simp [q]
  have kp1 : Kp γ e1.ρ σ H1 H2 := ⟨fun a o h _ g => kp.st a o h (fun ⟨i, d, h1, _⟩ => by simp at h1) g, kp.th⟩
  obtain ⟨Zc', hc1, hc2, Rc', okc⟩ := P
  have rc : RsOk K γ H2 ⟨ss.map some, μ'⟩ (vs.map some) Zc Zc' r v := by cases okc with | cons q _ => exact q
  -- the caller's slots behind the call
  have back : ∀ Z2 : Addr → Prop, (∀ a, Z a → Z2 a) → (∀ a, Z2 a → Z a ∨ (H1 a = none ∧ ∃ o, H2 a = some o)) → Rep K γ { e1 with μ := μ' } σ H2 Z2 := fun Z2 g1 g2 => by
    have st : Stay H1 H2 (Hid γ e1.ρ σ Z1) (Hid γ e1.ρ σ Z2) := fun a o h n => by
      refine ⟨kp1.st a o h (fun z => n (.inl z.mu)) fun z => n (.inr (.inl z)), fun z => ?_⟩
      rcases z with z | z | z
      · exact n (.inl z)
      · exact n (.inr (.inl z))
      · rcases g2 a z with z | ⟨z, _⟩
        · exact n (.inr (.inr (h01 a z)))
        · rw [h] at z; cases z
    refine ⟨R.len, fun i s h => ?_, fun i s a h m h2 => ⟨fun z => ?_, (R.mu i s a h m h2).2⟩, R.own, Rc'.cl, R.nd, Rc'.cell, fun a ha z => ?_, fun a z => ?_⟩
    · obtain ⟨w, hw, q⟩ := R.slot i s h
      exact ⟨w, hw, q.stay st fun a ea m o ho => kp.st a o ho (fun ⟨i, d, h1, _⟩ => by simp at h1) (R.mu i s a h m (by rw [hw, ea])).2⟩
    · rcases g2 a z with z | ⟨z, _⟩
      · exact (R.mu i s a h m h2).1 (h01 a z)
      · obtain ⟨o, ho⟩ := Hid.tr R (.inl ⟨i, s, h, m, h2⟩)
        rw [ho] at z; cases z
    · rcases g2 a z with z | ⟨z, _⟩
      · exact R.cz a ha (h01 a z)
      · obtain ⟨o, ho⟩ := Hid.tr R (.inr (.inl ha))
        rw [ho] at z; cases z
    · rcases g2 a z with z | ⟨_, z⟩
      · obtain ⟨o, ho⟩ := R.zt a (h01 a z)
        exact kp.th a o ho
      · exact z
  refine k v H2 kp1 ?_
  cases r with
  | sl i => exact absurd rfl (hr i)
  | fz d =>
    refine ⟨Z, fun _ z => z, fun _ z => .inl z, back Z (fun _ z => z) fun _ z => .inl z, .cons (Rp.stay (stay_refl fun a o _ z => ?_) d rc) .nil⟩
    exact (hO' a z).imp id (Or.imp id (hc1 a))
  | fr d =>
    obtain ⟨p, rfl, hp, np', c⟩ := rc
    have hpn : H1 p = none := (hc2 p hp).resolve_left np'
    obtain ⟨o, ho⟩ := c.there
    refine ⟨fun a => Z a ∨ a = p, fun _ z => .inl z, fun a z => z.imp id fun z => by rw [z]; exact kp0.none hpn, back _ (fun _ z => .inl z) fun a z => z.imp id fun z => by rw [z]; exact ⟨hpn, o, ho⟩, .cons ⟨p, rfl, .inr rfl, fun z => ?_, c.stay (stay_refl fun a o _ z => ?_) fun o ho => ho⟩ .nil⟩
    · obtain ⟨o, ho⟩ := R.zt p (h01 p z)
      rw [hpn] at ho; cases ho
    · rcases z with z | z | z | z
      · exact (hO' a (.inl z)).imp id (Or.imp id (hc1 a))
      · exact (hO' a (.inr (.inl z))).imp id (Or.imp id (hc1 a))
      · exact (hO' a (.inr (.inr z))).imp id (Or.imp id (hc1 a))
      · rw [z]; exact .inr (.inr hp)
end
section
variable {X : Cx} {K : KW}
theorem argAll_len {e : En} : ∀ {rs : List Rs} {ss : List Sl}, argAll e rs = some ss → ss.length = rs.length
  | [], _, q => by cases q; rfl
  | r :: rs, ss, q => by
    have q' : (match argS e r, argAll e rs with
      | some s, some ss => some (s :: ss)
      | _, _ => none) = some ss := q
    cases q1 : argS e r with
    | none => rw [q1] at q'; cases q'
    | some s =>
      cases q2 : argAll e rs with
      | none => rw [q1, q2] at q'; cases q'
      | some ss' => rw [q1, q2] at q'; cases q'; rw [List.length_cons, List.length_cons, argAll_len q2]
/-- a worth that asks for so many arguments -/
def Arity (F : Fn) (np : Nat) : Prop := ∀ ss μ x, F ss μ = some x → ss.length = np
theorem Arity.of (np n : Nat) (b : M Fl) : Arity (fnOf np n b) np := fun ss μ x h => by
  unfold fnOf at h
  split at h
  · exact (‹_ ∧ _›).1
  · cases h
theorem callM_eq {F : Fn} {fs : M (List Rs)} {e e' : En} {r : Rs} (h : callM F fs e = some (r, e')) : ∃ rs e1 ss μ', fs e = some (rs, e1) ∧ argAll e1 rs = some ss ∧ F ss e1.μ = some (r, μ') ∧ e' = { e1 with μ := μ' } ∧ ∀ i, r ≠ .sl i := by
  obtain ⟨rs, e1, h1, h2⟩ := bnd_eq h
  have h3 : (match argAll e1 rs with
    | some ss => match F ss e1.μ with
      | some (.fz d, μ') => some (Rs.fz d, { e1 with μ := μ' })
      | some (.fr d, μ') => some (.fr d, { e1 with μ := μ' })
      | _ => none
    | none => none) = some (r, e') := h2
  cases q1 : argAll e1 rs with
  | none => rw [q1] at h3; cases h3
  | some ss =>
    rw [q1] at h3
    cases q2 : F ss e1.μ with
    | none => simp only [q2] at h3; cases h3
    | some p =>
      obtain ⟨r0, μ'⟩ := p
      simp only [q2] at h3
      cases r0 with
      | sl i => cases h3
      | fz d => cases h3; exact ⟨rs, e1, ss, μ', h1, q1, q2, rfl, fun i z => by cases z⟩
      | fr d => cases h3; exact ⟨rs, e1, ss, μ', h1, q1, q2, rfl, fun i z => by cases z⟩
theorem tE_call {np : Nat} {F : Fn} {fs : M (List Rs)} (ar : Arity F np) : ∀ σ H Q, tE K (callM F fs) σ H Q → tCall (spD K np F) [] E0 (tA K fs) σ H Q := by
  rintro σ H Q ⟨γ, e, Z, r, e', R, h, k⟩
  obtain ⟨rs, e1, ss, μ', h1, h2, h3, rfl, hr⟩ := callM_eq h
  refine ⟨γ, e, Z, rs, e1, R, h1, fun vs H1 kp sh P => ?_⟩
  obtain ⟨Z1, h01, hf, R1, A1⟩ := P
  rw [List.append_nil]
  exact call_ok kp h01 hf R1 A1 h2 h3 (ar _ _ _ h3) hr fun v H2 kp2 P2 => k v H2 (kp.trans sh kp2) (sh.trans ⟨fun _ s' h m => ⟨s', h, m, id⟩, fun _ _ h => h, fun _ _ h => h, rfl⟩) P2
theorem de_call {np k : Nat} {F : Fn} {f : Addr} {fd : FuncData} {ps : List Str} {x : Str} {p pos : Pos} {e : Expr} {es : List Expr} {fs : M (List Rs)} (FO : FnG X.prog X.w X.KW X.mg X.base CX0 k f fd ps (spD X.KW np F)) (ar : Arity F np) (hgd : X.A.guards = some []) (hr : Room k X.A) (hm : X.mg x = some (.ref f))
    (hk : PySem.W.keepIn X.KW (.ref f) = true) (hb : Binds X.KW fd ps []) (ha : PA X (e :: es) (tA X.KW fs)) (hg : Gl X x := by rfl) (hdb : (x == ("__debug__" : Str)) = false := by decide) (he : starEach (e :: es) X.env = (false, eval e X.env) :: starEach es X.env := by rfl)
    (hpl : (backTo pos (starEach es X.env)).any (·.1) = false := by rfl) : PE X (.Call (.Name x p) (e :: es) [] pos) (tE X.KW (callM F fs)) :=
  PE.weak (peG_call FO hgd hr hg hm hk hb pass0 ha hdb he hpl) (tE_call ar)
theorem de_call0 {np k : Nat} {F : Fn} {f : Addr} {fd : FuncData} {ps : List Str} {x : Str} {p pos : Pos} (FO : FnG X.prog X.w X.KW X.mg X.base CX0 k f fd ps (spD X.KW np F)) (ar : Arity F np) (hgd : X.A.guards = some []) (hr : Room k X.A) (hm : X.mg x = some (.ref f))
    (hk : PySem.W.keepIn X.KW (.ref f) = true) (hb : Binds X.KW fd ps []) (hg : Gl X x := by rfl) (hdb : (x == ("__debug__" : Str)) = false := by decide) : PE X (.Call (.Name x p) [] [] pos) (tE X.KW (callM F (ret []))) :=
  PE.weak (peG_call0 FO hgd hr hg hm hk hb pass0 hdb) fun σ H Q h => by
    have := tE_call ar σ H Q h
    obtain ⟨γ, e, Z, rs, e', R, h1, k⟩ := this
    cases h1
    exact k [] H (Kp.refl H) (Sh.refl _) ⟨Z, fun _ z => z, fun _ z => .inl z, R, .nil⟩
end
end DV
end
section
set_option Elab.async false
set_option linter.all false
set_option maxRecDepth 100000
namespace DV
open PySem PySem.Spec PyProof.Rows L2
def pick {α : Type} : List Nat → List α → List α
  | [], _ => []
  | i :: ix, l => match l[i]? with
    | some x => x :: pick ix l
    | none => pick ix l
theorem pick_all2 {α β : Type} {R : α → β → Prop} {as : List α} {bs : List β} (h : All2 R as bs) : ∀ ix, All2 R (pick ix as) (pick ix bs)
  | [] => .nil
  | i :: ix => by
    unfold pick
    cases q : as[i]? with
    | none =>
      have q2 : bs[i]? = none := List.getElem?_eq_none_iff.mpr (by rw [← h.length]; exact List.getElem?_eq_none_iff.mp q)
      rw [q2]
      exact pick_all2 h ix
    | some a =>
      obtain ⟨b, hb, r⟩ := h.get q
      rw [hb]
      exact .cons r (pick_all2 h ix)
theorem pick_vals {as : List V} {bs : List Value} (h : Vals as bs) : ∀ ix, Vals (pick ix as) (pick ix bs)
  | [] => .nil
  | i :: ix => by
    unfold pick
    cases q : as[i]? with
    | none =>
      rw [h.none_of q]
      exact pick_vals h ix
    | some a =>
      obtain ⟨b, hb, r⟩ := h.get q
      rw [hb]
      exact .cons r (pick_vals h ix)
theorem All2.append {α β : Type} {R : α → β → Prop} : ∀ {as : List α} {bs : List β} {cs : List α} {ds : List β}, All2 R as bs → All2 R cs ds → All2 R (as ++ cs) (bs ++ ds)
  | _, _, _, _, .nil, h => h
  | _, _, _, _, .cons r t, h => .cons r (t.append h)
/-- a call with keywords: ix tells where each parameter's value stands among the written ones -/
def callKM (n m : Nat) (ix : List Nat) (F : Fn) (fs fk : M (List Rs)) : M Rs := callM F (bnd fs fun rs => bnd fk fun ks => if rs.length = n ∧ ks.length = m then ret (pick ix (rs ++ ks)) else noM)
/-- how f's parameters are bound so -/
def KbI (K : PySem.W.Frag) (fd : FuncData) (ps : List Str) (n : Nat) (ks : List Str) (ix : List Nat) : Prop := KBn K fd ps n ks (fun us ws => pick ix (us ++ ws)) (fun vs zs => pick ix (vs ++ zs))
theorem kbi_of {K : PySem.W.Frag} {x : Str} {st : Stmt} {f : Addr} {fd : FuncData} {ps : List Str} {n : Nat} {ks : List Str} {ix : List Nat} (F : FnP K x st f fd)
    (h : ∀ (kV doc pm : Value) (an : Option Addr) (cdv ct : Value) (us ws : List Value), us.length = n → ws.length = ks.length → bindArgs (PySem.W.fnOf x x (defArgs st) (defBody st) (defScope st) .none kV doc pm an cdv ct) ⟨us, ks.zip ws⟩ = pure (ps.zip (pick ix (us ++ ws)))) : KbI K fd ps n ks ix := by
  obtain ⟨oc, od, dV, kV, doc, pm, an, cdv, ct, osl, rfl, lk, hcd, hD, hK⟩ := F.ex
  rcases hD with ⟨_, rfl⟩ | ⟨e, _⟩
  · exact ⟨fun s us ws X h1 h2 => .of_eq (h kV doc pm an cdv ct us ws h1 h2), fun r1 r2 => pick_vals (r1.append r2) ix⟩
  · exact absurd rfl e
section
variable {X : Cx} {K : KW}
theorem dk_nil : PK X [] (tA X.KW (ret [])) := ⟨fun pos pins s σ H Q I q => pk_nil.run pos pins s σ H Q I (tA_nil σ H Q q)⟩
theorem dk_cons {e : Expr} {kws : List Keyword} {nm : Option Str} {kpos : Pos} {fa : M Rs} {fs : M (List Rs)} (ha : PE X e (tE X.KW fa)) (hr : PK X kws (tA X.KW fs)) : PK X (⟨nm, e, kpos⟩ :: kws) (tA X.KW (consM fa fs)) :=
  ⟨fun pos pins s σ H Q I q => (pk_cons ha hr).run pos pins s σ H Q I (tA_cons σ H Q q)⟩
theorem tE_callK {np n m : Nat} {ix : List Nat} {F : Fn} {fs fk : M (List Rs)} (ar : Arity F np) : ∀ σ H Q, tE K (callKM n m ix F fs fk) σ H Q → tCallN n m (spD K np F) (fun vs zs => pick ix (vs ++ zs)) E0 (tA K fs) (tA K fk) σ H Q := by
  rintro σ H Q ⟨γ, e, Z, r, e', R, h, k⟩
  obtain ⟨rs0, e1, ss, μ', h1, h2, h3, rfl, hr⟩ := callM_eq h
  obtain ⟨rs, ea, ha, hb⟩ := bnd_eq h1
  obtain ⟨ks, eb, hc, hd⟩ := bnd_eq hb
  by_cases c : rs.length = n ∧ ks.length = m
  · simp only [if_pos c] at hd
    cases hd
    refine ⟨γ, e, Z, rs, ea, R, ha, fun vs H1 kp sh P => ?_⟩
    obtain ⟨Z1, h01, hf, R1, A1⟩ := P
    refine ⟨γ, ea, Z1, ks, e1, R1, hc, fun zs H2 kp2 sh2 P2 => ?_⟩
    obtain ⟨Z2, h12, hf2, R2, A2⟩ := P2
    refine ⟨A1.length.symm.trans c.1, A2.length.symm.trans c.2, ?_⟩
    have A : All2 (RsOk K γ H2 e1 σ Z Z2) (rs ++ ks) (vs ++ zs) := (RsOk.keeps R1 R2 kp2 sh2 h12 hf2 A1).append (A2.imp fun _ _ q => q.down h01)
    refine call_ok (kp.trans sh kp2) (fun a z => h12 a (h01 a z)) (fun a z => ?_) R2 (pick_all2 A ix) h2 h3 (ar _ _ _ h3) hr fun v H3 kp3 P3 => k v H3 ((kp.trans sh kp2).trans (sh.trans sh2) kp3) ((sh.trans sh2).trans ⟨fun _ s' h m => ⟨s', h, m, id⟩, fun _ _ h => h, fun _ _ h => h, rfl⟩) P3
    rcases hf2 a z with z | z
    · exact hf a z
    · exact .inr (kp.none z)
  · simp only [if_neg c] at hd
    cases hd
theorem de_callK {np n k : Nat} {ix : List Nat} {F : Fn} {f : Addr} {fd : FuncData} {ps ks : List Str} {x : Str} {p pos : Pos} {e : Expr} {es : List Expr} {kws : List Keyword} {fs fk : M (List Rs)} (FO : FnG X.prog X.w X.KW X.mg X.base CX0 k f fd ps (spD X.KW np F)) (ar : Arity F np) (hgd : X.A.guards = some []) (hr : Room k X.A) (hm : X.mg x = some (.ref f))
    (hk : PySem.W.keepIn X.KW (.ref f) = true) (hb : KbI X.KW fd ps n ks ix) (ha : PA X (e :: es) (tA X.KW fs)) (hkw : PK X kws (tA X.KW fk)) (hg : Gl X x := by rfl) (hall : (backToKw pos (keywordEach kws X.env)).all (·.1.isSome) = true := by rfl) (hks : (backToKw pos (keywordEach kws X.env)).filterMap (·.1) = ks := by rfl)
    (hdb : (x == ("__debug__" : Str)) = false := by decide) (he : starEach (e :: es) X.env = (false, eval e X.env) :: starEach es X.env := by rfl)
    (hpl : ((backTo pos (starEach (e :: es) X.env)).any (·.1) || (backToKw pos (keywordEach kws X.env)).any (·.1.isNone)) = false := by rfl) : PE X (.Call (.Name x p) (e :: es) kws pos) (tE X.KW (callKM n ks.length ix F fs fk)) :=
  PE.weak (peG_callN FO hgd hr hg hm hk hb pass0 ha hkw hall hks hdb he hpl) (tE_callK ar)
/-- keywords alone -/
theorem de_callK0 {np k : Nat} {ix : List Nat} {F : Fn} {f : Addr} {fd : FuncData} {ps ks : List Str} {x : Str} {p pos : Pos} {kws : List Keyword} {fk : M (List Rs)} (FO : FnG X.prog X.w X.KW X.mg X.base CX0 k f fd ps (spD X.KW np F)) (ar : Arity F np) (hgd : X.A.guards = some []) (hr : Room k X.A) (hm : X.mg x = some (.ref f))
    (hk : PySem.W.keepIn X.KW (.ref f) = true) (hb : KbI X.KW fd ps 0 ks ix) (hkw : PK X kws (tA X.KW fk)) (hg : Gl X x := by rfl) (hall : (backToKw pos (keywordEach kws X.env)).all (·.1.isSome) = true := by rfl) (hks : (backToKw pos (keywordEach kws X.env)).filterMap (·.1) = ks := by rfl)
    (hdb : (x == ("__debug__" : Str)) = false := by decide)
    (hpl : ((backTo pos (starEach [] X.env)).any (·.1) || (backToKw pos (keywordEach kws X.env)).any (·.1.isNone)) = false := by rfl) : PE X (.Call (.Name x p) [] kws pos) (tE X.KW (callKM 0 ks.length ix F (ret []) fk)) := by
  refine ⟨fun pins s σ H Q I h => ?_⟩
  obtain ⟨γ, e, Z, rs, e', R, h1, q⟩ := tE_callK ar σ H Q h
  cases h1
  obtain ⟨γ2, ea, Z2, ks2, eb, R2, h2, q2⟩ := q [] H (Kp.refl H) (Sh.refl _) ⟨Z, fun _ z => z, fun _ z => .inl z, R, .nil⟩
  refine wpAny_Call_Name_kw (ld_glob I hg hm ?_ hdb)
  refine PySem.W.callWith_KW0 (h₀ := X.base) I.ok.mod.kin hk hall ?_ hpl
  refine thn (hkw.run pos pins s σ H _ I ⟨γ2, ea, Z2, ks2, eb, R2, h2, q2⟩) fun ws s2 ⟨zs, H2, I2, rz, l1, l2, q3⟩ => ⟨I2.kIn, ?_⟩
  rw [hks, List.append_nil]
  exact kw_run (vs := []) FO hgd hr hb pass0 I2 .nil rz l1 l2 q3
end
end DV
end
section
set_option Elab.async false
set_option linter.all false
set_option maxRecDepth 100000
namespace DV
open PySem PySem.Spec PyProof.Rows L2

/-! ### targets -/
def tG (K : KW) (S : List Nat) (tg : D → M Unit) : TG := fun v σ H Q => ∃ γ e Z d e', Rep K γ e σ H Z ∧ Rp K H (Hid γ e.ρ σ Z) v d ∧ tg d e = some ((), e') ∧
  ∀ σ', Rep K γ e' σ' H Z → Stp γ e σ H γ e' σ' H → (∀ j, j ∉ S → σ'[j]? = σ[j]? ∧ e'.ρ[j]? = e.ρ[j]?) → (∀ j ∈ S, ∀ s, e'.ρ[j]? = some (some s) → s.isMu = true → e.ρ[j]? = some (some s)) → Q σ' H
def tGs (K : KW) (S : List Nat) (tg : List D → M Unit) : TGs := fun vs σ H Q => ∃ γ e Z ds e', Rep K γ e σ H Z ∧ RpL K H (Hid γ e.ρ σ Z) vs ds ∧ tg ds e = some ((), e') ∧
  ∀ σ', Rep K γ e' σ' H Z → Stp γ e σ H γ e' σ' H → (∀ j, j ∉ S → σ'[j]? = σ[j]? ∧ e'.ρ[j]? = e.ρ[j]?) → (∀ j ∈ S, ∀ s, e'.ρ[j]? = some (some s) → s.isMu = true → e.ρ[j]? = some (some s)) → Q σ' H
theorem PG.weak {X : Cx} {e : Expr} {t t' : TG} (h : PG X e t) (w : ∀ v σ H Q, t' v σ H Q → t v σ H Q) : PG X e t' := ⟨fun pins s σ H v u Q I r q => h.run pins s σ H v u Q I r (w v σ H Q q)⟩
theorem PGs.weak {X : Cx} {e : List Expr} {t t' : TGs} (h : PGs X e t) (w : ∀ v σ H Q, t' v σ H Q → t v σ H Q) : PGs X e t' := ⟨fun pins s σ H v u Q I r q => h.run pins s σ H v u Q I r (w v σ H Q q)⟩
def tgN (i : Nat) (d : D) : M Unit := asg i (.fz d)
def tgNil : List D → M Unit
  | [] => ret ()
  | _ => noM
def tgCons (t : D → M Unit) (ts : List D → M Unit) : List D → M Unit
  | [] => noM
  | d :: ds => bnd (t d) fun _ => ts ds
def tgT (n : Nat) (ts : List D → M Unit) : D → M Unit
  | .tuple ds => if ds.length = n then ts ds else noM
  | _ => noM
section
variable {X : Cx} {K : KW}
theorem asg_at {i : Nat} {d : D} {e e' : En} (h : asg i (.fz d) e = some ((), e')) : e' = e.st i (some (.fz d)) := by
  unfold asg at h
  cases q1 : e.ρ[i]? with
  | none => rw [q1] at h; cases h
  | some o =>
    rw [q1] at h
    cases o with
    | none => cases h; rfl
    | some x =>
      cases x with
      | bo d => cases h
      | fz d => cases h; rfl
      | ow d => cases h; rfl
      | pt k => cases h; rfl
theorem dg_name {i : Nat} {x : Str} {pos : Pos} (hN : X.N.Nodup) (hi : X.N[i]? = some x := by rfl) (hx : Loc X.env.scope x := by first | exact Or.inl rfl | exact Or.inr rfl) (hf : X.fn x = true ∨ X.env.scope.names.lookup x = some .local := by first | exact .inl rfl | exact .inr rfl | assumption) :
    PG X (.Name x pos) (tG X.KW [i] (tgN i)) := PG.weak (pg_name (i := i) hN hi hx hf) (by
  rintro v σ H Q ⟨γ, e, Z, d, e', R, rp, h, k⟩
  obtain ⟨R2, s2⟩ := asg_ok (γ := γ) (e := e) h (fun _ z => z) (fun _ z => .inl z) Stp.refl R rp
  have e2 := asg_at h
  refine k _ R2 s2 (fun j hj => ?_) fun j hj s hs m => ?_
  · have ne : i ≠ j := fun z => hj (by simp [z])
    refine ⟨List.getElem?_set_ne ne, ?_⟩
    rw [e2]
    exact List.getElem?_set_ne ne
  · have ej : j = i := by simpa using hj
    subst ej
    rw [e2] at hs
    rcases set_get hs with ⟨_, e1⟩ | ⟨ne, _⟩
    · cases e1; cases m
    · exact absurd rfl ne)
theorem dg_nil : PGs X [] (tGs X.KW [] tgNil) := PGs.weak pgs_nil (by
  rintro v σ H Q ⟨γ, e, Z, ds, e', R, rp, h, k⟩
  cases ds with
  | cons d ds => cases h
  | nil =>
    cases h
    cases rp
    exact ⟨rfl, k σ R Stp.refl (fun j _ => ⟨rfl, rfl⟩) fun j hj => by cases hj⟩)
theorem dg_cons {e : Expr} {es : List Expr} {S T : List Nat} {t : D → M Unit} {ts : List D → M Unit} (h1 : PG X e (tG X.KW S t)) (h2 : PGs X es (tGs X.KW T ts))
    (hs : (assignEach (e :: es) X.env).map (·.2) = assign e X.env :: (assignEach es X.env).map (·.2) := by rfl) : PGs X (e :: es) (tGs X.KW (S ++ T) (tgCons t ts)) := PGs.weak (pgs_cons h1 h2 hs) (by
  rintro v σ H Q ⟨γ, e, Z, ds, e', R, rp, h, k⟩
  cases rp with
  | nil => cases h
  | @cons v vs d ds rp rpl =>
    obtain ⟨u, e1, ha, hb⟩ := bnd_eq h
    refine ⟨v, vs, rfl, γ, e, Z, d, e1, R, rp, ha, fun σ1 R1 s1 o1 m1 => ?_⟩
    refine ⟨γ, e1, Z, ds, e', R1, rpl.stay (s1.stay fun a z => .inl z), hb, fun σ2 R2 s2 o2 m2 => ?_⟩
    refine k σ2 R2 (s1.trans s2) (fun j hj => ?_) fun j hj s q m => ?_
    · simp only [List.mem_append, not_or] at hj
      exact ⟨(o2 j hj.2).1.trans (o1 j hj.1).1, (o2 j hj.2).2.trans (o1 j hj.1).2⟩
    · by_cases c : j ∈ T
      · have q1 := m2 j c s q m
        by_cases c1 : j ∈ S
        · exact m1 j c1 s q1 m
        · rw [(o1 j c1).2] at q1; exact q1
      · rw [(o2 j c).2] at q
        by_cases c1 : j ∈ S
        · exact m1 j c1 s q m
        · rw [(o1 j c1).2] at q; exact q)
theorem dg_tup {es : List Expr} {k n : Nat} {pos : Pos} {S : List Nat} {ts : List D → M Unit} (h : PGs X es (tGs X.KW S ts)) (hc : X.calm = true := by rfl)
    (hn : (assignEach es X.env).length = n := by rfl) (hst : (assignEach es X.env).findIdx? (·.1) = none := by rfl) : PG X (.Tuple es k pos) (tG X.KW S (tgT n ts)) := PG.weak (pg_tup hc h hn hst) (by
  rintro v σ H Q ⟨γ, e, Z, d, e', R, rp, h, k⟩
  cases d with
  | tuple ds =>
    have h' : (if ds.length = n then ts ds else noM) e = some ((), e') := h
    by_cases c : ds.length = n
    · rw [if_pos c] at h'
      cases rp with
      | tup q r => exact ⟨_, _, rfl, q.sq, r.length.trans c, γ, e, Z, ds, e', R, r, h', k⟩
    · rw [if_neg c] at h'; cases h'
  | _ => cases h)
/-- target = value -/
def asgM (f : M Rs) (tg : D → M Unit) : M Fl := bnd f fun r => bnd (als r) fun d => bnd (tg d) fun _ => ret .nx
theorem ds_asg {tg e : Expr} {f : M Rs} {S : List Nat} {t : D → M Unit} {pos : Pos} (he : PE X e (tE X.KW f)) (hg : PG X tg (tG X.KW S t)) (hs : swapsWithSole [tg] e pos.line X.env = pure false := by rfl) (hw : swappedStores [tg] e X.env = pure none := by rfl)
    (h1 : (assignEach [tg] X.env).map (·.2) = [assign tg X.env] := by rfl) : PS X (.Assign [tg] e pos) (tS X.KW (asgM f t)) := PS.weak (ps_asg he hg hs hw h1) (by
  rintro D σ H ⟨γ, e, Z, fl, e', R, h, k⟩
  obtain ⟨r, e1, h1, h2⟩ := bnd_eq h
  obtain ⟨d, e2, h3, h4⟩ := bnd_eq h2
  obtain ⟨u, e3, h5, h6⟩ := bnd_eq h4
  cases h6
  refine ⟨γ, e, Z, r, e1, R, h1, fun v H1 kp sh P => ?_⟩
  obtain ⟨Z1, h01, hf, R1, A1⟩ := P.one
  obtain ⟨Z2, h02, h21, R2, rp, sh2⟩ := als_ok h3 h01 R1 A1
  have R2' := R2.down h02
  refine ⟨γ, e2, Z, d, _, R2', Rp.stay (stay_refl fun a o _ z => z.imp id (Or.imp id (h02 a))) d rp, h5, fun σ' R3 s3 _ _ => ?_⟩
  exact k γ σ' H1 ((Stp.ev kp (sh.trans sh2)).trans s3) R3)
end

/-! ### locks -/
def lock1 : Option Nat → En → En
  | none, e => e
  | some i, e => match e.ρ[i]? with
    | some (some (.ow d)) => e.st i (some (.bo d))
    | _ => e
def unlock1 : Option Nat → En → En
  | none, e => e
  | some i, e => match e.ρ[i]? with
    | some (some (.bo d)) => e.st i (some (.ow d))
    | _ => e
/-- the slot to be locked holds an object of its own -/
def lockable : Option Nat → En → Bool
  | none, _ => true
  | some i, e => match e.ρ[i]? with
    | some (some (.ow _)) => true
    | _ => false
section
variable {K : KW} {γ γ' : List Addr} {e e1 e' : En} {σ σ' : L2.St} {H H' : Hp} {Z Z' : Addr → Prop} {lk : Option Nat}
theorem lock_cases (h : lockable lk e = true) : (lk = none) ∨ ∃ i d, lk = some i ∧ e.ρ[i]? = some (some (.ow d)) ∧ lock1 lk e = e.st i (some (.bo d)) := by
  cases lk with
  | none => exact .inl rfl
  | some i =>
    have h' : (match e.ρ[i]? with
      | some (some (.ow _)) => true
      | _ => false) = true := h
    cases q : e.ρ[i]? with
    | none => rw [q] at h'; cases h'
    | some o =>
      cases o with
      | none => rw [q] at h'; cases h'
      | some x =>
        cases x with
        | ow d =>
          refine .inr ⟨i, d, rfl, q, ?_⟩
          show (match e.ρ[i]? with
            | some (some (.ow d)) => e.st i (some (.bo d))
            | _ => e) = _
          rw [q]
        | fz d => rw [q] at h'; cases h'
        | bo d => rw [q] at h'; cases h'
        | pt d => rw [q] at h'; cases h'
/-- a slot's kind is turned between own and borrowed -/
theorem mut_turn {i : Nat} {s s' : Sl} (hi : e.ρ[i]? = some (some s)) (m : s.isMu = true) (m' : s'.isMu = true) (a : Addr) : MutA (e.st i (some s')).ρ σ a ↔ MutA e.ρ σ a := by
  have hl := (List.getElem?_eq_some_iff.mp hi).1
  constructor
  · rintro ⟨j, x, h1, mx, h2⟩
    rcases set_get h1 with ⟨rfl, e1⟩ | ⟨ne, h1⟩
    · exact ⟨_, s, hi, m, h2⟩
    · exact ⟨j, x, h1, mx, h2⟩
  · rintro ⟨j, x, h1, mx, h2⟩
    by_cases ej : j = i
    · subst ej; exact ⟨j, s', List.getElem?_set_self hl, m', h2⟩
    · exact ⟨j, x, by show (e.ρ.set i _)[j]? = _; rw [List.getElem?_set_ne (Ne.symm ej)]; exact h1, mx, h2⟩
theorem Rep.lock (R : Rep K γ e σ H Z) (h : lockable lk e = true) : Rep K γ (lock1 lk e) σ H Z := by
  rcases lock_cases h with rfl | ⟨i, d, rfl, hi, el⟩
  · exact R
  · rw [el]
    have hl := (List.getElem?_eq_some_iff.mp hi).1
    have mt := mut_turn (σ := σ) (s' := .bo d) hi rfl rfl
    have st : Stay H H (Hid γ e.ρ σ Z) (Hid γ (e.st i (some (.bo d))).ρ σ Z) := stay_refl fun a o _ z => z.imp (mt a).mp id
    refine ⟨by simp [R.len], fun j x hj => ?_, fun j x a hj m h2 => ?_, fun j d' a hj h2 j' x h3 m h4 => ?_, R.cl, R.nd, R.cell, R.cz, R.zt⟩
    · rcases set_get hj with ⟨rfl, e1⟩ | ⟨ne, hj⟩
      · cases e1
        obtain ⟨v, hv, a, rfl, c⟩ := R.slot _ _ hi
        exact ⟨_, hv, a, rfl, c.stay st fun o ho => ho⟩
      · obtain ⟨v, hv, ok⟩ := R.slot j x hj
        exact ⟨v, hv, ok.stay st fun _ _ _ o ho => ho⟩
    · rcases set_get hj with ⟨rfl, e1⟩ | ⟨ne, hj⟩
      · exact R.mu _ _ a hi rfl h2
      · exact R.mu j x a hj m h2
    · rcases set_get hj with ⟨q0, e1⟩ | ⟨ne, g1⟩
      · cases e1
      · rcases set_get h3 with ⟨q, e1⟩ | ⟨ne', g3⟩
        · subst q; exact R.own j d' a g1 h2 _ _ hi rfl h4
        · exact R.own j d' a g1 h2 j' x g3 m h4
theorem lock_mut (h : lockable lk e = true) (a : Addr) : MutA (lock1 lk e).ρ σ a ↔ MutA e.ρ σ a := by
  rcases lock_cases h with rfl | ⟨i, d, rfl, hi, el⟩
  · exact Iff.rfl
  · rw [el]; exact mut_turn hi rfl rfl a
/-- behind a block that ran locked -/
theorem Stp.unlock (R : Rep K γ e σ H Z) (hl : lockable lk e = true) (s : Stp γ (lock1 lk e) σ H γ' e' σ' H') : Stp γ e σ H γ' (unlock1 lk e') σ' H' := by
  rcases lock_cases hl with rfl | ⟨i, d, rfl, hi, el⟩
  · exact s
  · rw [el] at s
    have hil := (List.getElem?_eq_some_iff.mp hi).1
    obtain ⟨b1, b2⟩ := s.bo i d (List.getElem?_set_self hil)
    have eu : unlock1 (some i) e' = e'.st i (some (.ow d)) := by
      show (match e'.ρ[i]? with
        | some (some (.bo d)) => e'.st i (some (.ow d))
        | _ => e') = _
      rw [b1]
    rw [eu]
    have oL : ∀ a, OwnA (e.st i (some (.bo d))).ρ σ a → OwnA e.ρ σ a := fun a ⟨j, x, h1, h2⟩ => by
      rcases set_get h1 with ⟨_, e1⟩ | ⟨ne, h1⟩
      · cases e1
      · exact ⟨j, x, h1, h2⟩
    refine ⟨s.pre, s.nw, fun a o h n g => s.st a o h (fun z => n (oL a z)) g, s.th, fun a h => ?_, fun a h => ?_, fun j d' h => ?_, fun j d' h => ?_, by rw [show (e'.st i (some (.ow d))).ρ.length = e'.ρ.length by simp, s.ln]; simp⟩
    · exact (s.mu a ((mut_turn b1 rfl rfl a).mp h)).imp (mut_turn hi rfl rfl a).mp id
    · obtain ⟨j, x, h1, h2⟩ := h
      rcases set_get h1 with ⟨q, e1⟩ | ⟨ne, h1⟩
      · subst q; rw [b2] at h2; exact .inl ⟨j, d, hi, h2⟩
      · exact (s.ow a ⟨j, x, h1, h2⟩).imp (oL a) id
    · have ne : j ≠ i := fun z => by subst z; rw [hi] at h; cases h
      obtain ⟨h1, h2⟩ := s.bo j d' (by show (e.ρ.set i _)[j]? = _; rw [List.getElem?_set_ne (Ne.symm ne)]; exact h)
      exact ⟨by show (e'.ρ.set i _)[j]? = _; rw [List.getElem?_set_ne (Ne.symm ne)]; exact h1, h2⟩
    · rcases set_get h with ⟨_, e1⟩ | ⟨ne, h1⟩
      · cases e1
      · have := s.bb j d' h1
        rcases set_get this with ⟨q, e1⟩ | ⟨_, h2⟩
        · exact absurd q ne
        · exact h2
theorem Rep.unlock (R : Rep K γ e σ H Z) (hl : lockable lk e = true) (s : Stp γ (lock1 lk e) σ H γ' e' σ' H') (R' : Rep K γ' e' σ' H' Z') : Rep K γ' (unlock1 lk e') σ' H' Z' := by
  rcases lock_cases hl with rfl | ⟨i, d, rfl, hi, el⟩
  · exact R'
  · rw [el] at s
    have hil := (List.getElem?_eq_some_iff.mp hi).1
    obtain ⟨b1, b2⟩ := s.bo i d (List.getElem?_set_self hil)
    have eu : unlock1 (some i) e' = e'.st i (some (.ow d)) := by
      show (match e'.ρ[i]? with
        | some (some (.bo d)) => e'.st i (some (.ow d))
        | _ => e') = _
      rw [b1]
    rw [eu]
    have mt := mut_turn (σ := σ') (s' := .ow d) b1 rfl rfl
    have st : Stay H' H' (Hid γ' e'.ρ σ' Z') (Hid γ' (e'.st i (some (.ow d))).ρ σ' Z') := stay_refl fun a o _ z => z.imp (mt a).mp id
    obtain ⟨v0, hv0, a0, ev, c0⟩ := R.slot i _ hi
    subst ev
    have uniq : ∀ (j : Nat) (x : Sl), e'.ρ[j]? = some (some x) → x.isMu = true → σ'[j]? = some (some (.ref a0)) → j = i := fun j x h m h2 => by
      cases x with
      | fz _ => cases m
      | pt _ => cases m
      | ow d' =>
        rcases s.ow a0 ⟨j, d', h, h2⟩ with ⟨l, d2, h3, h4⟩ | z
        · rcases set_get h3 with ⟨q, e1⟩ | ⟨ne, h3⟩
          · cases e1
          · exact absurd (R.own i d a0 hi hv0 l _ h3 rfl h4) ne
        · obtain ⟨o, ho⟩ := c0.there
          rw [ho] at z; cases z
      | bo d' =>
        have h3 := s.bb j d' h
        obtain ⟨_, h4⟩ := s.bo j d' h3
        rw [h4] at h2
        rcases set_get h3 with ⟨q, e1⟩ | ⟨ne, h3⟩
        · exact q
        · exact R.own i d a0 hi hv0 j _ h3 rfl h2
    refine ⟨by simp [R'.len], fun j x hj => ?_, fun j x a hj m h2 => ?_, fun j d' a hj h2 j' x h3 m h4 => ?_, R'.cl, R'.nd, R'.cell, R'.cz, R'.zt⟩
    · rcases set_get hj with ⟨q, e1⟩ | ⟨ne, hj⟩
      · subst q
        cases e1
        obtain ⟨v, hv, a, rfl, c⟩ := R'.slot _ _ b1
        exact ⟨_, hv, a, rfl, c.stay st fun o ho => ho⟩
      · obtain ⟨v, hv, ok⟩ := R'.slot j x hj
        exact ⟨v, hv, ok.stay st fun _ _ _ o ho => ho⟩
    · rcases set_get hj with ⟨q, e1⟩ | ⟨ne, hj⟩
      · subst q; exact R'.mu _ _ a b1 rfl h2
      · exact R'.mu j x a hj m h2
    · rcases set_get hj with ⟨q, e1⟩ | ⟨ne, _⟩
      · subst q
        rw [b2, hv0] at h2
        cases h2
        rcases set_get h3 with ⟨q, e1⟩ | ⟨ne', h3⟩
        · exact q
        · exact uniq j' x h3 m h4
      · rename_i g1
        rcases set_get h3 with ⟨q, e1⟩ | ⟨ne', g3⟩
        · subst q
          rw [b2, hv0] at h4
          cases h4
          exact absurd (uniq j _ g1 rfl h2) ne
        · exact R'.own j d' a g1 h2 j' x g3 m h4
theorem unlock_mut (R : Rep K γ e σ H Z) (hl : lockable lk e = true) (s : Stp γ (lock1 lk e) σ H γ' e' σ' H') (a : Addr) : MutA (unlock1 lk e').ρ σ' a ↔ MutA e'.ρ σ' a := by
  rcases lock_cases hl with rfl | ⟨i, d, rfl, hi, el⟩
  · exact Iff.rfl
  · rw [el] at s
    obtain ⟨b1, b2⟩ := s.bo i d (List.getElem?_set_self (List.getElem?_eq_some_iff.mp hi).1)
    have eu : unlock1 (some i) e' = e'.st i (some (.ow d)) := by
      show (match e'.ρ[i]? with
        | some (some (.bo d)) => e'.st i (some (.ow d))
        | _ => e') = _
      rw [b1]
    rw [eu]
    exact mut_turn b1 rfl rfl a
end
end DV
end
section
set_option Elab.async false
set_option linter.all false
set_option maxRecDepth 100000
namespace DV
open PySem PySem.Spec PyProof.Rows L2

/-! ### what is walked -/
/-- J yields what stands for ds, as long as P holds -/
structure Wk (K : KW) (J : It) (ds : List D) (need : List (Addr × HO)) (P : Hp → (Addr → Prop) → Prop) : Prop where
  go : ∀ i H O, P H O → i < ds.length → J.go i H
  yl : ∀ i H O x H' d, P H O → (∀ a, O a → ∃ o, H a = some o) → ds[i]? = some d → J.yld i H x H' → Same H H' ∧ Rp K H' O x d
  st : ∀ H O, P H O → J.stop ds.length H
  kp : ∀ H H' O O', P H O → Stay H H' O O' → (∀ p ∈ need, H' p.1 = some p.2) → P H' O'
  nd : ∀ H O, P H O → ∀ p ∈ need, H p.1 = some p.2
  ln : ds.length ≤ sizeLine
abbrev Src := M (List D × Option Nat)
def tI (K : KW) (f : Src) : TI := fun σ H R => ∃ γ e Z ds lk e', Rep K γ e σ H Z ∧ f e = some ((ds, lk), e') ∧ lockable lk e' = true ∧ ∀ J H', Kp γ e.ρ σ H H' → Sh e e' →
  (∃ Z' : Addr → Prop, (∀ a, Z a → Z' a) ∧ (∀ a, Z' a → Z a ∨ H a = none) ∧ Rep K γ e' σ H' Z' ∧ ∃ need P, Wk K J ds need P ∧ P H' (Hid γ e'.ρ σ Z') ∧ ∀ p ∈ need, p.1 ∉ γ ∧ ¬ OwnA (lock1 lk e').ρ σ p.1) → R J H'
theorem PI.weak {X : Cx} {tg e : Expr} {t t' : TI} (h : PI X tg e t) (w : ∀ σ H Q, t' σ H Q → t σ H Q) : PI X tg e t' := ⟨fun pins s σ H Q I q => h.run pins s σ H Q I (w σ H Q q)⟩

/-! ### for -/
def forL (t : D → M Unit) (b : M Fl) : List D → M Fl
  | [] => ret .nx
  | d :: ds => fun e => match t d e with
    | some (_, e1) => match b e1 with
      | some (.nx, e2) => forL t b ds e2
      | some (.ct, e2) => forL t b ds e2
      | some (.bk, e2) => some (.nx, e2)
      | some (.rt r, e2) => some (.rt r, e2)
      | none => none
    | none => none
def forS (src : Src) (t : D → M Unit) (b : M Fl) : M Fl := bnd src fun p => fun e =>
  if lockable p.2 e = true then match forL t b p.1 (lock1 p.2 e) with
    | some (fl, e') => some (fl, unlock1 p.2 e')
    | none => none
  else none
section
variable {X : Cx} {K : KW}
theorem tS_for {src : Src} {t : D → M Unit} {b : M Fl} {S : List Nat} : ∀ D σ H, tS K (forS src t b) D σ H → tFor (tI K src) (tG K S t) (tS K b) D σ H := by
  rintro D σ H ⟨γ, e, Z, fl, e', R, h, k⟩
  obtain ⟨⟨ds, lk⟩, e1, h1, h2⟩ := bnd_eq h
  by_cases hl : lockable lk e1 = true
  case neg => simp only [if_neg hl] at h2; cases h2
  simp only [if_pos hl] at h2
  cases q : forL t b ds (lock1 lk e1) with
  | none => rw [q] at h2; cases h2
  | some p =>
    obtain ⟨fl', eE⟩ := p
    rw [q] at h2
    cases h2
    refine ⟨γ, e, Z, ds, lk, e1, R, h1, hl, fun J H1 kp sh ⟨Z1, h01, hf, R1, need, P, W, p1, hn⟩ => ?_⟩
    have RL : Rep K γ (lock1 lk e1) σ H1 Z1 := R1.lock hl
    have pL : P H1 (Hid γ (lock1 lk e1).ρ σ Z1) := W.kp _ _ _ _ p1 (stay_refl fun a o _ z => z.imp (lock_mut hl a).mp id) (W.nd _ _ p1)
    -- what holds of the walk at a later point
    have later : ∀ {γ' : List Addr} {e' : En} {σ' : L2.St} {H' : Hp}, Stp γ (lock1 lk e1) σ H1 γ' e' σ' H' → P H' (Hid γ' e'.ρ σ' Z1) := fun {γ' e' σ' H'} s =>
      W.kp _ _ _ _ pL (s.stay fun a z => .inl z) fun p hp => s.st p.1 p.2 (W.nd _ _ pL p hp) (hn p hp).2 (hn p hp).1
    -- the ends
    have fin : ∀ {γ' : List Addr} {σ' : L2.St} {H' : Hp} {e2 : En}, Stp γ (lock1 lk e1) σ H1 γ' e2 σ' H' → Rep K γ' e2 σ' H' Z1 → Stp γ e σ H γ' (unlock1 lk e2) σ' H' ∧ Rep K γ' (unlock1 lk e2) σ' H' Z := fun {γ' σ' H' e2} s R' =>
      ⟨(Stp.ev kp sh).trans (Stp.unlock R1 hl s), (Rep.unlock R1 hl s R').down h01⟩
    refine ⟨fun i m σ' H' => m + i = ds.length ∧ ∃ γ' ei, Stp γ (lock1 lk e1) σ H1 γ' ei σ' H' ∧ Rep K γ' ei σ' H' Z1 ∧ forL t b (ds.drop i) ei = some (fl, eE), ⟨ds.length, rfl, γ, _, Stp.refl, RL, q⟩, ?_⟩
    rintro i m σ' H' ⟨em, γ', ei, s, R', hq⟩
    by_cases hi : i < ds.length
    · rw [List.drop_eq_getElem_cons hi] at hq
      have hq' : (match t ds[i] ei with
        | some (_, e1) => match b e1 with
          | some (.nx, e2) => forL t b (ds.drop (i + 1)) e2
          | some (.ct, e2) => forL t b (ds.drop (i + 1)) e2
          | some (.bk, e2) => some (.nx, e2)
          | some (.rt r, e2) => some (.rt r, e2)
          | none => none
        | none => none) = some (fl, eE) := hq
      refine .inr ⟨W.go i _ _ (later s) hi, fun σ' H' => ∃ γ' ei, Stp γ (lock1 lk e1) σ H1 γ' ei σ' H' ∧ Rep K γ' ei σ' H' Z1 ∧ forL t b (ds.drop (i + 1)) ei = some (fl, eE), fun σ2 H2 hN => ?_, fun x H2 hy => ?_⟩
      · obtain ⟨γ2, e2, s2, R2, q2⟩ := hN
        exact ⟨m - 1, by omega, by omega, γ2, e2, s2, R2, q2⟩
      · obtain ⟨sm, rp⟩ := W.yl i _ _ x H2 ds[i] (later s) (fun a ha => Hid.tr R' ha) (List.getElem?_eq_getElem hi) hy
        cases q1 : t ds[i] ei with
        | none => rw [q1] at hq'; cases hq'
        | some p1 =>
          obtain ⟨u, ea⟩ := p1
          rw [q1] at hq'
          have hq2 : (match b ea with
            | some (.nx, e2) => forL t b (ds.drop (i + 1)) e2
            | some (.ct, e2) => forL t b (ds.drop (i + 1)) e2
            | some (.bk, e2) => some (.nx, e2)
            | some (.rt r, e2) => some (.rt r, e2)
            | none => none) = some (fl, eE) := hq'
          have Rg : Rep K γ' ei σ' H2 Z1 := R'.grow sm fun a z => .inl z
          have sg : Stp γ (lock1 lk e1) σ H1 γ' ei σ' H2 := s.trans (Stp.ev (Kp.of_same sm) (Sh.refl ei))
          refine ⟨γ', ei, Z1, ds[i], ea, Rg, rp, q1, fun σ2 R2 s2 _ _ => ?_⟩
          cases q3 : b ea with
          | none => rw [q3] at hq2; cases hq2
          | some p3 =>
            obtain ⟨fl3, eb⟩ := p3
            rw [q3] at hq2
            refine ⟨γ', ea, Z1, fl3, eb, R2, q3, ?_⟩
            have sa := sg.trans s2
            cases fl3 with
            | nx => exact fun γ3 σ3 H3 s3 R3 => ⟨γ3, eb, sa.trans s3, R3, hq2⟩
            | ct => exact fun γ3 σ3 H3 s3 R3 => ⟨γ3, eb, sa.trans s3, R3, hq2⟩
            | bk =>
              cases hq2
              intro γ3 σ3 H3 s3 R3
              obtain ⟨a1, a2⟩ := fin (sa.trans s3) R3
              exact k γ3 σ3 H3 a1 a2
            | rt r =>
              cases hq2
              intro γ3 σ3 v H3 s3 P3
              have sall := sa.trans s3
              have P3' := P3.back sa
              obtain ⟨Z3, g1, g2, g3, g4⟩ := P3'
              refine k γ3 σ3 v H3 ((Stp.ev kp sh).trans (Stp.unlock R1 hl sall)) ⟨Z3, fun a z => g1 a (h01 a z), fun a z => ?_, Rep.unlock R1 hl sall g3, ?_⟩
              · rcases g2 a z with z | z | z
                · exact (hf a z).imp id .inl
                · exact .inr (.inl (kp.none z))
                · refine .inr (.inr (sh.own ?_))
                  rcases lock_cases hl with rfl | ⟨j, d, rfl, hj, el⟩
                  · exact z
                  · rw [el] at z
                    obtain ⟨l, x, h1, h2⟩ := z
                    rcases set_get h1 with ⟨_, e1⟩ | ⟨ne, h1⟩
                    · cases e1
                    · exact ⟨l, x, h1, h2⟩
              · have um := unlock_mut R1 hl sall
                cases r with
                | sl j => exact g4
                | fz d => exact Rp.stay (stay_refl fun a o _ z => z.imp (um a).mp id) d g4
                | fr d =>
                  obtain ⟨p, ep, hp, np, c⟩ := g4
                  exact ⟨p, ep, hp, fun z => np (h01 p z), c.stay (stay_refl fun a o _ z => z.imp (um a).mp id) fun o ho => ho⟩
    · have e0 : i = ds.length := by omega
      subst e0
      rw [List.drop_length] at hq
      cases hq
      obtain ⟨a1, a2⟩ := fin s R'
      exact .inl ⟨W.st _ _ (later s), k γ' σ' H' a1 a2⟩
theorem ds_for {tg iter : Expr} {body : List Stmt} {pos : Pos} {src : Src} {t : D → M Unit} {b : M Fl} {S : List Nat} (hi : PI X tg iter (tI X.KW src)) (hg : PG X tg (tG X.KW S t)) (hb : PSs X body (tS X.KW b))
    (hp : PassesOwn (model X.prog X.w) X.A X.env X.xe := by exact PassesOwn.never) (hc : X.calm = true := by rfl) (hs : ∀ x, foldedSetIterable iter X.env x = pure x := by intro _; rfl) : PS X (.For tg iter body [] pos) (tS X.KW (forS src t b)) :=
  PS.weak (ps_for hp hc hi hg hb hs) tS_for

/-! ### while -/
def whlL (c : M Bool) (b : M Fl) : Nat → M Fl
  | 0 => noM
  | n + 1 => bnd c fun x => if x = true then (fun e => match b e with
      | some (.nx, e2) => whlL c b n e2
      | some (.ct, e2) => whlL c b n e2
      | some (.bk, e2) => some (.nx, e2)
      | some (.rt r, e2) => some (.rt r, e2)
      | none => none) else ret .nx
theorem tS_while {c : M Bool} {b : M Fl} {n : Nat} : ∀ D σ H, tS K (whlL c b n) D σ H → tWhile (tT K c) (tS K b) D σ H := by
  rintro D σ H ⟨γ, e, Z, fl, eE, R, h, k⟩
  refine ⟨fun m σ' H' => ∃ γ' ei, Stp γ e σ H γ' ei σ' H' ∧ Rep K γ' ei σ' H' Z ∧ whlL c b m ei = some (fl, eE), ⟨n, γ, e, Stp.refl, R, h⟩, ?_⟩
  rintro m σ' H' ⟨γ', ei, s, R', hq⟩
  cases m with
  | zero => cases hq
  | succ m =>
    obtain ⟨x, e1, h1, h2⟩ := bnd_eq hq
    refine ⟨γ', ei, Z, x, e1, R', h1, fun H1 kp sh R1 => ?_⟩
    have s1 := s.trans (Stp.ev kp sh)
    cases x with
    | false =>
      cases h2
      exact iteF (k γ' σ' H1 s1 R1)
    | true =>
      refine iteT ⟨fun σ2 H2 => ∃ γ' ei, Stp γ e σ H γ' ei σ2 H2 ∧ Rep K γ' ei σ2 H2 Z ∧ whlL c b m ei = some (fl, eE), fun σ2 H2 hN => ⟨m, Nat.lt_succ_self m, hN⟩, ?_⟩
      have h3 : (match b e1 with
        | some (.nx, e2) => whlL c b m e2
        | some (.ct, e2) => whlL c b m e2
        | some (.bk, e2) => some (.nx, e2)
        | some (.rt r, e2) => some (.rt r, e2)
        | none => none) = some (fl, eE) := h2
      cases q3 : b e1 with
      | none => rw [q3] at h3; cases h3
      | some p3 =>
        obtain ⟨fl3, eb⟩ := p3
        rw [q3] at h3
        refine ⟨γ', e1, Z, fl3, eb, R1, q3, ?_⟩
        cases fl3 with
        | nx => exact fun γ3 σ3 H3 s3 R3 => ⟨γ3, eb, s1.trans s3, R3, h3⟩
        | ct => exact fun γ3 σ3 H3 s3 R3 => ⟨γ3, eb, s1.trans s3, R3, h3⟩
        | bk => cases h3; exact fun γ3 σ3 H3 s3 R3 => k γ3 σ3 H3 (s1.trans s3) R3
        | rt r => cases h3; exact fun γ3 σ3 v H3 s3 P3 => k γ3 σ3 v H3 (s1.trans s3) (P3.back s1)
theorem ds_while {c : Expr} {body : List Stmt} {pos : Pos} {tc : M Bool} {b : M Fl} (n : Nat) (hc : PT X c (tT X.KW tc)) (hb : PSs X body (tS X.KW b)) (hp : PassesOwn (model X.prog X.w) X.A X.env X.xe := by exact PassesOwn.never) : PS X (.While c body [] pos) (tS X.KW (whlL tc b n)) :=
  PS.weak (ps_while hp hc hb) tS_while
end
end DV
end
section
set_option Elab.async false
set_option linter.all false
set_option maxRecDepth 100000
namespace DV
open PySem PySem.Spec PyProof.Rows L2

/-! ### comprehensions -/
def wipeR (ρ : List (Option Sl)) : List Nat → List (Option Sl)
  | [] => ρ
  | v :: vs => (wipeR ρ vs).set v none
abbrev wipeE (own : List Nat) (e : En) : En := { e with ρ := wipeR e.ρ own }
/-- the block's own names get back what they were -/
def backR (ρ0 ρ : List (Option Sl)) : List Nat → List (Option Sl)
  | [] => ρ
  | v :: vs => match ρ0[v]? with
    | some s => (backR ρ0 ρ vs).set v s
    | none => backR ρ0 ρ vs
def plainO (own : List Nat) (e : En) : Bool := own.all fun i => match e.ρ[i]? with
  | some none => true
  | some (some (.fz _)) => true
  | _ => false
def lcL (own : List Nat) (t : D → M Unit) (c : M Bool) (el : M Rs) : List D → M (List D)
  | [] => ret []
  | d :: ds => bnd (t d) fun _ => bnd c fun b => if b = true then bnd el fun r => bnd (als r) fun y => fun e => (bnd (lcL own t c el ds) fun ys => ret (y :: ys)) (wipeE own e)
    else fun e => lcL own t c el ds (wipeE own e)
def lcM (own : List Nat) (src : Src) (t : D → M Unit) (c : M Bool) (el : M Rs) : M Rs := bnd src fun p => fun e =>
  if lockable p.2 e = true ∧ plainO own (lock1 p.2 e) = true then match lcL own t c el p.1 (wipeE own (lock1 p.2 e)) with
    | some (xs, e') => some (.fr (.list xs), unlock1 p.2 { e' with ρ := backR (lock1 p.2 e).ρ e'.ρ own })
    | none => none
  else none
section
theorem wipeR_len (ρ : List (Option Sl)) : ∀ vs, (wipeR ρ vs).length = ρ.length
  | [] => rfl
  | v :: vs => by unfold wipeR; rw [List.length_set, wipeR_len ρ vs]
theorem wipeR_out {ρ : List (Option Sl)} {j : Nat} : ∀ {vs : List Nat}, j ∉ vs → (wipeR ρ vs)[j]? = ρ[j]?
  | [], _ => rfl
  | v :: vs, h => by
    simp only [List.mem_cons, not_or] at h
    unfold wipeR
    rw [List.getElem?_set_ne (Ne.symm h.1), wipeR_out h.2]
theorem wipeR_in {ρ : List (Option Sl)} {j : Nat} {s : Sl} : ∀ {vs : List Nat}, (wipeR ρ vs)[j]? = some (some s) → j ∉ vs ∧ ρ[j]? = some (some s)
  | [], h => ⟨by simp, h⟩
  | v :: vs, h => by
    unfold wipeR at h
    rcases set_get h with ⟨_, e⟩ | ⟨ne, h⟩
    · cases e
    · obtain ⟨h1, h2⟩ := wipeR_in h
      exact ⟨by simp only [List.mem_cons, not_or]; exact ⟨ne, h1⟩, h2⟩
theorem wipe_out' {σ : L2.St} {j : Nat} : ∀ {vs : List Nat}, j ∉ vs → (L2.wipe σ vs)[j]? = σ[j]?
  | [], _ => rfl
  | v :: vs, h => by
    simp only [List.mem_cons, not_or] at h
    unfold L2.wipe
    rw [List.getElem?_set_ne (Ne.symm h.1), wipe_out' h.2]
theorem wipe_at {σ : L2.St} {j : Nat} : ∀ {vs : List Nat}, j ∈ vs → j < σ.length → (L2.wipe σ vs)[j]? = some none
  | [], h, _ => by simp at h
  | v :: vs, h, hl => by
    unfold L2.wipe
    by_cases e : j = v
    · subst e; rw [List.getElem?_set_self (by rw [L2.wipe_length]; exact hl)]
    · rw [List.getElem?_set_ne (Ne.symm e)]
      exact wipe_at (by simpa [e] using h) hl
theorem wipe_eq {σ σ' : L2.St} {vs : List Nat} (hl : σ'.length = σ.length) (h : ∀ j, j ∉ vs → σ'[j]? = σ[j]?) : L2.wipe σ' vs = L2.wipe σ vs := by
  refine List.ext_getElem? fun j => ?_
  by_cases c : j ∈ vs
  · by_cases hj : j < σ.length
    · rw [wipe_at c hj, wipe_at c (by omega)]
    · rw [List.getElem?_eq_none (by rw [L2.wipe_length]; omega), List.getElem?_eq_none (by rw [L2.wipe_length]; omega)]
  · rw [wipe_out' c, wipe_out' c, h j c]
theorem backR_len (ρ0 ρ : List (Option Sl)) : ∀ vs, (backR ρ0 ρ vs).length = ρ.length
  | [] => rfl
  | v :: vs => by
    unfold backR
    split
    · rw [List.length_set, backR_len ρ0 ρ vs]
    · exact backR_len ρ0 ρ vs
theorem backR_out {ρ0 ρ : List (Option Sl)} {j : Nat} : ∀ {vs : List Nat}, j ∉ vs → (backR ρ0 ρ vs)[j]? = ρ[j]?
  | [], _ => rfl
  | v :: vs, h => by
    simp only [List.mem_cons, not_or] at h
    unfold backR
    split
    · rw [List.getElem?_set_ne (Ne.symm h.1), backR_out h.2]
    · exact backR_out h.2
theorem backR_in {ρ0 ρ : List (Option Sl)} {j : Nat} {s : Sl} : ∀ {vs : List Nat}, (backR ρ0 ρ vs)[j]? = some (some s) → (j ∈ vs ∧ ρ0[j]? = some (some s)) ∨ ρ[j]? = some (some s)
  | [], h => .inr h
  | v :: vs, h => by
    unfold backR at h
    split at h
    · rename_i x hx
      rcases set_get h with ⟨e1, e2⟩ | ⟨ne, h⟩
      · subst e1
        exact .inl ⟨List.mem_cons_self .., by rw [hx, e2]⟩
      · exact (backR_in h).imp (fun z => ⟨List.mem_cons_of_mem _ z.1, z.2⟩) id
    · exact (backR_in h).imp (fun z => ⟨List.mem_cons_of_mem _ z.1, z.2⟩) id
theorem plainO_in {own : List Nat} {e : En} {j : Nat} {s : Sl} (h : plainO own e = true) (hj : j ∈ own) (q : e.ρ[j]? = some (some s)) : ∃ d, s = .fz d := by
  have := List.all_eq_true.mp h j hj
  rw [q] at this
  cases s with
  | fz d => exact ⟨d, rfl⟩
  | ow d => cases this
  | bo d => cases this
  | pt d => cases this
end
section
variable {K : KW} {γ γ' : List Addr} {e e1 eL eB ei : En} {σ σ' : L2.St} {H H1 H' : Hp} {Z Z1 : Addr → Prop} {own : List Nat}
theorem wipe_mut {a : Addr} (h : MutA (wipeE own e).ρ (L2.wipe σ own) a) : MutA e.ρ σ a := by
  obtain ⟨j, x, h1, m, h2⟩ := h
  obtain ⟨nj, h3⟩ := wipeR_in h1
  rw [wipe_out' nj] at h2
  exact ⟨j, x, h3, m, h2⟩
theorem wipe_own {a : Addr} (h : OwnA (wipeE own e).ρ (L2.wipe σ own) a) : OwnA e.ρ σ a := by
  obtain ⟨j, x, h1, h2⟩ := h
  obtain ⟨nj, h3⟩ := wipeR_in h1
  rw [wipe_out' nj] at h2
  exact ⟨j, x, h3, h2⟩
theorem Rep.wipe (R : Rep K γ e σ H Z) : Rep K γ (wipeE own e) (L2.wipe σ own) H Z := by
  have st : Stay H H (Hid γ e.ρ σ Z) (Hid γ (wipeE own e).ρ (L2.wipe σ own) Z) := stay_refl fun a o _ z => z.imp wipe_mut id
  refine ⟨by rw [L2.wipe_length, wipeR_len]; exact R.len, fun j x h => ?_, fun j x a h m h2 => ?_, fun j d a h h2 j' x h3 m h4 => ?_, R.cl, R.nd, R.cell, R.cz, R.zt⟩
  · obtain ⟨nj, h3⟩ := wipeR_in h
    obtain ⟨v, hv, ok⟩ := R.slot j x h3
    exact ⟨v, by rw [wipe_out' nj]; exact hv, ok.stay st fun _ _ _ o ho => ho⟩
  · obtain ⟨nj, h3⟩ := wipeR_in h
    rw [wipe_out' nj] at h2
    exact R.mu j x a h3 m h2
  · obtain ⟨nj, g1⟩ := wipeR_in h
    obtain ⟨nj', g3⟩ := wipeR_in h3
    rw [wipe_out' nj] at h2
    rw [wipe_out' nj'] at h4
    exact R.own j d a g1 h2 j' x g3 m h4
/-- what is hidden may change -/
theorem Rep.updZ {p : Addr} {o : HO} (R : Rep K γ e σ H Z) (hp : Z p) : Rep K γ e σ (upd H p o) Z := by
  have st : Stay H (upd H p o) (Hid γ e.ρ σ Z) (Hid γ e.ρ σ Z) := fun a x h n => ⟨by rw [upd_ne (fun (z : a = p) => n (.inr (.inr (by rw [z]; exact hp))))]; exact h, n⟩
  refine ⟨R.len, fun j x h => ?_, R.mu, R.own, R.cl, R.nd, fun k a x y h1 h2 => ?_, R.cz, fun a z => ?_⟩
  · obtain ⟨v, hv, ok⟩ := R.slot j x h
    refine ⟨v, hv, ok.stay st fun a ea m o' ho => ?_⟩
    subst ea
    rw [upd_ne (fun (z : a = p) => (R.mu j x a h m hv).1 (by rw [z]; exact hp))]
    exact ho
  · have ha : a ∈ γ := List.mem_of_getElem? h1
    rw [upd_ne (fun (z : a = p) => R.cz a ha (by rw [z]; exact hp))]
    exact R.cell k a x y h1 h2
  · by_cases c : a = p
    · exact ⟨o, by rw [c]; exact upd_same⟩
    · obtain ⟨o', ho⟩ := R.zt a z
      exact ⟨o', by rw [upd_ne c]; exact ho⟩
/-- the block's end: the own names are back -/
theorem Rep.backE (RL : Rep K γ eL σ H1 Z1) (pl : plainO own eL = true) (R : Rep K γ ei (L2.wipe σ own) H' Z) (hw : ∀ j ∈ own, ∀ s, ei.ρ[j]? ≠ some (some s)) (st : Stay H1 H' (Hid γ eL.ρ σ Z1) (Hid γ ei.ρ (L2.wipe σ own) Z)) :
    Rep K γ { ei with ρ := backR eL.ρ ei.ρ own } σ H' Z ∧ ∀ a, MutA (backR eL.ρ ei.ρ own) σ a → MutA ei.ρ (L2.wipe σ own) a := by
  have gg : ∀ {j : Nat} {x : Sl}, (backR eL.ρ ei.ρ own)[j]? = some (some x) → (j ∈ own ∧ eL.ρ[j]? = some (some x) ∧ x.isMu = false) ∨ (j ∉ own ∧ ei.ρ[j]? = some (some x)) := fun {j x} h => by
    rcases backR_in h with ⟨h1, h2⟩ | h
    · obtain ⟨d, rfl⟩ := plainO_in pl h1 h2
      exact .inl ⟨h1, h2, rfl⟩
    · by_cases c : j ∈ own
      · exact absurd h (hw j c x)
      · exact .inr ⟨c, h⟩
  have mm : ∀ a, MutA (backR eL.ρ ei.ρ own) σ a → MutA ei.ρ (L2.wipe σ own) a := fun a ⟨j, x, h1, m, h2⟩ => by
    rcases gg h1 with ⟨_, _, z⟩ | ⟨nj, h⟩
    · rw [z] at m; cases m
    · exact ⟨j, x, h, m, by rw [wipe_out' nj]; exact h2⟩
  refine ⟨⟨?_, fun j x h => ?_, fun j x a h m h2 => ?_, fun j d a h h2 j' x h3 m h4 => ?_, R.cl, R.nd, R.cell, R.cz, R.zt⟩, mm⟩
  · show σ.length = (backR eL.ρ ei.ρ own).length
    rw [backR_len, ← R.len, L2.wipe_length]
  · have st2 : Stay H' H' (Hid γ ei.ρ (L2.wipe σ own) Z) (Hid γ (backR eL.ρ ei.ρ own) σ Z) := stay_refl fun a o _ z => z.imp (mm a) id
    rcases gg h with ⟨h1, h2, z⟩ | ⟨nj, h⟩
    · obtain ⟨d, rfl⟩ := plainO_in pl h1 h2
      obtain ⟨v, hv, ok⟩ := RL.slot j _ h2
      exact ⟨v, hv, Rp.stay st2 d (Rp.stay st d ok)⟩
    · obtain ⟨v, hv, ok⟩ := R.slot j x h
      rw [wipe_out' nj] at hv
      exact ⟨v, hv, ok.stay st2 fun _ _ _ o ho => ho⟩
  · rcases gg h with ⟨_, _, z⟩ | ⟨nj, h⟩
    · rw [z] at m; cases m
    · exact R.mu j x a h m (by rw [wipe_out' nj]; exact h2)
  · rcases gg h with ⟨_, _, z⟩ | ⟨nj, h⟩
    · cases z
    · rcases gg h3 with ⟨_, _, z⟩ | ⟨nj', h3⟩
      · rw [z] at m; cases m
      · exact R.own j d a h (by rw [wipe_out' nj]; exact h2) j' x h3 m (by rw [wipe_out' nj']; exact h4)
theorem Sh.unlock {lk : Option Nat} (hl : lockable lk e1 = true) (s : Sh (lock1 lk e1) eB) : Sh e1 (unlock1 lk eB) := by
  rcases lock_cases hl with rfl | ⟨i, d, rfl, hi, el⟩
  · exact s
  · rw [el] at s
    have hil := (List.getElem?_eq_some_iff.mp hi).1
    have b1 := s.bo i d (List.getElem?_set_self hil)
    have eu : unlock1 (some i) eB = eB.st i (some (.ow d)) := by
      show (match eB.ρ[i]? with
        | some (some (.bo d)) => eB.st i (some (.ow d))
        | _ => eB) = _
      rw [b1]
    rw [eu]
    have back : ∀ {j : Nat} {x : Sl}, j ≠ i → (e1.st i (some (.bo d))).ρ[j]? = some (some x) → e1.ρ[j]? = some (some x) := fun {j x} ne h => by
      rcases set_get h with ⟨q, _⟩ | ⟨_, h⟩
      · exact absurd q ne
      · exact h
    refine ⟨fun j x h m => ?_, fun j d' h => ?_, fun j d' h => ?_, ?_⟩
    · rcases set_get h with ⟨q, e2⟩ | ⟨ne, h⟩
      · subst q; cases e2; exact ⟨_, hi, rfl, id⟩
      · obtain ⟨y, h1, h2, h3⟩ := s.m j x h m
        exact ⟨y, back ne h1, h2, h3⟩
    · have ne : j ≠ i := fun z => by subst z; rw [hi] at h; cases h
      have := s.bo j d' (by show (e1.ρ.set i _)[j]? = _; rw [List.getElem?_set_ne (Ne.symm ne)]; exact h)
      show (eB.ρ.set i _)[j]? = _
      rw [List.getElem?_set_ne (Ne.symm ne)]
      exact this
    · rcases set_get h with ⟨q, e2⟩ | ⟨ne, h⟩
      · cases e2
      · exact back ne (s.bb j d' h)
    · have := s.ln
      simp only [List.length_set] at this ⊢
      exact this
theorem lock_own {lk : Option Nat} (hl : lockable lk e1 = true) {a : Addr} (h : OwnA (lock1 lk e1).ρ σ a) : OwnA e1.ρ σ a := by
  rcases lock_cases hl with rfl | ⟨j, d, rfl, hj, el⟩
  · exact h
  · rw [el] at h
    obtain ⟨l, x, h1, h2⟩ := h
    rcases set_get h1 with ⟨_, e1⟩ | ⟨ne, h1⟩
    · cases e1
    · exact ⟨l, x, h1, h2⟩
end
end DV
end
section
set_option Elab.async false
set_option linter.all false
set_option maxRecDepth 100000
namespace DV
open PySem PySem.Spec PyProof.Rows L2
section
variable {X : Cx} {K : KW}
theorem tE_lc {own : List Nat} {src : Src} {t : D → M Unit} {c : M Bool} {el : M Rs} {S : List Nat} (hS : ∀ j ∈ S, j ∈ own) : ∀ σ H Q, tE K (lcM own src t c el) σ H Q → tLc (tI K src) (tG K S t) (tT K c) (tE K el) own σ H Q := by
  rintro σ H Q ⟨γ, e, Z, r, e', R, h, k⟩
  obtain ⟨⟨ds, lk⟩, e1, h1, h2⟩ := bnd_eq h
  by_cases hlp : lockable lk e1 = true ∧ plainO own (lock1 lk e1) = true
  case neg => simp only [if_neg hlp] at h2; cases h2
  simp only [if_pos hlp] at h2
  obtain ⟨hl, pl⟩ := hlp
  cases q : lcL own t c el ds (wipeE own (lock1 lk e1)) with
  | none => rw [q] at h2; cases h2
  | some p =>
    obtain ⟨xs, eE⟩ := p
    rw [q] at h2
    cases h2
    refine ⟨γ, e, Z, ds, lk, e1, R, h1, hl, fun J H1 kp sh ⟨Z1, h01, hf, R1, need, P, W, p1, hn⟩ Da hD => ?_⟩
    have RL : Rep K γ (lock1 lk e1) σ H1 Z1 := R1.lock hl
    have pL : P H1 (Hid γ (lock1 lk e1).ρ σ Z1) := W.kp _ _ _ _ p1 (stay_refl fun a o _ z => z.imp (lock_mut hl a).mp id) (W.nd _ _ p1)
    let eL := lock1 lk e1
    let σw := L2.wipe σ own
    let ZD : Addr → Prop := fun a => Z1 a ∨ a = Da
    have tr1 : ∀ a o, H1 a = some o → a ≠ Da := fun a o ha z => by rw [z, hD] at ha; cases ha
    have nZD : ∀ a o, H1 a = some o → ZD a → Z1 a := fun a o ha z => z.resolve_right (tr1 a o ha)
    -- from the walk's start to a later point
    have later : ∀ {ei : En} {H' : Hp}, Kp γ (wipeE own eL).ρ σw H1 H' → Sh (wipeE own eL) ei → Stay H1 H' (Hid γ eL.ρ σ Z1) (Hid γ ei.ρ σw ZD) := fun {ei H'} kp2 sh2 a o ho n => by
      refine ⟨kp2.st a o ho (fun z => n (.inl (wipe_mut z.mu))) fun z => n (.inr (.inl z)), fun z => ?_⟩
      rcases z with z | z | z
      · exact n (.inl (wipe_mut (sh2.mu z)))
      · exact n (.inr (.inl z))
      · exact n (.inr (.inr (nZD a o ho z)))
    have atP : ∀ {ei : En} {H' : Hp}, Kp γ (wipeE own eL).ρ σw H1 H' → Sh (wipeE own eL) ei → P H' (Hid γ ei.ρ σw ZD) := fun {ei H'} kp2 sh2 =>
      W.kp _ _ _ _ pL (later kp2 sh2) fun p hp => kp2.st p.1 p.2 (W.nd _ _ pL p hp) (fun z => (hn p hp).2 (wipe_own z)) (hn p hp).1
    have smD : Same H1 (upd H1 Da (.lst [])) := same_upd hD
    have RwD : Rep K γ (wipeE own eL) σw (upd H1 Da (.lst [])) ZD := RL.wipe.grow smD fun a z => z.imp id fun z => by rw [z]; exact ⟨hD, _, upd_same⟩
    refine ⟨fun i m H' => m + i = ds.length ∧ ∃ ei accV accD rest, Kp γ (wipeE own eL).ρ σw H1 H' ∧ Sh (wipeE own eL) ei ∧ (∀ j ∈ own, ∀ s, ei.ρ[j]? ≠ some (some s)) ∧ Rep K γ ei σw H' ZD ∧ H' Da = some (.lst accV) ∧
      RpL K H' (Hid γ ei.ρ σw ZD) accV accD ∧ accD.length ≤ i ∧ lcL own t c el (ds.drop i) ei = some (rest, eE) ∧ accD ++ rest = xs, ⟨ds.length, rfl, wipeE own eL, [], [], xs, Kp.of_same smD, Sh.refl _, fun j hj s z => (wipeR_in z).1 hj, RwD, upd_same, .nil, Nat.le_refl _, q, rfl⟩, ?_⟩
    rintro i m H' ⟨em, ei, accV, accD, rest, kp2, sh2, hw, R', hacc, racc, hlen, hq, hxs⟩
    by_cases hi : i < ds.length
    · rw [List.drop_eq_getElem_cons hi] at hq
      obtain ⟨u, ea, ht, hq1⟩ := bnd_eq hq
      obtain ⟨b, eb, hc, hq2⟩ := bnd_eq hq1
      refine .inr ⟨W.go i _ _ (atP kp2 sh2) hi, fun H' => ∃ ei accV accD rest, Kp γ (wipeE own eL).ρ σw H1 H' ∧ Sh (wipeE own eL) ei ∧ (∀ j ∈ own, ∀ s, ei.ρ[j]? ≠ some (some s)) ∧ Rep K γ ei σw H' ZD ∧ H' Da = some (.lst accV) ∧
        RpL K H' (Hid γ ei.ρ σw ZD) accV accD ∧ accD.length ≤ i + 1 ∧ lcL own t c el (ds.drop (i + 1)) ei = some (rest, eE) ∧ accD ++ rest = xs, fun H2 hN => ⟨m - 1, by omega, by omega, hN⟩, fun x H2 hy => ?_⟩
      obtain ⟨sm, rp⟩ := W.yl i _ _ x H2 ds[i] (atP kp2 sh2) (fun a ha => Hid.tr R' ha) (List.getElem?_eq_getElem hi) hy
      have Rg : Rep K γ ei σw H2 ZD := R'.grow sm fun a z => .inl z
      refine ⟨γ, ei, ZD, ds[i], ea, Rg, rp, ht, fun σ2 R2 s2 o2 m2 => ?_⟩
      have l2 : σ2.length = σw.length := by rw [R2.len, R'.len, s2.ln]
      have eσ : L2.wipe σ2 own = σw := by
        have l3 : σw.length = σ.length := L2.wipe_length σ own
        refine wipe_eq (l2.trans l3) fun j hj => ?_
        rw [(o2 j fun z => hj (hS j z)).1, wipe_out' hj]
      refine ⟨eσ, γ, ea, ZD, b, eb, R2, hc, fun H3 kp3 sh3 R3 => ?_⟩
      -- what is not the block's own
      have oo : ∀ a, OwnA ea.ρ σ2 a → OwnA ei.ρ σw a := fun a ⟨j, x, h1, h2⟩ => by
        by_cases cj : j ∈ S
        · exact absurd (m2 j cj _ h1 rfl) (hw j (hS j cj) _)
        · obtain ⟨g1, g2⟩ := o2 j cj
          exact ⟨j, x, g2 ▸ h1, g1 ▸ h2⟩
      have kp03 : Kp γ (wipeE own eL).ρ σw H1 H3 := by
        refine kp2.trans sh2 ⟨fun a o ho n g => kp3.st a o (sm a o ho) (fun z => n (oo a z)) g, fun a o ho => kp3.th a o (sm a o ho)⟩
      have shT : ∀ {ez : En}, Sh ea ez → Sh (wipeE own eL) (wipeE own ez) := fun {ez} s => by
        refine sh2.trans ⟨fun j x h m => ?_, fun j d h => ?_, fun j d h => ?_, ?_⟩
        · obtain ⟨nj, h3⟩ := wipeR_in h
          obtain ⟨y, g1, g2, g3⟩ := s.m j x h3 m
          rw [(o2 j fun z => nj (hS j z)).2] at g1
          exact ⟨y, g1, g2, g3⟩
        · have nj : j ∉ own := fun z => hw j z _ h
          show (wipeR ez.ρ own)[j]? = _
          rw [wipeR_out nj]
          exact s.bo j d (by rw [(o2 j fun z => nj (hS j z)).2]; exact h)
        · obtain ⟨nj, h3⟩ := wipeR_in h
          have g := s.bb j d h3
          rw [(o2 j fun z => nj (hS j z)).2] at g
          exact g
        · show (wipeR ez.ρ own).length = _
          rw [wipeR_len, s.ln, s2.ln]
      have wipeN : ∀ (ez : En), ∀ j ∈ own, ∀ s, (wipeE own ez).ρ[j]? ≠ some (some s) := fun ez j hj s z => (wipeR_in z).1 hj
      -- the list so far
      have hD2 : H2 Da = some (.lst accV) := sm _ _ hacc
      have nD : ∀ {ez : En} {H9 : Hp} {σ9 : L2.St}, Rep K γ ez σ9 H9 ZD → ¬ OwnA ez.ρ σ9 Da ∧ Da ∉ γ := fun {ez H9 σ9} Rz => ⟨fun ⟨j, x, h1, h2⟩ => (Rz.mu j _ Da h1 rfl h2).1 (.inr rfl), fun z => Rz.cz Da z (.inr rfl)⟩
      have hD3 : H3 Da = some (.lst accV) := kp3.st _ _ hD2 (nD R2).1 (nD R2).2
      have stA : Stay H' H3 (Hid γ ei.ρ σw ZD) (Hid γ eb.ρ σ2 ZD) := fun a o ho n => by
        refine ⟨kp3.st a o (sm a o ho) (fun z => n (.inl (oo a z).mu)) fun z => n (.inr (.inl z)), fun z => ?_⟩
        rcases z with z | z | z
        · rcases s2.mu a (sh3.mu z) with z | z
          · exact n (.inl z)
          · rw [sm a o ho] at z; cases z
        · exact n (.inr (.inl z))
        · exact n (.inr (.inr z))
      cases b with
      | false =>
        refine iteF ?_
        have hq3 : lcL own t c el (ds.drop (i + 1)) (wipeE own eb) = some (rest, eE) := hq2
        have R4 : Rep K γ (wipeE own eb) (L2.wipe σ2 own) H3 ZD := R3.wipe
        rw [eσ] at R4
        refine ⟨wipeE own eb, accV, accD, rest, kp03, shT sh3, wipeN eb, R4, hD3, (racc.stay stA).stay (stay_refl fun a o _ z => ?_), Nat.le_succ_of_le hlen, hq3, hxs⟩
        refine z.imp (fun z => ?_) id
        rw [← eσ] at z
        exact wipe_mut z
      | true =>
        refine iteT ?_
        have hq3 : bnd el (fun r => bnd (als r) fun y => fun e => (bnd (lcL own t c el (ds.drop (i + 1))) fun ys => ret (y :: ys)) (wipeE own e)) eb = some (rest, eE) := hq2
        obtain ⟨r, ec, he, hq4⟩ := bnd_eq hq3
        obtain ⟨y, ed, ha, hq5⟩ := bnd_eq hq4
        obtain ⟨ys, ef, hg, hq6⟩ := bnd_eq hq5
        cases hq6
        refine ⟨γ, eb, ZD, r, ec, R3, he, fun v H4 kp4 sh4 P4 => ?_⟩
        obtain ⟨Z4, h14, hf4, R4, A4⟩ := P4.one
        obtain ⟨Z5, h05, h54, R5, rpv, sh5⟩ := als_ok ha h14 R4 A4
        have R5' : Rep K γ ed σ2 H4 ZD := R5.down h05
        have hD4 : H4 Da = some (.lst accV) := kp4.st _ _ hD3 (nD R3).1 (nD R3).2
        have hln : accV.length < sizeLine := by
          have := W.ln
          have := racc.length
          omega
        refine ⟨accV, hD4, hln, ?_⟩
        have R6 : Rep K γ ed σ2 (upd H4 Da (.lst (accV ++ [v]))) ZD := R5'.updZ (.inr rfl)
        have R7 : Rep K γ (wipeE own ed) (L2.wipe σ2 own) (upd H4 Da (.lst (accV ++ [v]))) ZD := R6.wipe
        rw [eσ] at R7
        have st6 : Stay H4 (upd H4 Da (.lst (accV ++ [v]))) (Hid γ ed.ρ σ2 ZD) (Hid γ (wipeE own ed).ρ σw ZD) := fun a o ho n => by
          refine ⟨by rw [upd_ne (fun (z : a = Da) => n (.inr (.inr (.inr z))))]; exact ho, fun z => n (z.imp (fun z => ?_) id)⟩
          rw [← eσ] at z
          exact wipe_mut z
        have stB : Stay H3 H4 (Hid γ eb.ρ σ2 ZD) (Hid γ ed.ρ σ2 ZD) := stay_of kp4 (sh4.trans sh5) fun a z => .inl z
        refine ⟨wipeE own ed, accV ++ [v], accD ++ [y], ys, ?_, shT (sh3.trans (sh4.trans sh5)), wipeN ed, R7, upd_same, (((racc.stay stA).stay stB).stay st6).append (.cons (Rp.stay st6 y (Rp.stay (stay_refl fun a o _ z => z.imp id (Or.imp id (h05 a))) y rpv)) .nil), by simp only [List.length_append, List.length_cons, List.length_nil]; omega, hg, by rw [← hxs, List.append_assoc]; rfl⟩
        refine ⟨fun a o ho n g => ?_, fun a o ho => ?_⟩
        · rw [upd_ne (tr1 a o ho)]
          obtain ⟨o3, ho3⟩ := kp03.th a o ho
          have e3 := kp03.st a o ho n g
          refine kp4.st a o e3 (fun z => ?_) g
          have z2 := oo a (sh3.own z)
          exact n (sh2.own z2)
        · by_cases ca : a = Da
          · exact ⟨_, by rw [ca]; exact upd_same⟩
          · rw [upd_ne ca]
            obtain ⟨o3, ho3⟩ := kp03.th a o ho
            exact kp4.th a o3 ho3
    · have e0 : i = ds.length := by omega
      subst e0
      rw [List.drop_length] at hq
      cases hq
      rw [List.append_nil] at hxs
      subst hxs
      refine .inl ⟨W.st _ _ (atP kp2 sh2), ?_⟩
      obtain ⟨RB, mB⟩ := Rep.backE RL pl R' hw (later kp2 sh2)
      have shB : Sh eL { eE with ρ := backR eL.ρ eE.ρ own } := by
        refine ⟨fun j x h m => ?_, fun j d h => ?_, fun j d h => ?_, ?_⟩
        · rcases backR_in h with ⟨_, h2⟩ | h2
          · exact ⟨x, h2, m, id⟩
          · obtain ⟨y, g1, g2, g3⟩ := sh2.m j x h2 m
            exact ⟨y, (wipeR_in g1).2, g2, g3⟩
        · have nj : j ∉ own := fun z => by
            obtain ⟨d', e'⟩ := plainO_in pl z h
            cases e'
          show (backR eL.ρ eE.ρ own)[j]? = _
          rw [backR_out nj]
          exact sh2.bo j d (by show (wipeR eL.ρ own)[j]? = _; rw [wipeR_out nj]; exact h)
        · rcases backR_in h with ⟨_, h2⟩ | h2
          · exact h2
          · exact (wipeR_in (sh2.bb j d h2)).2
        · show (backR eL.ρ eE.ρ own).length = _
          rw [backR_len, sh2.ln, wipeR_len]
      have kpB : Kp γ eL.ρ σ H1 H' := ⟨fun a o ho n g => kp2.st a o ho (fun z => n (wipe_own z)) g, kp2.th⟩
      have sB : Stp γ eL σ H1 γ { eE with ρ := backR eL.ρ eE.ρ own } σ H' := Stp.ev kpB shB
      have RU := Rep.unlock R1 hl sB RB
      have kpU : Kp γ e1.ρ σ H1 H' := ⟨fun a o ho n g => kpB.st a o ho (fun z => n (lock_own hl z)) g, kpB.th⟩
      have um := unlock_mut R1 hl sB
      refine k _ _ (kp.trans sh kpU) (sh.trans (Sh.unlock hl shB)) ⟨ZD, fun a z => .inl (h01 a z), fun a z => ?_, RU, .cons ⟨Da, rfl, .inr rfl, fun z => ?_, .inl ⟨accV, accD, rfl, hacc, racc.stay (stay_refl fun a o _ z => ?_)⟩⟩ .nil⟩
      · rcases z with z | z
        · exact hf a z
        · rw [z]; exact .inr (kp.none hD)
      · obtain ⟨o, ho⟩ := R1.zt Da (h01 Da z)
        rw [hD] at ho; cases ho
      · exact z.imp (fun z => mB a ((um a).mp z)) id
end
end DV
end
section
set_option Elab.async false
set_option linter.all false
set_option maxRecDepth 100000
namespace DV
open PySem PySem.Spec PyProof.Rows L2

/-! ### sources -/
def signs (x : Str) : List D := x.cps.toList.map fun c => .str ⟨#[c]⟩
def seqS1 (r : Rs) (e : En) : Option ((List D × Option Nat) × En) := match r with
  | .fz (.list ds) => some ((ds, none), e)
  | .fz (.tuple ds) => some ((ds, none), e)
  | .fz (.str x) => if x.length ≤ 1000 then some ((signs x, none), e) else none
  | .fr (.list ds) => some ((ds, none), e)
  | .sl i => match e.ρ[i]? with
    | some (some (.ow (.list ds))) => some ((ds, some i), e)
    | some (some (.bo (.list ds))) => some ((ds, none), e)
    | _ => none
  | _ => none
def seqS (f : M Rs) : Src := bnd f fun r => seqS1 r
section
variable {X : Cx} {K : KW}
theorem RpL.yl {H : Hp} {O : Addr → Prop} {xs : List V} {ds : List D} {i : Nat} {x : V} {d : D} (r : RpL K H O xs ds) (hd : ds[i]? = some d) (hx : xs[i]? = some x) : Rp K H O x d := by
  obtain ⟨v, hv, q⟩ := r.get hd
  rw [hx] at hv; cases hv; exact q
/-- a frozen list, a frozen tuple, a list that stands -/
theorem wk_lst {a : Addr} {xs : List V} {ds : List D} (hl : ds.length ≤ sizeLine) : Wk K (Itl K a) ds [] fun H O => SqLo K H O a xs ∧ RpL K H O xs ds where
  go := fun i H O p hi => ⟨xs, xs[i]'(by rw [p.2.length]; exact hi), p.1.sq, List.getElem?_eq_getElem _⟩
  yl := fun i H O x H' d p _ hd ⟨e, hx⟩ => by subst e; exact ⟨Same.refl _, p.2.yl hd (hx xs p.1.sq)⟩
  st := fun H O p => ⟨xs, p.1.sq, Nat.le_of_eq p.2.length⟩
  kp := fun H H' O O' p s _ => ⟨p.1.stay s, p.2.stay s⟩
  nd := fun _ _ _ p hp => by cases hp
  ln := hl
theorem wk_tup {a : Addr} {xs : List V} {ds : List D} (hl : ds.length ≤ sizeLine) : Wk K (Itt K a) ds [] fun H O => SqTo K H O a xs ∧ RpL K H O xs ds where
  go := fun i H O p hi => ⟨xs, xs[i]'(by rw [p.2.length]; exact hi), p.1.sq, List.getElem?_eq_getElem _⟩
  yl := fun i H O x H' d p _ hd ⟨e, hx⟩ => by subst e; exact ⟨Same.refl _, p.2.yl hd (hx xs p.1.sq)⟩
  st := fun H O p => ⟨xs, p.1.sq, Nat.le_of_eq p.2.length⟩
  kp := fun H H' O O' p s _ => ⟨p.1.stay s, p.2.stay s⟩
  nd := fun _ _ _ p hp => by cases hp
  ln := hl
theorem wk_own {a : Addr} {xs : List V} {ds : List D} (hl : ds.length ≤ sizeLine) : Wk K (Itl K a) ds [(a, .lst xs)] fun H O => H a = some (.lst xs) ∧ RpL K H O xs ds where
  go := fun i H O p hi => ⟨xs, xs[i]'(by rw [p.2.length]; exact hi), .of p.1, List.getElem?_eq_getElem _⟩
  yl := fun i H O x H' d p _ hd ⟨e, hx⟩ => by subst e; exact ⟨Same.refl _, p.2.yl hd (hx xs (.of p.1))⟩
  st := fun H O p => ⟨xs, .of p.1, Nat.le_of_eq p.2.length⟩
  kp := fun H H' O O' p s n => ⟨n _ (List.mem_cons_self ..), p.2.stay s⟩
  nd := fun _ _ p q hq => by
    have : q = (a, .lst xs) := by simpa using hq
    subst this; exact p.1
  ln := hl
theorem wk_str {x : Str} (hl : x.length ≤ 1000) : Wk K (Its x) (signs x) [] fun _ _ => True where
  go := fun i H O _ hi => by
    have : i < x.cps.toList.length := by simpa [signs] using hi
    show i < x.cps.size
    simpa using this
  yl := fun i H O v H' d _ _ hd ⟨e, c, hc, ev⟩ => by
    subst e ev
    refine ⟨Same.refl _, ?_⟩
    unfold signs at hd
    rw [List.getElem?_map, Array.getElem?_toList, hc] at hd
    cases hd
    exact .str _
  st := fun H O _ => by show x.cps.size ≤ _; simp [signs]
  kp := fun _ _ _ _ _ _ _ => trivial
  nd := fun _ _ _ p hp => by cases hp
  ln := by
    have : (signs x).length = x.length := by simp [signs, Str.length]
    rw [this, sizeLine_eq]
    omega
theorem di_seq {tg l : Expr} {f : M Rs} (hl : PE X l (tE X.KW f)) : PI X tg l (tI X.KW (seqS f)) := by
  refine ⟨fun pins s σ H R I h => ?_⟩
  obtain ⟨γ, e, Z, ds, lk, e', Rr, hq, hlk, k⟩ := h
  obtain ⟨r, e1, h1, h2⟩ := bnd_eq hq
  -- a list
  have goL : (∀ v H1, Kp γ e.ρ σ H H1 → Sh e e1 → Pst X.KW γ H σ Z e1 [r] [v] H1 → ∃ a xs, v = .ref a ∧ SqL X.KW H1 a xs ∧ xs.length = ds.length ∧ (ds.length ≤ sizeLine → R (Itl X.KW a) H1)) →
      wpAny (model X.prog X.w) X.A (eval l X.env) (fun v s1 => wpAny (model X.prog X.w) X.A (pyIter v) (PIE X pins σ tg R) X.xe s1) X.xe s := fun g => by
    refine thn ((pi_list (tg := tg) hl).run pins s σ H (fun J H' => ∃ a xs, J = Itl X.KW a ∧ SqL X.KW H' a xs ∧ xs.length = ds.length ∧ (ds.length ≤ sizeLine → R J H')) I ?_) fun v s1 hv => thn hv fun itv s2 ⟨it, fp, tn, J, H', ee, I2, T, st, f2, q⟩ => ⟨it, fp, tn, J, H', ee, I2, T, st, f2, ?_⟩
    · refine ⟨γ, e, Z, r, e1, Rr, h1, fun v H1 kp sh P => ?_⟩
      obtain ⟨a, xs, ev, sq, ln, rr⟩ := g v H1 kp sh P
      exact ⟨a, ev, ⟨xs, sq⟩, a, xs, rfl, sq, ln, rr⟩
    · obtain ⟨a, xs, ej, sq, ln, rr⟩ := q
      obtain ⟨_, _, _, hz⟩ := I2.list sq
      exact rr (by omega)
  have goT : (∀ v H1, Kp γ e.ρ σ H H1 → Sh e e1 → Pst X.KW γ H σ Z e1 [r] [v] H1 → ∃ a xs, v = .ref a ∧ SqT X.KW H1 a xs ∧ xs.length = ds.length ∧ (ds.length ≤ sizeLine → R (Itt X.KW a) H1)) →
      wpAny (model X.prog X.w) X.A (eval l X.env) (fun v s1 => wpAny (model X.prog X.w) X.A (pyIter v) (PIE X pins σ tg R) X.xe s1) X.xe s := fun g => by
    refine thn ((pi_tup (tg := tg) hl).run pins s σ H (fun J H' => ∃ a xs, J = Itt X.KW a ∧ SqT X.KW H' a xs ∧ xs.length = ds.length ∧ (ds.length ≤ sizeLine → R J H')) I ?_) fun v s1 hv => thn hv fun itv s2 ⟨it, fp, tn, J, H', ee, I2, T, st, f2, q⟩ => ⟨it, fp, tn, J, H', ee, I2, T, st, f2, ?_⟩
    · refine ⟨γ, e, Z, r, e1, Rr, h1, fun v H1 kp sh P => ?_⟩
      obtain ⟨a, xs, ev, sq, ln, rr⟩ := g v H1 kp sh P
      exact ⟨a, ev, ⟨xs, sq⟩, a, xs, rfl, sq, ln, rr⟩
    · obtain ⟨a, xs, ej, sq, ln, rr⟩ := q
      obtain ⟨_, _, _, hz⟩ := I2.tuple sq
      exact rr (by omega)
  have goS : ∀ x : Str, (∀ v H1, Kp γ e.ρ σ H H1 → Sh e e1 → Pst X.KW γ H σ Z e1 [r] [v] H1 → v = .str x ∧ R (Its x) H1) → wpAny (model X.prog X.w) X.A (eval l X.env) (fun v s1 => wpAny (model X.prog X.w) X.A (pyIter v) (PIE X pins σ tg R) X.xe s1) X.xe s := fun x g =>
    (pi_str (tg := tg) hl).run pins s σ H R I ⟨γ, e, Z, r, e1, Rr, h1, fun v H1 kp sh P => ⟨x, g v H1 kp sh P⟩⟩
  have h2' : seqS1 r e1 = some ((ds, lk), e') := h2
  unfold seqS1 at h2'
  cases r with
  | fz d =>
    cases d with
    | list ds0 =>
      cases h2'
      refine goL fun v H1 kp sh P => ?_
      obtain ⟨Z1, h01, hf, R1, A1⟩ := P.one
      cases A1 with
      | lst q rl => exact ⟨_, _, rfl, q.sq, rl.length, fun hz => k _ H1 kp sh ⟨Z1, h01, hf, R1, [], _, wk_lst hz, ⟨q, rl⟩, fun p hp => by cases hp⟩⟩
    | tuple ds0 =>
      cases h2'
      refine goT fun v H1 kp sh P => ?_
      obtain ⟨Z1, h01, hf, R1, A1⟩ := P.one
      cases A1 with
      | tup q rl => exact ⟨_, _, rfl, q.sq, rl.length, fun hz => k _ H1 kp sh ⟨Z1, h01, hf, R1, [], _, wk_tup hz, ⟨q, rl⟩, fun p hp => by cases hp⟩⟩
    | str x =>
      simp only at h2'
      split at h2'
      · rename_i hz
        cases h2'
        refine goS x fun v H1 kp sh P => ?_
        obtain ⟨Z1, h01, hf, R1, A1⟩ := P.one
        cases A1
        exact ⟨rfl, k _ H1 kp sh ⟨Z1, h01, hf, R1, [], _, wk_str hz, trivial, fun p hp => by cases hp⟩⟩
      · cases h2'
    | _ => cases h2'
  | fr d =>
    cases d with
    | list ds0 =>
      cases h2'
      refine goL fun v H1 kp sh P => ?_
      obtain ⟨Z1, h01, hf, R1, A1⟩ := P.one
      obtain ⟨p, rfl, hp, np, c⟩ := A1
      rcases c with ⟨xs, ds1, e5, q, rl⟩ | ⟨ks, kvs, e5, _⟩ | ⟨ks, kvs, e5, _⟩
      · cases e5
        refine ⟨_, _, rfl, .of q, rl.length, fun hz => k _ H1 kp sh ⟨Z1, h01, hf, R1, _, _, wk_own hz, ⟨q, rl⟩, fun x hx => ?_⟩⟩
        have ex : x = (p, .lst xs) := by simpa using hx
        subst ex
        exact ⟨fun z => R1.cz p z hp, fun ⟨j, d', g1, g2⟩ => (R1.mu j _ p g1 rfl g2).1 hp⟩
      · cases e5
      · cases e5
    | _ => cases h2'
  | sl i =>
    cases q1 : e1.ρ[i]? with
    | none => simp only [q1] at h2'; cases h2'
    | some o =>
      cases o with
      | none => simp only [q1] at h2'; cases h2'
      | some x =>
        cases x with
        | fz d => simp only [q1] at h2'; cases h2'
        | pt d => simp only [q1] at h2'; cases h2'
        | ow d =>
          cases d with
          | list ds0 =>
            simp only [q1] at h2'
            cases h2'
            refine goL fun v H1 kp sh P => ?_
            obtain ⟨Z1, h01, hf, R1, A1⟩ := P.one
            have hv : σ[i]? = some (some v) := A1
            obtain ⟨w, hw, a, rfl, c⟩ := R1.slot i _ q1
            rw [hv] at hw; cases hw
            rcases c with ⟨xs, ds1, e5, q, rl⟩ | ⟨ks, kvs, e5, _⟩ | ⟨ks, kvs, e5, _⟩
            · cases e5
              refine ⟨_, _, rfl, .of q, rl.length, fun hz => k _ H1 kp sh ⟨Z1, h01, hf, R1, _, _, wk_own hz, ⟨q, rl⟩, fun x hx => ?_⟩⟩
              have ex : x = (a, .lst xs) := by simpa using hx
              subst ex
              refine ⟨(R1.mu i _ a q1 rfl hv).2, fun ⟨j, d', g1, g2⟩ => ?_⟩
              rcases lock_cases hlk with z | ⟨i', d2, e6, hi, el⟩
              · cases z
              · cases e6
                rw [el] at g1
                rcases set_get g1 with ⟨_, e7⟩ | ⟨ne, g1⟩
                · cases e7
                · exact ne (R1.own i _ a q1 hv j _ g1 rfl g2)
            · cases e5
            · cases e5
          | _ => simp only [q1] at h2'; cases h2'
        | bo d =>
          cases d with
          | list ds0 =>
            simp only [q1] at h2'
            cases h2'
            refine goL fun v H1 kp sh P => ?_
            obtain ⟨Z1, h01, hf, R1, A1⟩ := P.one
            have hv : σ[i]? = some (some v) := A1
            obtain ⟨w, hw, a, rfl, c⟩ := R1.slot i _ q1
            rw [hv] at hw; cases hw
            rcases c with ⟨xs, ds1, e5, q, rl⟩ | ⟨ks, kvs, e5, _⟩ | ⟨ks, kvs, e5, _⟩
            · cases e5
              refine ⟨_, _, rfl, .of q, rl.length, fun hz => k _ H1 kp sh ⟨Z1, h01, hf, R1, _, _, wk_own hz, ⟨q, rl⟩, fun x hx => ?_⟩⟩
              have ex : x = (a, .lst xs) := by simpa using hx
              subst ex
              refine ⟨(R1.mu i _ a q1 rfl hv).2, fun ⟨j, d', g1, g2⟩ => ?_⟩
              have ei := R1.own j d' a g1 g2 i _ q1 rfl hv
              subst ei
              have g1' : e'.ρ[i]? = some (some (.ow d')) := g1
              rw [q1] at g1'; cases g1'
            · cases e5
            · cases e5
          | _ => simp only [q1] at h2'; cases h2'
/-- range(n), range(a, b) -/
def rngL (lo : Int) (n : Nat) : List D := (List.range n).map fun k : Nat => PyData.int (lo + k)
def rngS (fs : M (List Rs)) : Src := bnd fs fun rs => fun e => match rdAll e rs with
  | some [.int j] => if -(2 ^ 62) ≤ j ∧ j ≤ 1000000 then some ((rngL 0 j.toNat, none), e) else none
  | some [.int i, .int j] => if (-(2 ^ 62) ≤ i ∧ i < 2 ^ 62 ∧ -(2 ^ 62) ≤ j ∧ j < 2 ^ 62) ∧ j - i ≤ 1000000 then some ((rngL i (j - i).toNat, none), e) else none
  | _ => none
theorem wk_rng {lo : Int} {n : Nat} (hl : n ≤ 1000000) : Wk K (Itr lo n) (rngL lo n) [] fun _ _ => True where
  go := fun i H O _ hi => by show i < n; simpa [rngL] using hi
  yl := fun i H O x H' d _ _ hd ⟨e, hx⟩ => by
    subst e hx
    refine ⟨Same.refl _, ?_⟩
    unfold rngL at hd
    rw [List.getElem?_map] at hd
    cases q : (List.range n)[i]? with
    | none => rw [q] at hd; cases hd
    | some j =>
      rw [q] at hd
      have hj : i < n := by
        rcases Nat.lt_or_ge i n with c | c
        · exact c
        · rw [List.getElem?_eq_none (by simpa using c)] at q; cases q
      rw [List.getElem?_range hj] at q
      cases q
      cases hd
      exact .int _
  st := fun H O _ => by show n ≤ (rngL lo n).length; simp [rngL]
  kp := fun _ _ _ _ _ _ _ => trivial
  nd := fun _ _ _ p hp => by cases hp
  ln := by
    have : (rngL lo n).length = n := by simp [rngL]
    rw [this, sizeLine_eq]
    omega
theorem RpR.int {H : Hp} {O : Addr → Prop} {x : V} {i : Int} (h : RpR K H O x (.int i)) : x = .int i := by
  rcases h with h | ⟨a, _, ⟨_, _, e, _⟩ | ⟨_, _, e, _⟩ | ⟨_, _, e, _⟩⟩
  · cases h; rfl
  · cases e
  · cases e
  · cases e
theorem rngS_eq {fs : M (List Rs)} {e e' : En} {ds : List D} {lk : Option Nat} (h : rngS fs e = some ((ds, lk), e')) : ∃ rs, fs e = some (rs, e') ∧ lk = none ∧ ((∃ j : Int, rdAll e' rs = some [.int j] ∧ (-(2 ^ 62) ≤ j ∧ j ≤ 1000000) ∧ ds = rngL 0 j.toNat) ∨
    ∃ i j : Int, rdAll e' rs = some [.int i, .int j] ∧ ((-(2 ^ 62) ≤ i ∧ i < 2 ^ 62 ∧ -(2 ^ 62) ≤ j ∧ j < 2 ^ 62) ∧ j - i ≤ 1000000) ∧ ds = rngL i (j - i).toNat) := by
  obtain ⟨rs, e1, h1, h2⟩ := bnd_eq h
  split at h2
  · rename_i j q
    by_cases c : -(2 ^ 62) ≤ j ∧ j ≤ 1000000
    · rw [if_pos c] at h2; cases h2; exact ⟨rs, h1, rfl, .inl ⟨j, q, c, rfl⟩⟩
    · rw [if_neg c] at h2; cases h2
  · rename_i i j q
    by_cases c : (-(2 ^ 62) ≤ i ∧ i < 2 ^ 62 ∧ -(2 ^ 62) ≤ j ∧ j < 2 ^ 62) ∧ j - i ≤ 1000000
    · rw [if_pos c] at h2; cases h2; exact ⟨rs, h1, rfl, .inr ⟨i, j, q, c, rfl⟩⟩
    · rw [if_neg c] at h2; cases h2
  · cases h2
theorem ints1 {H : Hp} {O : Addr → Prop} {vs : List V} {j : Int} (h : All2 (RpR K H O) vs [.int j]) : vs = [.int j] := by
  cases h with
  | cons a t => cases t; rw [a.int]
theorem ints2 {H : Hp} {O : Addr → Prop} {vs : List V} {i j : Int} (h : All2 (RpR K H O) vs [.int i, .int j]) : vs = [.int i, .int j] := by
  cases h with
  | cons a t =>
    cases t with
    | cons b t => cases t; rw [a.int, b.int]
theorem All2.len1 {α β : Type} {R : α → β → Prop} {as : List α} {b : β} (h : All2 R as [b]) : ∃ a, as = [a] := by
  cases h with
  | cons _ t => cases t; exact ⟨_, rfl⟩
theorem di_rng1 {tg a : Expr} {fs : M (List Rs)} {p pos : Pos} (hm : X.mg "range" = none) (ha : PA X [a] (tA X.KW fs)) (hg : Gl X "range" := by rfl) (hs : starEach [a] X.env = [(false, eval a X.env)] := by rfl) : PI X tg (.Call (.Name "range" p) [a] [] pos) (tI X.KW (bnd fs fun rs => if rs.length = 1 then rngS (ret rs) else noM)) :=
  PI.weak (pi_range1 hg hm ha hs) (by
  rintro σ H R ⟨γ, e, Z, ds, lk, e', Rr, hq0, hlk, k⟩
  obtain ⟨rs0, e1, h1, h2⟩ := bnd_eq hq0
  by_cases c1 : rs0.length = 1
  case neg => simp only [if_neg c1] at h2; cases h2
  simp only [if_pos c1] at h2
  obtain ⟨rs, hr, rfl, h3⟩ := rngS_eq h2
  cases hr
  refine ⟨γ, e, Z, rs0, e', Rr, h1, fun vs H1 kp sh P => ?_⟩
  obtain ⟨Z1, h01, hf, R1, A1⟩ := P
  rcases h3 with ⟨j, q, ⟨c2, c3⟩, rfl⟩ | ⟨i, j, q, _⟩
  · have ev := ints1 (rd_all R1 A1 q)
    exact ⟨j, ev, c2, by omega, k _ H1 kp sh ⟨Z1, h01, hf, R1, [], _, wk_rng (by omega), trivial, fun p hp => by cases hp⟩⟩
  · have := (rd_all R1 A1 q).length
    have := A1.length
    simp at *
    omega)
theorem di_rng2 {tg a b : Expr} {fs : M (List Rs)} {p pos : Pos} (hm : X.mg "range" = none) (ha : PA X [a, b] (tA X.KW fs)) (hg : Gl X "range" := by rfl) (hs : starEach [a, b] X.env = [(false, eval a X.env), (false, eval b X.env)] := by rfl) (hs2 : starEach [b] X.env = [(false, eval b X.env)] := by rfl) : PI X tg (.Call (.Name "range" p) [a, b] [] pos) (tI X.KW (bnd fs fun rs => if rs.length = 2 then rngS (ret rs) else noM)) :=
  PI.weak (pi_range2 hg hm ha hs hs2) (by
  rintro σ H R ⟨γ, e, Z, ds, lk, e', Rr, hq0, hlk, k⟩
  obtain ⟨rs0, e1, h1, h2⟩ := bnd_eq hq0
  by_cases c1 : rs0.length = 2
  case neg => simp only [if_neg c1] at h2; cases h2
  simp only [if_pos c1] at h2
  obtain ⟨rs, hr, rfl, h3⟩ := rngS_eq h2
  cases hr
  refine ⟨γ, e, Z, rs0, e', Rr, h1, fun vs H1 kp sh P => ?_⟩
  obtain ⟨Z1, h01, hf, R1, A1⟩ := P
  rcases h3 with ⟨j, q, _⟩ | ⟨i, j, q, ⟨c2, c3⟩, rfl⟩
  · have := (rd_all R1 A1 q).length
    have := A1.length
    simp at *
    omega
  · have ev := ints2 (rd_all R1 A1 q)
    exact ⟨i, j, ev, c2, k _ H1 kp sh ⟨Z1, h01, hf, R1, [], _, wk_rng (by omega), trivial, fun p hp => by cases hp⟩⟩)
end
end DV
end
section
set_option Elab.async false
set_option linter.all false
set_option maxRecDepth 100000
namespace DV
open PySem PySem.Spec PyProof.Rows L2

/-! ### tests -/
def tst1 (r : Rs) : M Bool := match r with
  | .fz (.bool b) => ret b
  | _ => noM
def tstM (f : M Rs) : M Bool := bnd f tst1
def andM (a b : M Bool) : M Bool := iteM a b (ret false)
def orM (a b : M Bool) : M Bool := iteM a (ret true) b
def notM (a : M Bool) : M Bool := bnd a fun b => ret !b
/-- a test as a value -/
def blM (a : M Bool) : M Rs := bnd a fun b => ret (.fz (.bool b))
section
variable {X : Cx} {K : KW} {a b c : Expr} {pos : Pos}
theorem tst1_eq {r : Rs} {e e' : En} {b : Bool} (h : tst1 r e = some (b, e')) : r = .fz (.bool b) ∧ e' = e := by
  unfold tst1 at h
  split at h
  · cases h; exact ⟨rfl, rfl⟩
  · cases h
theorem tT_tst {f : M Rs} : ∀ σ H Q, tT K (tstM f) σ H Q → tE K f σ H fun x H1 => ∃ c, x = .bl c ∧ Q c H1 := by
  rintro σ H Q ⟨γ, e, Z, b, e', R, h, k⟩
  obtain ⟨r, e1, h1, h2⟩ := bnd_eq h
  obtain ⟨rfl, rfl⟩ := tst1_eq h2
  refine ⟨γ, e, Z, _, e', R, h1, fun v H' kp sh P => ?_⟩
  have R1 := P.rep
  obtain ⟨Z1, h01, hf, _, A1⟩ := P.one
  have hv : v = .bl b := by cases A1; rfl
  exact ⟨b, hv, k H' kp sh R1⟩
theorem dt_val {f : M Rs} (h : PE X a (tE X.KW f)) (he : ∀ whole, isTrue a X.env whole = (do let v ← whole; standAt a.pos; holding [v] (truthy v)) := by intro _; rfl) : PT X a (tT X.KW (tstM f)) := PT.weak (pt_val h he) tT_tst
theorem dt_no : PT X a (tT X.KW noM) := ⟨fun _ _ _ _ _ _ h => by obtain ⟨_, _, _, _, _, _, q, _⟩ := h; cases q⟩
theorem tT_ite {c f g : M Bool} {P : Bool → TT} (ht : ∀ σ H Q, tT K f σ H Q → P true σ H Q) (hf : ∀ σ H Q, tT K g σ H Q → P false σ H Q) : ∀ σ H Q, tT K (iteM c f g) σ H Q → tT K c σ H fun b H1 => P b σ H1 Q := by
  rintro σ H Q ⟨γ, e, Z, b, e', R, h, k⟩
  obtain ⟨b1, e1, h1, h2⟩ := bnd_eq h
  refine ⟨γ, e, Z, b1, e1, R, h1, fun H1 kp sh R1 => ?_⟩
  have kk : ∀ H', Kp γ e1.ρ σ H1 H' → Sh e1 e' → Rep K γ e' σ H' Z → Q b H' := fun H' kp2 sh2 R2 => k H' (kp.trans sh kp2) (sh.trans sh2) R2
  cases b1 with
  | true => exact ht _ _ _ ⟨γ, e1, Z, b, e', R1, by simpa using h2, kk⟩
  | false => exact hf _ _ _ ⟨γ, e1, Z, b, e', R1, by simpa using h2, kk⟩
theorem tT_ret {b : Bool} : ∀ σ H Q, tT K (ret b) σ H Q → Q b H := by
  rintro σ H Q ⟨γ, e, Z, b, e', R, h, k⟩
  cases h
  exact k H (Kp.refl H) (Sh.refl e) R
theorem tT_and {f g : M Bool} : ∀ σ H Q, tT K (andM f g) σ H Q → tAnd (tT K f) (tT K g) σ H Q := fun σ H Q h =>
  tT_ite (P := fun b σ H Q => if b = true then tT K g σ H Q else Q false H) (fun σ H Q h => by rw [if_pos rfl]; exact h) (fun σ H Q h => by rw [if_neg Bool.false_ne_true]; exact tT_ret σ H Q h) σ H Q h
theorem tT_or {f g : M Bool} : ∀ σ H Q, tT K (orM f g) σ H Q → tOr (tT K f) (tT K g) σ H Q := fun σ H Q h =>
  tT_ite (P := fun b σ H Q => if b = true then Q true H else tT K g σ H Q) (fun σ H Q h => by rw [if_pos rfl]; exact tT_ret σ H Q h) (fun σ H Q h => by rw [if_neg Bool.false_ne_true]; exact h) σ H Q h
theorem tT_not {f : M Bool} : ∀ σ H Q, tT K (notM f) σ H Q → tNot (tT K f) σ H Q := by
  rintro σ H Q ⟨γ, e, Z, b, e', R, h, k⟩
  obtain ⟨b1, e1, h1, h2⟩ := bnd_eq h
  cases h2
  exact ⟨γ, e, Z, b1, e', R, h1, fun H1 kp sh R1 => k H1 kp sh R1⟩
theorem dw_and1 {f : M Bool} (ha : PT X a (tT X.KW f)) : PW X (.BoolOp .And [a] pos) (tT X.KW f) := pw_and1 ha
theorem dw_or1 {f : M Bool} (ha : PT X a (tT X.KW f)) : PW X (.BoolOp .Or [a] pos) (tT X.KW f) := pw_or1 ha
theorem dw_and {f g : M Bool} {rest : List Expr} (ha : PT X a (tT X.KW f)) (hb : PW X (.BoolOp .And (b :: rest) pos) (tT X.KW g)) : PW X (.BoolOp .And (a :: b :: rest) pos) (tT X.KW (andM f g)) := PW.weak (pw_and ha hb) tT_and
theorem dw_or {f g : M Bool} {rest : List Expr} (ha : PT X a (tT X.KW f)) (hb : PW X (.BoolOp .Or (b :: rest) pos) (tT X.KW g)) : PW X (.BoolOp .Or (a :: b :: rest) pos) (tT X.KW (orM f g)) := PW.weak (pw_or ha hb) tT_or
theorem dt_not {f : M Bool} (ha : PT X a (tT X.KW f)) : PT X (.UnaryOp .Not a pos) (tT X.KW (notM f)) := PT.weak (pt_not ha) tT_not
/-- as values -/
theorem tE_bl {f : M Rs} : ∀ σ H Q, tE K (blM (tstM f)) σ H Q → tE K f σ H Q := by
  rintro σ H Q ⟨γ, e, Z, r, e', R, h, k⟩
  obtain ⟨b, e1, h1, h2⟩ := bnd_eq h
  cases h2
  obtain ⟨r1, e2, h3, h4⟩ := bnd_eq h1
  obtain ⟨rfl, rfl⟩ := tst1_eq h4
  exact ⟨γ, e, Z, _, e', R, h3, k⟩
/-- a bool's value, then on -/
theorem tE_test {f : M Bool} {fv : M Rs} {g : Bool → M Rs} (hv : ∀ σ H Q, tE K (blM f) σ H Q → tE K fv σ H Q) : ∀ σ H Q, tE K (bnd f g) σ H Q → tE K fv σ H fun x H1 => ∃ c, x = .bl c ∧ tE K (g c) σ H1 Q := by
  rintro σ H Q ⟨γ, e, Z, r, e', R, h, k⟩
  obtain ⟨b, e1, h1, h2⟩ := bnd_eq h
  refine hv _ _ _ ⟨γ, e, Z, .fz (.bool b), e1, R, by unfold blM bnd; rw [h1]; rfl, fun v H1 kp sh P => ?_⟩
  have R1 := P.rep
  obtain ⟨Z1, h01, hf, _, A1⟩ := P.one
  have hv : v = .bl b := by cases A1; rfl
  refine ⟨b, hv, γ, e1, Z, r, e', R1, h2, fun v H' kp2 sh2 P2 => k v H' (kp.trans sh kp2) (sh.trans sh2) ?_⟩
  exact Pst.next (rs0 := []) (xs0 := []) kp (fun _ z => z) (fun _ z => .inl z) P2
theorem tE_fz {v : V} {d : D} (h : ∀ H O, Rp K H O v d) : ∀ σ H Q, tE K (ret (.fz d)) σ H Q → Q v H := tE_const h
def andV (f g : M Rs) : M Rs := bnd (tstM f) fun b => if b = true then g else ret (.fz (.bool false))
def orV (f g : M Rs) : M Rs := bnd (tstM f) fun b => if b = true then ret (.fz (.bool true)) else g
theorem de_and {f g : M Rs} {rest : List Expr} (ha : PE X a (tE X.KW f)) (hb : PE X (.BoolOp .And (b :: rest) pos) (tE X.KW g)) : PE X (.BoolOp .And (a :: b :: rest) pos) (tE X.KW (andV f g)) := PE.weak (pe_and ha hb) fun σ H Q h => by
  have := tE_test (K := X.KW) (fv := f) (fun σ H Q => tE_bl σ H Q) σ H Q h
  obtain ⟨γ, e, Z, r, e', R, h1, k⟩ := this
  refine ⟨γ, e, Z, r, e', R, h1, fun v H' kp sh P => ?_⟩
  obtain ⟨c, e1, q⟩ := k v H' kp sh P
  refine ⟨c, e1, ?_⟩
  cases c with
  | true => rw [if_pos rfl]; exact q
  | false => rw [if_neg Bool.false_ne_true]; exact tE_fz (fun _ _ => .bl false) _ _ _ q
theorem de_or {f g : M Rs} {rest : List Expr} (ha : PE X a (tE X.KW f)) (hb : PE X (.BoolOp .Or (b :: rest) pos) (tE X.KW g)) : PE X (.BoolOp .Or (a :: b :: rest) pos) (tE X.KW (orV f g)) := PE.weak (pe_or ha hb) fun σ H Q h => by
  have := tE_test (K := X.KW) (fv := f) (fun σ H Q => tE_bl σ H Q) σ H Q h
  obtain ⟨γ, e, Z, r, e', R, h1, k⟩ := this
  refine ⟨γ, e, Z, r, e', R, h1, fun v H' kp sh P => ?_⟩
  obtain ⟨c, e1, q⟩ := k v H' kp sh P
  refine ⟨c, e1, ?_⟩
  cases c with
  | true => rw [if_pos rfl]; exact tE_fz (fun _ _ => .bl true) _ _ _ q
  | false => rw [if_neg Bool.false_ne_true]; exact q
theorem de_one {op : BoolOp} {f : M Rs} (h : PE X a (tE X.KW f)) : PE X (.BoolOp op [a] pos) (tE X.KW f) := pe_one h
theorem de_not {f : M Rs} (ha : PE X a (tE X.KW f)) : PE X (.UnaryOp .Not a pos) (tE X.KW (blM (notM (tstM f)))) := PE.weak (pe_not ha) fun σ H Q h => by
  obtain ⟨γ, e, Z, r, e', R, h, k⟩ := h
  obtain ⟨b, e1, h1, h2⟩ := bnd_eq h
  cases h2
  obtain ⟨b1, e2, h3, h4⟩ := bnd_eq h1
  cases h4
  obtain ⟨r1, e3, h5, h6⟩ := bnd_eq h3
  obtain ⟨rfl, rfl⟩ := tst1_eq h6
  refine ⟨γ, e, Z, _, e', R, h5, fun v H1 kp sh P => ?_⟩
  have R1 := P.rep
  obtain ⟨Z1, h01, hf, _, A1⟩ := P.one
  have hv : v = .bl b1 := by cases A1; rfl
  exact ⟨b1, hv, k _ H1 kp sh ⟨Z, fun _ z => z, fun _ z => .inl z, R1, .cons (.bl _) .nil⟩⟩
/-- a if c else b -/
theorem de_if {tc : M Bool} {f g : M Rs} (hc : PT X c (tT X.KW tc)) (ha : PE X a (tE X.KW f)) (hb : PE X b (tE X.KW g)) : PE X (.IfExp c a b pos) (tE X.KW (iteM tc f g)) := PE.weak (pe_ifExp hc ha hb) fun σ H Q h => by
  obtain ⟨γ, e, Z, r, e', R, h, k⟩ := h
  obtain ⟨b, e1, h1, h2⟩ := bnd_eq h
  refine ⟨γ, e, Z, b, e1, R, h1, fun H1 kp sh R1 => ?_⟩
  have kk : ∀ v H', Kp γ e1.ρ σ H1 H' → Sh e1 e' → Pst X.KW γ H1 σ Z e' [r] [v] H' → Q v H' := fun v H' kp2 sh2 P2 => k v H' (kp.trans sh kp2) (sh.trans sh2) (Pst.next (rs0 := []) (xs0 := []) kp (fun _ z => z) (fun _ z => .inl z) P2)
  cases b with
  | true => exact iteT ⟨γ, e1, Z, r, e', R1, by simpa using h2, kk⟩
  | false => exact iteF ⟨γ, e1, Z, r, e', R1, by simpa using h2, kk⟩

/-! ### comparisons, operators -/
theorem de_cmp {op : CmpOp} {r : R2} {g : D → D → Option Rs} {f1 f2 : M Rs} (o : Op2 X.KW r g) (ho : OpR X (compareOp op) r) (ha : PE X a (tE X.KW f1)) (hb : PE X b (tE X.KW f2)) (hm : behindInMarks op b = false := by first | exact nomark _ (by decide) (by decide) | with_unfolding_all rfl) : PE X (.Compare a [op] [b] pos) (tE X.KW (op2 g f1 f2)) :=
  PE.weak (pe_cmpR ho ha hb hm) (tE_op2 o)
theorem dt_cmp {op : CmpOp} {r : R2} {g : D → D → Option Rs} {f1 f2 : M Rs} (o : Op2 X.KW r g) (ho : OpR X (compareOp op) r) (ha : PE X a (tE X.KW f1)) (hb : PE X b (tE X.KW f2)) (hm : behindInMarks op b = false := by first | exact nomark _ (by decide) (by decide) | with_unfolding_all rfl) : PT X (.Compare a [op] [b] pos) (tT X.KW (tstM (op2 g f1 f2))) :=
  PT.weak (pt_cmpR ho ha hb hm) fun σ H Q h => tE_op2 o σ H _ (tT_tst σ H Q h)
theorem de_op {op : Operator} {r : R2} {g : D → D → Option Rs} {f1 f2 : M Rs} (o : Op2 X.KW r g) (ho : OpR X (binaryOp op) r) (ha : PE X a (tE X.KW f1)) (hb : PE X b (tE X.KW f2)) : PE X (.BinOp a op b pos) (tE X.KW (op2 g f1 f2)) := PE.weak (pe_op ho ha hb) (tE_op2 o)
theorem de_un {op : UnaryOp} {r : V → Hp → VK → Prop} {g : D → Option Rs} {f1 : M Rs} (o : Op1 X.KW r g) (ho : UnR X (unaryOp op) r) (ha : PE X a (tE X.KW f1)) : PE X (.UnaryOp op a pos) (tE X.KW (op1 g f1)) := PE.weak (pe_un ho ha) (tE_op1 o)
theorem Op2.or {r r' : R2} {g g' : D → D → Option Rs} (h : Op2 K r g) (h' : Op2 K r' g') : Op2 K (fun x y H Q => r x y H Q ∨ r' x y H Q) (fun x y => (g x y).orElse fun _ => g' x y) := fun H O x y dx dy res Q tr rx ry q k => by
  cases c : g dx dy with
  | some z =>
    simp only [c, Option.orElse_some, Option.some.injEq] at q
    subst q
    exact .inl (h H O x y dx dy z Q tr rx ry c k)
  | none =>
    simp only [c, Option.orElse_none] at q
    exact .inr (h' H O x y dx dy res Q tr rx ry q k)

/-! ### comprehensions -/
theorem de_lc {elt tg iter : Expr} {ifs : List Expr} {scope : Scope} {own : List (Str × Nat)} {src : Src} {t : D → M Unit} {tc : M Bool} {el : M Rs} {S : List Nat} (hi : PI X tg iter (tI X.KW src)) (hN : X.N.Nodup) (ok : BlkOk X.N X.env.scope scope own)
    (hg : ∀ (s : Shared) (H : Hp) (C : Addr) (cl : List (Str × Addr)) (fp : List Addr), PG (X.blk s H scope (compEnvC scope cl C X.env) fp) tg (tG X.KW S t)) (ht : ∀ (s : Shared) (H : Hp) (C : Addr) (cl : List (Str × Addr)) (fp : List Addr), PTs (X.blk s H scope (compEnvC scope cl C X.env) fp) ifs (tT X.KW tc))
    (he : ∀ (s : Shared) (H : Hp) (C : Addr) (cl : List (Str × Addr)) (fp : List Addr), PE (X.blk s H scope (compEnvC scope cl C X.env) fp) elt (tE X.KW el)) (hS : ∀ j ∈ S, j ∈ own.map (·.2) := by decide) (hc : X.calm = true := by rfl) (hs : ∀ x, foldedSetIterable iter X.env x = pure x := by intro _; rfl) :
    PE X (.ListComp elt [⟨tg, iter, ifs, 0⟩] scope pos) (tE X.KW (lcM (own.map (·.2)) src t tc el)) := PE.weak (pe_lc hc hN hi ok hg ht he hs) (tE_lc hS)
theorem tS_set {i : Nat} {f : M Rs} : ∀ D σ H, tS K (setM i f) D σ H → tAsg (tE K f) (gName i) D σ H := by
  rintro D σ H ⟨γ, e, Z, fl, e', R, h, k⟩
  obtain ⟨r, e1, h1, h2⟩ := bnd_eq h
  obtain ⟨u, e2, h3, h4⟩ := bnd_eq h2
  cases h4
  refine ⟨γ, e, Z, r, e1, R, h1, fun v H1 kp sh P => ?_⟩
  obtain ⟨Z1, h01, hf, R1, A1⟩ := P.one
  obtain ⟨R2, s2⟩ := asg_ok h3 h01 hf (Stp.ev kp sh) R1 A1
  exact k γ _ H1 s2 R2
theorem ds_setLc {i : Nat} {y : Str} {py : Pos} {elt tg iter : Expr} {ifs : List Expr} {scope : Scope} {own : List (Str × Nat)} {spos : Pos} {src : Src} {t : D → M Unit} {tc : M Bool} {el : M Rs} {S : List Nat} (hi : PI X tg iter (tI X.KW src)) (hN : X.N.Nodup) (ok : BlkOk X.N X.env.scope scope own)
    (hg : ∀ (s : Shared) (H : Hp) (C : Addr) (cl : List (Str × Addr)) (fp : List Addr), PG (X.blk s H scope (compEnvC scope cl C X.env) fp) tg (tG X.KW S t)) (ht : ∀ (s : Shared) (H : Hp) (C : Addr) (cl : List (Str × Addr)) (fp : List Addr), PTs (X.blk s H scope (compEnvC scope cl C X.env) fp) ifs (tT X.KW tc))
    (he : ∀ (s : Shared) (H : Hp) (C : Addr) (cl : List (Str × Addr)) (fp : List Addr), PE (X.blk s H scope (compEnvC scope cl C X.env) fp) elt (tE X.KW el)) (hy : X.N[i]? = some y := by rfl) (hS : ∀ j ∈ S, j ∈ own.map (·.2) := by decide) (hyl : X.env.scope.names.lookup y = some .local := by rfl)
    (hsw : swapsWith (.ListComp elt [⟨tg, iter, ifs, 0⟩] scope pos) (some (.Name y py)) spos.line X.env = pure true := by exact sw_true rfl rfl rfl rfl) (hc : X.calm = true := by rfl) (hs : ∀ x, foldedSetIterable iter X.env x = pure x := by intro _; rfl) :
    PS X (.Assign [.Name y py] (.ListComp elt [⟨tg, iter, ifs, 0⟩] scope pos) spos) (tS X.KW (setM i (lcM (own.map (·.2)) src t tc el))) := PS.weak (ps_setLc hc hN hy hyl hsw hi ok hg ht he hs) fun D σ H h => by
  obtain ⟨γ, e, Z, r, e', R, h1, k⟩ := tS_set D σ H h
  exact tE_lc hS σ H _ ⟨γ, e, Z, r, e', R, h1, k⟩
theorem dts_nil : PTs X [] (tT X.KW (ret true)) := ⟨fun pins s σ H Q I h => pts_nil.run pins s σ H Q I (tT_ret σ H Q h)⟩
theorem dts_one {f : M Bool} (h : PT X c (tT X.KW f)) : PTs X [c] (tT X.KW f) := pts_one h
end
end DV
end
section
set_option Elab.async false
set_option linter.all false
set_option maxRecDepth 100000
namespace DV
open PySem PySem.Spec PyProof.Rows L2

/-! ### what is read: words -/
section
variable {K : KW} {H : Hp} {O : Addr → Prop}
theorem RpR.str {v : V} {x : Str} (h : RpR K H O v (.str x)) : v = .str x := by
  rcases h with h | ⟨a, _, ⟨_, _, e, _⟩ | ⟨_, _, e, _⟩ | ⟨_, _, e, _⟩⟩
  · cases h; rfl
  · cases e
  · cases e
  · cases e
theorem RpR.bl {v : V} {x : Bool} (h : RpR K H O v (.bool x)) : v = .bl x := by
  rcases h with h | ⟨a, _, ⟨_, _, e, _⟩ | ⟨_, _, e, _⟩ | ⟨_, _, e, _⟩⟩
  · cases h; rfl
  · cases e
  · cases e
  · cases e
theorem RpR.non {v : V} (h : RpR K H O v .none) : v = .non := by
  rcases h with h | ⟨a, _, ⟨_, _, e, _⟩ | ⟨_, _, e, _⟩ | ⟨_, _, e, _⟩⟩
  · cases h; rfl
  · cases e
  · cases e
  · cases e
theorem RpR.lst {v : V} {ds : List D} (h : RpR K H O v (.list ds)) : ∃ a xs, v = .ref a ∧ SqL K H a xs ∧ RpL K H O xs ds := by
  rcases h with h | ⟨a, rfl, ⟨xs, ds', e, q, r⟩ | ⟨_, _, e, _⟩ | ⟨_, _, e, _⟩⟩
  · cases h with
    | lst q r => exact ⟨_, _, rfl, q.sq, r⟩
  · cases e; exact ⟨_, _, rfl, .of q, r⟩
  · cases e
  · cases e
theorem RpR.tup {v : V} {ds : List D} (h : RpR K H O v (.tuple ds)) : ∃ a xs, v = .ref a ∧ SqTo K H O a xs ∧ RpL K H O xs ds := by
  rcases h with h | ⟨a, rfl, ⟨_, _, e, _⟩ | ⟨_, _, e, _⟩ | ⟨_, _, e, _⟩⟩
  · cases h with
    | tup q r => exact ⟨_, _, rfl, q, r⟩
  · cases e
  · cases e
  · cases e
theorem RpR.dct {v : V} {kvs : List (D × D)} (h : RpR K H O v (.dict kvs)) (hs : smpK kvs = true) : ∃ a ks, v = .ref a ∧ H a = some (.dK ks) ∧ RpE K H O ks kvs := by
  rcases h with h | ⟨a, rfl, ⟨_, _, e, _⟩ | ⟨ks, kvs', e, q, r⟩ | ⟨ks, kvs', e, q, n, k, r⟩⟩
  · cases h with
    | dct q n r => exact ⟨_, _, rfl, q, r⟩
    | dcn q n e k r => rw [r.smp e] at hs; cases hs
  · cases e
  · cases e; exact ⟨_, _, rfl, q, r⟩
  · cases e; rw [r.smp n] at hs; cases hs
mutual
theorem Rp.dp : ∀ {v : V} (d : D), d.canLay0 = true → Rp K H O v d → Dp K H v d
  | _, .none, _, h => by cases h; exact .non
  | _, .bool _, _, h => by cases h; exact .bl _
  | _, .int _, _, h => by cases h; exact .int _
  | _, .str _, _, h => by cases h; exact .str _
  | _, .list ds, c, h => by
    cases h with
    | lst q r => exact .lst q.sq (RpL.dp ds (by simpa [PyData.canLay0] using c) r)
  | _, .tuple ds, c, h => by
    cases h with
    | tup q r => exact .tup q.sq (RpL.dp ds (by simpa [PyData.canLay0] using c) r)
  | _, .dict kvs, c, h => by simp [PyData.canLay0] at c
theorem RpL.dp : ∀ {vs : List V} (ds : List D), PyData.canLayAll0 ds = true → RpL K H O vs ds → DpAll K H vs ds
  | _, [], _, h => by cases h; exact .nil
  | _, d :: ds, c, h => by
    cases h with
    | cons q r =>
      simp only [PyData.canLayAll0, Bool.and_eq_true] at c
      exact .cons (Rp.dp d c.1 q) (RpL.dp ds c.2 r)
end
theorem RpR.dp {v : V} {d : D} (c : d.canLay0 = true) (h : RpR K H O v d) : Dp K H v d := by
  rcases h with h | ⟨a, rfl, ⟨xs, ds, e, q, r⟩ | ⟨_, _, e, _⟩ | ⟨_, _, e, _⟩⟩
  · exact h.dp d c
  · subst e; exact .lst (.of q) (RpL.dp ds (by simpa [PyData.canLay0] using c) r)
  · subst e; simp [PyData.canLay0] at c
  · subst e; simp [PyData.canLay0] at c
theorem RpR.shp {v : V} {d : D} (c : SeqAt.shaped d = true) (h : RpR K H O v d) : Dp K H v d := h.dp (SeqAt.canLay_of_shaped c)
theorem RpR.of_item {v : V} {d : D} (h : Rp K H O v d) : RpR K H O v d := .inl h
theorem RpL.atI {xs : List V} {ds : List D} {i : Int} {d : D} (r : RpL K H O xs ds) (h : L2.atI ds i = some d) : ∃ v, L2.atI xs i = some v ∧ Rp K H O v d := by
  unfold L2.atI at h ⊢
  rw [r.length]
  cases q : ixN ds.length i with
  | none => rw [q] at h; cases h
  | some j => rw [q] at h; exact r.get h
end
def boolR (b : Bool) : Option Rs := some (.fz (.bool b))
def intR (i : Int) : Option Rs := some (.fz (.int i))
def strR (x : Str) : Option Rs := some (.fz (.str x))
/-- keys -/
def dKey : D → Option L2.Key
  | .int i => some (.inl i)
  | .str x => some (.inr x)
  | _ => none
theorem dKey_keyD (k : L2.Key) : dKey (keyD k) = some k := by cases k <;> rfl
theorem dKey_eq {d : D} {k : L2.Key} (h : dKey d = some k) : d = keyD k := by
  unfold dKey at h
  split at h <;> cases h <;> rfl
/-- what stands under a key -/
def getK (k : L2.Key) : List (D × D) → Option D
  | [] => none
  | p :: r => if dKey p.1 = some k then some p.2 else getK k r
def putD (k : L2.Key) (v : D) (kvs : List (D × D)) : List (D × D) := if (getK k kvs).isSome = true then kvs.map (fun p => if dKey p.1 = some k then (p.1, v) else p) else kvs ++ [(keyD k, v)]
section
variable {K : KW} {H : Hp} {O : Addr → Prop}
theorem RpE.get (k : L2.Key) : ∀ {ks : List (L2.Key × V)} {kvs : List (D × D)}, RpE K H O ks kvs → (valV ks k = none ∧ getK k kvs = none) ∨ ∃ v d, valV ks k = some v ∧ getK k kvs = some d ∧ Rp K H O v d
  | _, _, .nil => .inl ⟨rfl, rfl⟩
  | _, _, .cons (k := k') (v := v) (d := d) r t => by
    by_cases e : k' = k
    · refine .inr ⟨v, d, valV_pos e, ?_, r⟩
      unfold getK; rw [if_pos (by rw [dKey_keyD, e])]
    · have e2 : ¬ dKey (keyD k') = some k := by rw [dKey_keyD]; exact fun z => e (Option.some.inj z)
      rcases RpE.get k t with ⟨h1, h2⟩ | ⟨v', d', h1, h2, h3⟩
      · refine .inl ⟨(valV_neg e).trans h1, ?_⟩
        unfold getK; rw [if_neg e2]; exact h2
      · refine .inr ⟨v', d', (valV_neg e).trans h1, ?_, h3⟩
        unfold getK; rw [if_neg e2]; exact h2
theorem RpE.map_put {k : L2.Key} {v : V} {d : D} (rv : Rp K H O v d) : ∀ {ks : List (L2.Key × V)} {kvs : List (D × D)}, RpE K H O ks kvs → RpE K H O (ks.map fun kv => if kv.1 = k then (kv.1, v) else kv) (kvs.map fun p => if dKey p.1 = some k then (p.1, d) else p)
  | _, _, .nil => .nil
  | _, _, .cons (k := k') r t => by
    rw [List.map_cons, List.map_cons]
    by_cases e : k' = k
    · rw [if_pos e, if_pos (by show dKey (keyD k') = _; rw [dKey_keyD, e])]
      exact .cons rv (RpE.map_put rv t)
    · rw [if_neg e, if_neg (by show ¬ dKey (keyD k') = _; rw [dKey_keyD]; exact fun z => e (Option.some.inj z))]
      exact .cons r (RpE.map_put rv t)
theorem RpE.put {ks : List (L2.Key × V)} {kvs : List (D × D)} {k : L2.Key} {v : V} {d : D} (r : RpE K H O ks kvs) (rv : Rp K H O v d) : RpE K H O (putK ks k v) (putD k d kvs) := by
  have e : (ks.any fun kv => decide (kv.1 = k)) = (getK k kvs).isSome := by
    rw [valV_any]
    rcases r.get k with ⟨h1, h2⟩ | ⟨v', d', h1, h2, _⟩
    · rw [h1, h2]; rfl
    · rw [h1, h2]; rfl
  unfold putK putD
  rw [e]
  by_cases c : (getK k kvs).isSome = true
  · rw [if_pos c, if_pos c]; exact r.map_put rv
  · rw [if_neg c, if_neg c]; exact r.append (.cons rv .nil)
theorem RpR.key {v : V} {d : D} {k : L2.Key} (h : RpR K H O v d) (e : dKey d = some k) : v = kV k := by
  cases k with
  | inl i => have := dKey_eq e; subst this; exact h.int
  | inr i => have := dKey_eq e; subst this; exact h.str
end

/-! ### == != -/
def eqG (x y : D) : Option Rs := if SeqAt.shaped x = true ∧ SeqAt.shaped y = true then boolR (PyData.eqv x y) else none
def neG (x y : D) : Option Rs := if SeqAt.shaped x = true ∧ SeqAt.shaped y = true then boolR (!PyData.eqv x y) else none
section
variable {X : Cx} {K : KW}
theorem o_eq : Op2 K (rEqD K) eqG := fun H O x y dx dy res Q tr rx ry q k => by
  unfold eqG at q
  split at q
  · rename_i c
    cases q
    exact ⟨dx, dy, rx.shp c.1, ry.shp c.2, c.1, c.2, k _ H (.same (.bl _))⟩
  · cases q
theorem o_ne : Op2 K (rNeD K) neG := fun H O x y dx dy res Q tr rx ry q k => by
  unfold neG at q
  split at q
  · rename_i c
    cases q
    exact ⟨dx, dy, rx.shp c.1, ry.shp c.2, c.1, c.2, k _ H (.same (.bl _))⟩
  · cases q

/-! ### in, not in -/
def rInK : R2 := fun y x H Q => ∃ a kvs k, x = .ref a ∧ H a = some (.dK kvs) ∧ y = kV k ∧ Q (.bl (valV kvs k).isSome) H
def rNotInK : R2 := fun y x H Q => ∃ a kvs k, x = .ref a ∧ H a = some (.dK kvs) ∧ y = kV k ∧ Q (.bl (!(valV kvs k).isSome)) H
theorem op_inK (hu : X.A.units + 65 < cLine) : OpR X (compareOp .In) rInK := by
  intro pins s σ H x y v u Q I rx ry h
  obtain ⟨a, kvs, k, rfl, e, rfl, q⟩ := h
  cases ry
  exact d_in (by omega) I (.k e) rx fun s' I' => ⟨.bl _, H, I', rfl, q⟩
theorem op_notInK (hu : X.A.units + 65 < cLine) : OpR X (compareOp .NotIn) rNotInK := by
  intro pins s σ H x y v u Q I rx ry h
  obtain ⟨a, kvs, k, rfl, e, rfl, q⟩ := h
  cases ry
  exact d_notIn (by omega) I (.k e) rx fun s' I' => ⟨.bl _, H, I', rfl, q⟩
def rInS : R2 := fun x y H Q => ∃ i j, x = .str i ∧ y = .str j ∧ Q (.bl (!(Builtin.Str.occurrences j i 0 j.length 1).isEmpty)) H
def rNotInS : R2 := fun x y H Q => ∃ i j, x = .str i ∧ y = .str j ∧ Q (.bl (!(!(Builtin.Str.occurrences j i 0 j.length 1).isEmpty))) H
/-- in a tuple -/
def rInT (K : KW) (neg : Bool) : R2 := fun x y H Q => ∃ d ds, Dp K H x d ∧ Dp K H y (.tuple ds) ∧ SeqAt.shaped d = true ∧ SeqAt.shaped (.tuple ds) = true ∧ Q (.bl (neg != ds.any fun z => PyData.eqv z d)) H
theorem op_inT2 (hu : X.A.units + 65 < cLine) : OpR X (compareOp .In) (rInT X.KW false) := by
  rintro pins s σ H x y v u Q I rx ry ⟨d, ds, hd, he, sd, se, q⟩
  obtain ⟨as, r1⟩ := Dp.reads I d x v hd rx
  obtain ⟨bs, r2⟩ := Dp.reads I (.tuple ds) y u he ry
  exact SeqAt.in_tuple_reads r2 r1 (SeqAt.canLay_of_shaped se) (SeqAt.canLay_of_shaped sd) (room_in_shaped sd hu) (fin_bl I q (by cases ds.any _ <;> rfl))
theorem op_notInT2 (hu : X.A.units + 65 < cLine) : OpR X (compareOp .NotIn) (rInT X.KW true) := by
  rintro pins s σ H x y v u Q I rx ry ⟨d, ds, hd, he, sd, se, q⟩
  obtain ⟨as, r1⟩ := Dp.reads I d x v hd rx
  obtain ⟨bs, r2⟩ := Dp.reads I (.tuple ds) y u he ry
  exact SeqAt.notIn_tuple_reads r2 r1 (SeqAt.canLay_of_shaped se) (SeqAt.canLay_of_shaped sd) (room_in_shaped sd hu) (fin_bl I q (by cases ds.any _ <;> rfl))
def rInA (K : KW) : R2 := fun x y H Q => rInS x y H Q ∨ rInD K x y H Q ∨ rInK x y H Q ∨ rInT K false x y H Q
def rNotInA (K : KW) : R2 := fun x y H Q => rNotInS x y H Q ∨ rNotInD K x y H Q ∨ rNotInK x y H Q ∨ rInT K true x y H Q
theorem op_inA (hu : X.A.units + 65 < cLine) : OpR X (compareOp .In) (rInA X.KW) := op_in_str.or ((op_inD hu).or ((op_inK hu).or (op_inT2 hu)))
theorem op_notInA (hu : X.A.units + 65 < cLine) : OpR X (compareOp .NotIn) (rNotInA X.KW) := op_notin_str.or ((op_notInD hu).or ((op_notInK hu).or (op_notInT2 hu)))
def isIn (x y : D) : Option Bool := match x, y with
  | .str i, .str j => some (!(Builtin.Str.occurrences j i 0 j.length 1).isEmpty)
  | d, .list ds => if SeqAt.shaped d = true ∧ SeqAt.shaped (.list ds) = true then some (ds.any fun z => PyData.eqv z d) else none
  | d, .dict kvs => match dKey d with
    | some k => if smpK kvs = true then some (getK k kvs).isSome else none
    | none => none
  | d, .tuple ds => if SeqAt.shaped d = true ∧ SeqAt.shaped (.tuple ds) = true then some (ds.any fun z => PyData.eqv z d) else none
  | _, _ => none
def inG (x y : D) : Option Rs := (isIn x y).bind boolR
def notInG (x y : D) : Option Rs := (isIn x y).bind fun b => boolR !b
theorem isIn_cases {x y : D} {b : Bool} (h : isIn x y = some b) : (∃ i j, x = .str i ∧ y = .str j ∧ b = (!(Builtin.Str.occurrences j i 0 j.length 1).isEmpty)) ∨ (∃ ds, y = .list ds ∧ SeqAt.shaped x = true ∧ SeqAt.shaped (.list ds) = true ∧ b = ds.any fun z => PyData.eqv z x) ∨
    (∃ kvs k, y = .dict kvs ∧ dKey x = some k ∧ smpK kvs = true ∧ b = (getK k kvs).isSome) ∨ ∃ ds, y = .tuple ds ∧ SeqAt.shaped x = true ∧ SeqAt.shaped (.tuple ds) = true ∧ b = ds.any fun z => PyData.eqv z x := by
  unfold isIn at h
  split at h
  · cases h; exact .inl ⟨_, _, rfl, rfl, rfl⟩
  · split at h
    · rename_i c; cases h; exact .inr (.inl ⟨_, rfl, c.1, c.2, rfl⟩)
    · cases h
  · split at h
    · rename_i k hk
      split at h
      · rename_i hs; cases h; exact .inr (.inr (.inl ⟨_, k, rfl, hk, hs, rfl⟩))
      · cases h
    · cases h
  · split at h
    · rename_i c; cases h; exact .inr (.inr (.inr ⟨_, rfl, c.1, c.2, rfl⟩))
    · cases h
  · cases h
theorem o_in : Op2 K (rInA K) inG := fun H O x y dx dy res Q tr rx ry q k => by
  obtain ⟨b, hb, q2⟩ := Option.bind_eq_some_iff.mp q
  cases q2
  rcases isIn_cases hb with ⟨i, j, rfl, rfl, rfl⟩ | ⟨ds, rfl, c1, c2, rfl⟩ | ⟨kvs, key, rfl, hk, hs, rfl⟩ | ⟨ds, rfl, c1, c2, rfl⟩
  · exact .inl ⟨i, j, rx.str, ry.str, k _ H (.same (.bl _))⟩
  · exact .inr (.inl ⟨dx, ds, rx.shp c1, ry.shp c2, c1, c2, k _ H (.same (.bl _))⟩)
  · obtain ⟨a, ks, rfl, e, r⟩ := ry.dct hs
    refine .inr (.inr (.inl ⟨a, ks, key, rfl, e, rx.key hk, ?_⟩))
    rcases r.get key with ⟨h1, h2⟩ | ⟨v', d', h1, h2, _⟩
    · rw [h1]; rw [h2] at k; exact k _ H (.same (.bl _))
    · rw [h1]; rw [h2] at k; exact k _ H (.same (.bl _))
  · exact .inr (.inr (.inr ⟨dx, ds, rx.shp c1, ry.shp c2, c1, c2, k _ H (.same (by cases ds.any _ <;> exact .bl _))⟩))
theorem o_notIn : Op2 K (rNotInA K) notInG := fun H O x y dx dy res Q tr rx ry q k => by
  obtain ⟨b, hb, q2⟩ := Option.bind_eq_some_iff.mp q
  cases q2
  rcases isIn_cases hb with ⟨i, j, rfl, rfl, rfl⟩ | ⟨ds, rfl, c1, c2, rfl⟩ | ⟨kvs, key, rfl, hk, hs, rfl⟩ | ⟨ds, rfl, c1, c2, rfl⟩
  · exact .inl ⟨i, j, rx.str, ry.str, k _ H (.same (.bl _))⟩
  · exact .inr (.inl ⟨dx, ds, rx.shp c1, ry.shp c2, c1, c2, k _ H (.same (.bl _))⟩)
  · obtain ⟨a, ks, rfl, e, r⟩ := ry.dct hs
    refine .inr (.inr (.inl ⟨a, ks, key, rfl, e, rx.key hk, ?_⟩))
    rcases r.get key with ⟨h1, h2⟩ | ⟨v', d', h1, h2, _⟩
    · rw [h1]; rw [h2] at k; exact k _ H (.same (.bl _))
    · rw [h1]; rw [h2] at k; exact k _ H (.same (.bl _))
  · exact .inr (.inr (.inr ⟨dx, ds, rx.shp c1, ry.shp c2, c1, c2, k _ H (.same (by cases ds.any _ <;> exact .bl _))⟩))

/-! ### < -/
def rLtI : R2 := rI0 fun i j => .bl (decide (i < j))
def rLtD (K : KW) : R2 := fun x y H Q => ∃ d e, Dp K H x d ∧ Dp K H y e ∧ SeqAt.shaped d = true ∧ PySem.W.alike d e = true ∧ d ≠ .none ∧ Q (.bl (PySem.W.dataLt d e)) H
theorem op_ltD (hu : X.A.units + 65 < cLine) : OpR X (compareOp .Lt) (rLtD X.KW) := by
  intro pins s σ H x y v u Q I rx ry h
  obtain ⟨d, e, hd, he, sd, al, hn, q⟩ := h
  obtain ⟨as, r1⟩ := Dp.reads I d x v hd rx
  obtain ⟨bs, r2⟩ := Dp.reads I e y u he ry
  exact PySem.W.lt_data r1 r2 al hn (SeqAt.room_of_shaped sd (by omega)) ⟨.bl _, H, I, rfl, q⟩
def isNoneD : D → Bool
  | .none => true
  | _ => false
def ltG (x y : D) : Option Rs := match x, y with
  | .int i, .int j => boolR (decide (i < j))
  | x, y => if SeqAt.shaped x = true ∧ SeqAt.shaped y = true ∧ PySem.W.alike x y = true ∧ isNoneD x = false then boolR (PySem.W.dataLt x y) else none
def rLtA (K : KW) : R2 := fun x y H Q => rLtI x y H Q ∨ rLtD K x y H Q
theorem op_ltA (hu : X.A.units + 65 < cLine) : OpR X (compareOp .Lt) (rLtA X.KW) := op_lt.or (op_ltD hu)
theorem o_lt : Op2 K (rLtA K) ltG := fun H O x y dx dy res Q tr rx ry q k => by
  unfold ltG at q
  split at q
  · cases q; exact .inl ⟨_, _, rx.int, ry.int, k _ H (.same (.bl _))⟩
  · split at q
    · rename_i c
      cases q
      refine .inr ⟨_, _, rx.shp c.1, ry.shp c.2.1, c.1, c.2.2.1, fun e => ?_, k _ H (.same (.bl _))⟩
      have := c.2.2.2
      rw [e] at this
      cases this
    · cases q
def cmpG (f : Int → Int → Bool) (x y : D) : Option Rs := match x, y with
  | .int i, .int j => boolR (f i j)
  | _, _ => none
theorem o_cmp {f : Int → Int → Bool} : Op2 K (rI0 fun i j => .bl (f i j)) (cmpG f) := fun H O x y dx dy res Q tr rx ry q k => by
  unfold cmpG at q
  split at q
  · cases q; exact ⟨_, _, rx.int, ry.int, k _ H (.same (.bl _))⟩
  · cases q
def leG := cmpG fun i j => decide (i ≤ j)
def gtG := cmpG fun i j => decide (j < i)
def geG := cmpG fun i j => decide (j ≤ i)
/-- is None -/
def isG (x y : D) : Option Rs := if isNoneD y = true then boolR (isNoneD x) else none
def isntG (x y : D) : Option Rs := if isNoneD y = true then boolR (!isNoneD x) else none
theorem isNone_eq {d : D} (h : isNoneD d = true) : d = .none := by
  cases d <;> first | rfl | cases h
theorem RpR.isNone {H : Hp} {O : Addr → Prop} {v : V} {d : D} (h : RpR K H O v d) : decide (v = .non) = isNoneD d := by
  rcases h with h | ⟨a, rfl, ⟨_, _, e, _⟩ | ⟨_, _, e, _⟩ | ⟨_, _, e, _⟩⟩
  · cases h <;> rfl
  · subst e; rfl
  · subst e; rfl
  · subst e; rfl
theorem o_is : Op2 K (fun x y H Q => y = .non ∧ Q (.bl (decide (x = .non))) H) isG := fun H O x y dx dy res Q tr rx ry q k => by
  unfold isG at q
  split at q
  · rename_i c
    cases q
    have := isNone_eq c
    subst this
    exact ⟨ry.non, by rw [rx.isNone]; exact k _ H (.same (.bl _))⟩
  · cases q
theorem o_isnt : Op2 K (fun x y H Q => y = .non ∧ Q (.bl (!decide (x = .non))) H) isntG := fun H O x y dx dy res Q tr rx ry q k => by
  unfold isntG at q
  split at q
  · rename_i c
    cases q
    have := isNone_eq c
    subst this
    exact ⟨ry.non, by rw [rx.isNone]; exact k _ H (.same (.bl _))⟩
  · cases q
end
end DV
end
section
set_option Elab.async false
set_option linter.all false
set_option maxRecDepth 100000
namespace DV
open PySem PySem.Spec PyProof.Rows L2
/-! ### arithmetic, + of lists and tuples, subscripts, slices -/
section
variable {X : Cx} {K : KW}
def rCatL (K : KW) : R2 := fun x y H Q => ∃ l b xs zs, x = .ref l ∧ y = .ref b ∧ SqL K H l xs ∧ SqL K H b zs ∧ xs.length + zs.length ≤ sizeLine ∧ ∀ p, H p = none → Q (.ref p) (upd H p (.lst (xs ++ zs)))
theorem op_catL : OpR X (binaryOp .Add) (rCatL X.KW) := by
  intro pins s σ H x y v u Q I rx ry h
  obtain ⟨l, b, xs, zs, rfl, rfl, hH, hB, hz, q⟩ := h
  cases rx
  cases ry
  obtain ⟨its, r, p, z⟩ := I.list hH
  obtain ⟨its2, r2, p2, z2⟩ := I.list hB
  obtain ⟨⟨cls, dd, data, sl⟩, ho, hc, n, hd⟩ := id p.isList
  obtain ⟨⟨cls2, dd2, data2, sl2⟩, ho2, hc2, n2, hd2⟩ := id p2.isList
  simp only at hc hd hc2 hd2
  subst hc hd hc2 hd2
  have hl := r.length
  have hl2 := r2.length
  refine concat_meets ⟨_, ho, rfl⟩ ⟨_, ho2, rfl⟩ noFill_list_add seq_list_add PySem.F.slot_list_add PySem.F.entry_list_add (PySem.F.args_list_add_2 _ _) (list_addW l b its.toArray its2.toArray n n2 dd dd2 sl sl2 (by rw [List.size_toArray, List.size_toArray]; omega)) ⟨ho, ho2, ?_⟩
  have ea : its.toArray ++ its2.toArray = (its ++ its2).toArray := by simp
  rw [ea]
  exact ⟨.ref _, _, I.lnew (t' := s.toks) (r.append r2) (by rw [List.length_append]; omega), rfl, q _ I.fresh⟩
def rAddS : R2 := fun x y H Q => ∃ i j, x = .str i ∧ y = .str j ∧ i.length + j.length ≤ sizeLine ∧ Q (.str (i ++ j)) H
def rAddA (K : KW) : R2 := fun x y H Q => (rI0 fun i j => .int (i + j)) x y H Q ∨ rAddS x y H Q ∨ rCatL K x y H Q ∨ rCatZ K x y H Q
theorem op_addA : OpR X (binaryOp .Add) (rAddA X.KW) := op_add.or (op_add_str.or (op_catL.or op_catZ))
def addG (x y : D) : Option Rs := match x, y with
  | .int i, .int j => intR (i + j)
  | .str i, .str j => if i.length + j.length ≤ 100000 then strR (i ++ j) else none
  | .list xs, .list ys => if xs.length + ys.length ≤ 100000 then some (.fr (.list (xs ++ ys))) else none
  | .tuple xs, .tuple ys => if xs.length + ys.length ≤ 100000 then some (.fz (.tuple (xs ++ ys))) else none
  | _, _ => none
theorem le100000 {n : Nat} (h : n ≤ 100000) : n ≤ sizeLine := by rw [sizeLine_eq]; omega
theorem o_add : Op2 K (rAddA K) addG := fun H O x y dx dy res Q tr rx ry q k => by
  unfold addG at q
  split at q
  · cases q; exact .inl ⟨_, _, rx.int, ry.int, k _ H (.same (.int _))⟩
  · split at q
    · rename_i c; cases q; exact .inr (.inl ⟨_, _, rx.str, ry.str, le100000 c, k _ H (.same (.str _))⟩)
    · cases q
  · split at q
    · rename_i c
      cases q
      obtain ⟨a, xs, rfl, sq, r⟩ := rx.lst
      obtain ⟨b, ys, rfl, sq2, r2⟩ := ry.lst
      exact .inr (.inr (.inl ⟨a, b, xs, ys, rfl, rfl, sq, sq2, by rw [r.length, r2.length]; exact le100000 c, fun p hp => k _ _ (.lst (Same.refl H) hp (r.append r2))⟩))
    · cases q
  · split at q
    · rename_i c
      cases q
      obtain ⟨a, xs, rfl, sq, r⟩ := rx.tup
      obtain ⟨b, ys, rfl, sq2, r2⟩ := ry.tup
      refine .inr (.inr (.inr ⟨a, b, xs, ys, rfl, rfl, sq.sq, sq2.sq, by rw [r.length, r2.length]; exact le100000 c, fun e => ?_, fun _ e => ?_, fun _ _ p o hp hd => k _ _ (.tup (Same.refl H) hp hd (r.append r2))⟩))
      · subst e
        cases r
        exact k _ H (.same (.tup sq2 r2))
      · subst e
        cases r2
        rw [List.append_nil] at k
        exact k _ H (.same (.tup sq r))
    · cases q
  · cases q
def intG (f : Int → Int → Option Int) (x y : D) : Option Rs := match x, y with
  | .int i, .int j => (f i j).bind intR
  | _, _ => none
theorem o_int {C : Int → Int → Prop} {g : Int → Int → Int} {f : Int → Int → Option Int} (hf : ∀ i j r, f i j = some r → C i j ∧ r = g i j) : Op2 K (rI C fun i j => .int (g i j)) (intG f) := fun H O x y dx dy res Q tr rx ry q k => by
  unfold intG at q
  split at q
  · obtain ⟨r, hr, q2⟩ := Option.bind_eq_some_iff.mp q
    cases q2
    obtain ⟨h1, rfl⟩ := hf _ _ _ hr
    exact ⟨_, _, rx.int, ry.int, h1, k _ H (.same (.int _))⟩
  · cases q
theorem o_int0 {g : Int → Int → Int} : Op2 K (rI0 fun i j => .int (g i j)) (intG fun i j => some (g i j)) := fun H O x y dx dy res Q tr rx ry q k => by
  unfold intG at q
  split at q
  · cases q; exact ⟨_, _, rx.int, ry.int, k _ H (.same (.int _))⟩
  · cases q
def subG := intG fun i j => some (i - j)
def mulF (i j : Int) : Option Int := if (-(2 ^ 64) < i ∧ i < 2 ^ 64) ∨ (-(2 ^ 64) < j ∧ j < 2 ^ 64) then some (i * j) else none
def fdivF (i j : Int) : Option Int := if 0 < j ∧ j < 1073741824 then some (i / j) else none
def modF (i j : Int) : Option Int := if 0 < j then some (i % j) else none
def powF (i j : Int) : Option Int := if 0 ≤ j ∧ j ≤ 1000000 ∧ i.natAbs < 2 ^ 64 then some (i ^ j.toNat) else none
theorem o_sub : Op2 K (rI0 fun i j => .int (i - j)) subG := o_int0
theorem o_fdiv : Op2 K (rI CDiv fun i j => .int (i / j)) (intG fdivF) := o_int fun i j r h => by
  unfold fdivF at h
  split at h
  · rename_i c; cases h; exact ⟨c, rfl⟩
  · cases h
theorem o_mod : Op2 K (rI (fun _ j => 0 < j) fun i j => .int (i % j)) (intG modF) := o_int fun i j r h => by
  unfold modF at h
  split at h
  · rename_i c; cases h; exact ⟨c, rfl⟩
  · cases h
theorem o_pow : Op2 K (rI CPow fun i j => .int (i ^ j.toNat)) (intG powF) := o_int fun i j r h => by
  unfold powF at h
  split at h
  · rename_i c; cases h; exact ⟨c, rfl⟩
  · cases h
/-- int * int, list * int -/
def rMulA (K : KW) : R2 := fun x y H Q => (rI CMul fun i j => .int (i * j)) x y H Q ∨ rRep x y H Q ∨ rRepZ K x y H Q
theorem op_mulA : OpR X (binaryOp .Mult) (rMulA X.KW) := op_mul.or (op_rep.or op_repZ)
def repD (n : Nat) (xs : List D) : List D := (List.replicate n xs).flatten
/-- [..] * k: of a list just made, or of a slot's own -/
def mulG (x y : D) : Option Rs := match x, y with
  | .int i, .int j => (mulF i j).bind intR
  | .tuple xs, .int k => if xs.isEmpty = false ∧ 2 ≤ k ∧ k ≤ 1000 ∧ xs.length ≤ 1000 then some (.fz (.tuple (repD k.toNat xs))) else none
  | _, _ => none
theorem RpL.repM {H : Hp} {O : Addr → Prop} {xs : List V} {ds : List D} (r : RpL K H O xs ds) : ∀ n : Nat, RpL K H O (List.replicate n xs).flatten (List.replicate n ds).flatten
  | 0 => .nil
  | n + 1 => by
    rw [List.replicate_succ, List.replicate_succ, List.flatten_cons, List.flatten_cons]
    exact r.append (RpL.repM r n)
theorem o_mul : Op2 K (rMulA K) mulG := fun H O x y dx dy res Q tr rx ry q k => by
  unfold mulG at q
  split at q
  · obtain ⟨r, hr, q2⟩ := Option.bind_eq_some_iff.mp q
    cases q2
    unfold mulF at hr
    split at hr
    · rename_i c; cases hr; exact .inl ⟨_, _, rx.int, ry.int, c, k _ H (.same (.int _))⟩
    · cases hr
  · split at q
    · rename_i c
      cases q
      obtain ⟨a, xs, rfl, sq, r⟩ := rx.tup
      have ey := ry.int
      subst ey
      refine .inr (.inr ⟨a, _, xs, rfl, rfl, sq.sq, fun e => ?_, c.2.1, c.2.2.1, by rw [r.length]; exact c.2.2.2, fun p o hp hd => k _ _ (.tup (Same.refl H) hp hd (r.repM _))⟩)
      subst e
      cases r
      exact absurd c.1 (by decide)
    · cases q
  · cases q
def negG (x : D) : Option Rs := match x with
  | .int i => intR (-i)
  | _ => none
theorem o_neg : Op1 K (rU fun i => .int (-i)) negG := fun H O x d res Q tr rx q k => by
  unfold negG at q
  split at q
  · cases q; exact ⟨_, rx.int, k _ H (.same (.int _))⟩
  · cases q

/-! ### subscripts -/
def rIxK : R2 := fun x y H Q => ∃ a kvs k v, x = .ref a ∧ H a = some (.dK kvs) ∧ y = kV k ∧ valV kvs k = some v ∧ Q v H
theorem ix_key (hu : X.A.units + 65 < cLine) : IxR X rIxK := by
  intro value slice pins s σ H x y v u Q I rx ry h hs
  obtain ⟨a, kvs, k, w, rfl, e, rfl, hv, q⟩ := h
  cases rx
  have g : DGet H a (kV k) (some w) := hv ▸ .k e
  exact tail_any (dict_typeIs I g) PySem.F.slot_dict_getitem.lookup (d_getItem (by omega) I g ry fun w' s3 I3 rw' => ⟨w, H, I3, rw', q⟩) hs
def rIxA (K : KW) : R2 := fun x y H Q => rIx K x y H Q ∨ rIxK x y H Q
theorem ix_all (hu : X.A.units + 65 < cLine) : IxR X (rIxA X.KW) := ix_seq.or (ix_key hu)
def ixG (x y : D) : Option Rs := match x, y with
  | .list ds, .int i => (atI ds i).map .fz
  | .tuple ds, .int i => (atI ds i).map .fz
  | .str z, .int i => if z.length ≤ 100000 then (atI z.cps.toList i).map fun c => .fz (.str ⟨#[c]⟩) else none
  | .dict kvs, d => match dKey d with
    | some k => if smpK kvs = true then (getK k kvs).map .fz else none
    | none => none
  | _, _ => none
theorem o_ix : Op2 K (rIxA K) ixG := fun H O x y dx dy res Q tr rx ry q k => by
  unfold ixG at q
  split at q
  · obtain ⟨d, hd, rfl⟩ := Option.map_eq_some_iff.mp q
    obtain ⟨a, xs, rfl, sq, r⟩ := rx.lst
    obtain ⟨v, hv, rp⟩ := r.atI hd
    exact .inl (.inl ⟨a, xs, _, v, rfl, ry.int, sq, hv, k _ H (.same rp)⟩)
  · obtain ⟨d, hd, rfl⟩ := Option.map_eq_some_iff.mp q
    obtain ⟨a, xs, rfl, sq, r⟩ := rx.tup
    obtain ⟨v, hv, rp⟩ := r.atI hd
    exact .inl (.inr (.inl ⟨a, xs, _, v, rfl, ry.int, sq.sq, hv, k _ H (.same rp)⟩))
  · split at q
    · rename_i c
      obtain ⟨d, hd, rfl⟩ := Option.map_eq_some_iff.mp q
      exact .inl (.inr (.inr ⟨_, _, d, rx.str, ry.int, le100000 c, hd, k _ H (.same (.str _))⟩))
    · cases q
  · split at q
    · rename_i key hk
      split at q
      · rename_i hs
        obtain ⟨d, hd, rfl⟩ := Option.map_eq_some_iff.mp q
        obtain ⟨a, ks, rfl, e, r⟩ := rx.dct hs
        rcases r.get key with ⟨h1, h2⟩ | ⟨v', d', h1, h2, rp⟩
        · rw [h2] at hd; cases hd
        · rw [h2] at hd; cases hd
          exact .inr ⟨a, ks, key, v', rfl, e, ry.key hk, h1, k _ H (.same rp)⟩
      · cases q
    · cases q
  · cases q
theorem de_ix {a b : Expr} {f1 f2 : M Rs} {pos : Pos} (hu : X.A.units + 65 < cLine) (ha : PE X a (tE X.KW f1)) (hb : PE X b (tE X.KW f2)) (hs : PlainIx b := by intro _ _; rfl) : PE X (.Subscript a b pos) (tE X.KW (op2 ixG f1 f2)) := PE.weak (pe_ix (ix_all hu) ha hb hs) (tE_op2 o_ix)
end
end DV
end
section
set_option Elab.async false
set_option linter.all false
set_option maxRecDepth 100000
namespace DV
open PySem PySem.Spec PyProof.Rows L2
/-! ### slices -/
def tO (K : KW) (f : M (Option Int)) : TO := fun σ H Q => ∃ γ e Z o e', Rep K γ e σ H Z ∧ f e = some (o, e') ∧ ∀ H', Kp γ e.ρ σ H H' → Sh e e' → Rep K γ e' σ H' Z → Q o H'
def part1 (d : D) : M (Option Int) := match d with
  | .int i => ret (some i)
  | _ => noM
def partM (f : M Rs) : M (Option Int) := bnd f fun r => bnd (rdM r) part1
def cutL {α : Type} (xs : List α) (lo hi : Option Int) : List α := (xs.drop (HT.sIx xs.length 0 lo)).take (HT.sIx xs.length xs.length hi - HT.sIx xs.length 0 lo)
def slG (x : D) (lo hi : Option Int) : Option Rs := match x with
  | .list ds => some (.fr (.list (cutL ds lo hi)))
  | .tuple ds => some (.fz (.tuple (cutL ds lo hi)))
  | _ => none
def slcM (fa : M Rs) (fl fh : M (Option Int)) : M Rs := bnd fa fun a => bnd fl fun lo => bnd fh fun hi => bnd (rdM a) fun x => opt (slG x lo hi)
def rSlAll (K : KW) : V → Option Int → Option Int → Hp → VK → Prop := fun x lo hi H Q => rSlL K x lo hi H Q ∨ rSlZ K x lo hi H Q
section
variable {X : Cx} {K : KW}
theorem part1_eq {d : D} {e e' : En} {o : Option Int} (h : part1 d e = some (o, e')) : ∃ i, d = .int i ∧ o = some i ∧ e' = e := by
  unfold part1 at h
  split at h
  · cases h; exact ⟨_, rfl, rfl, rfl⟩
  · cases h
theorem do_none : PO X none (tO X.KW (ret none)) := ⟨fun pins s σ H Q I h => po_none.run pins s σ H Q I (by
  obtain ⟨γ, e, Z, o, e', R, h1, k⟩ := h
  cases h1
  exact k H (Kp.refl H) (Sh.refl e) R)⟩
theorem do_some {e : Expr} {f : M Rs} (he : PE X e (tE X.KW f)) : PO X (some e) (tO X.KW (partM f)) := ⟨fun pins s σ H Q I h => (po_some he).run pins s σ H Q I (by
  obtain ⟨γ, e, Z, o, e', R, h1, k⟩ := h
  obtain ⟨r, e1, h2, h3⟩ := bnd_eq h1
  obtain ⟨d, e2, h4, h5⟩ := bnd_eq h3
  obtain ⟨q1, rfl⟩ := rdM_eq h4
  obtain ⟨i, rfl, rfl, rfl⟩ := part1_eq h5
  refine ⟨γ, e, Z, r, _, R, h2, fun v H1 kp sh P => ?_⟩
  have R1 := P.rep
  obtain ⟨Z1, h01, hf, R2, A1⟩ := P.one
  exact ⟨i, (A1.rd R2 q1).int, k H1 kp sh R1⟩)⟩
theorem RpL.cut {H : Hp} {O : Addr → Prop} {xs : List V} {ds : List D} {lo hi : Option Int} (r : RpL K H O xs ds) : RpL K H O (cutV xs lo hi) (cutL ds lo hi) := by
  unfold cutV cutL
  rw [r.length]
  exact (r.drop _).take _
theorem tE_slc {fa : M Rs} {fl fh : M (Option Int)} : ∀ σ H Q, tE K (slcM fa fl fh) σ H Q → tSl (rSlAll K) (tE K fa) (tO K fl) (tO K fh) σ H Q := by
  rintro σ H Q ⟨γ, e, Z, res, e', R, h, k⟩
  obtain ⟨ra, e1, h1, ha⟩ := bnd_eq h
  obtain ⟨lo, e2, h2, hb⟩ := bnd_eq ha
  obtain ⟨hi, e3, h3, hc⟩ := bnd_eq hb
  obtain ⟨x, e4, h4, hd⟩ := bnd_eq hc
  obtain ⟨q1, rfl⟩ := rdM_eq h4
  obtain ⟨q2, rfl⟩ := opt_eq hd
  refine ⟨γ, e, Z, ra, e1, R, h1, fun v H1 kp sh P => ?_⟩
  obtain ⟨Z1, h01, hf, R1, A1⟩ := P.one
  refine ⟨γ, e1, Z1, lo, e2, R1, h2, fun H2 kp2 sh2 R2 => ⟨γ, e2, Z1, hi, _, R2, h3, fun H3 kp3 sh3 R3 => ?_⟩⟩
  have kp23 := kp2.trans sh2 kp3
  have sh23 := sh2.trans sh3
  have A3 := A1.keep R1 R3 kp23 sh23 (fun _ z => z) (fun _ z => .inl z)
  have rd := A3.rd R3 q1
  have fin : ∀ {r : Rs} {v : V} {H4 : Hp}, r = res → Gr K H3 (Hid γ e'.ρ σ Z1) r v H4 → Q v H4 := fun {r v H4} er g => by
    subst er
    obtain ⟨kp4, P4⟩ := g.pst R3
    exact k v H4 ((kp.trans sh kp23).trans (sh.trans sh23) kp4) (sh.trans sh23) (Pst.next (rs0 := []) (xs0 := []) (kp.trans sh kp23) h01 hf P4)
  cases x with
  | list ds =>
    cases q2
    obtain ⟨a, xs, rfl, sq, r⟩ := rd.lst
    exact .inl ⟨a, xs, rfl, sq, fun p hp => fin rfl (.lst (Same.refl H3) hp r.cut)⟩
  | tuple ds =>
    cases q2
    obtain ⟨a, xs, rfl, sq, r⟩ := rd.tup
    refine .inr ⟨a, xs, rfl, sq.sq, fun hw => ?_, fun _ p o hp hd => fin rfl (.tup (Same.refl H3) hp hd r.cut)⟩
    have e5 : cutL ds lo hi = ds := by
      unfold cutL
      rw [← r.length, hw.1, hw.2]
      simp [r.length]
    rw [e5] at fin
    exact fin rfl (.same (.tup sq r))
  | _ => cases q2
theorem de_slc {e : Expr} {lo hi : Option Expr} {f : M Rs} {fl fh : M (Option Int)} {pos p2 : Pos} (he : PE X e (tE X.KW f)) (hl : PO X lo (tO X.KW fl)) (hh : PO X hi (tO X.KW fh)) : PE X (.Subscript e (.Slice lo hi none p2) pos) (tE X.KW (slcM f fl fh)) :=
  PE.weak (pe_slice (sl_list.or sl_tupZ) he hl hh) tE_slc

/-! ### builtins -/
theorem de_blt {id : String} {x : Str} {r : List V → Hp → VK → Prop} {g : List D → Option Rs} {p pos : Pos} {e : Expr} {es : List Expr} {fs : M (List Rs)} (hc : CallR X (.builtin id) r) (o : OpN X.KW r g) (hv : bootBuiltins x = some (.builtin id)) (hm : X.mg x = none) (ha : PA X (e :: es) (tA X.KW fs)) (hg : Gl X x := by rfl) (hn : x ≠ "__name__" := by decide)
    (hdb : (x == ("__debug__" : Str)) = false := by decide) (he : starEach (e :: es) X.env = (false, eval e X.env) :: starEach es X.env := by rfl) (hpl : (backTo pos (starEach es X.env)).any (·.1) = false := by rfl) : PE X (.Call (.Name x p) (e :: es) [] pos) (tE X.KW (opN g fs)) :=
  PE.weak (pe_callB hc hg hm hv ha hn hdb he hpl) (tE_opN o)
theorem de_ty {id : String} {x : Str} {r : List V → Hp → VK → Prop} {g : List D → Option Rs} {p pos : Pos} {e : Expr} {es : List Expr} {fs : M (List Rs)} (hc : CallR X (.type id) r) (o : OpN X.KW r g) (hv : bootBuiltins x = some (.type id)) (hm : X.mg x = none) (ha : PA X (e :: es) (tA X.KW fs)) (hg : Gl X x := by rfl) (hn : x ≠ "__name__" := by decide)
    (hdb : (x == ("__debug__" : Str)) = false := by decide) (he : starEach (e :: es) X.env = (false, eval e X.env) :: starEach es X.env := by rfl) (hpl : (backTo pos (starEach es X.env)).any (·.1) = false := by rfl) : PE X (.Call (.Name x p) (e :: es) [] pos) (tE X.KW (opN g fs)) :=
  PE.weak (pe_callTy hc hg hm hv ha hn hdb he hpl) (tE_opN o)
def g1 (g : D → Option Rs) (ds : List D) : Option Rs := match ds with
  | [d] => g d
  | _ => none
def g2 (g : D → D → Option Rs) (ds : List D) : Option Rs := match ds with
  | [d, c] => g d c
  | _ => none
theorem OpN.one {r : List V → Hp → VK → Prop} {g : D → Option Rs} (h : ∀ (H : Hp) (O : Addr → Prop) (x : V) (d : D) (res : Rs) (Q : VK), (∀ a, O a → ∃ o, H a = some o) → RpR K H O x d → g d = some res → (∀ v H', Gr K H O res v H' → Q v H') → r [x] H Q) :
    OpN K r (g1 g) := fun H O xs ds res Q tr A q k => by
  unfold g1 at q
  split at q
  · cases A with
    | cons a t => cases t; exact h H O _ _ res Q tr a q k
  · cases q
theorem OpN.two {r : List V → Hp → VK → Prop} {g : D → D → Option Rs} (h : ∀ (H : Hp) (O : Addr → Prop) (x y : V) (d c : D) (res : Rs) (Q : VK), (∀ a, O a → ∃ o, H a = some o) → RpR K H O x d → RpR K H O y c → g d c = some res → (∀ v H', Gr K H O res v H' → Q v H') → r [x, y] H Q) :
    OpN K r (g2 g) := fun H O xs ds res Q tr A q k => by
  unfold g2 at q
  split at q
  · cases A with
    | cons a t =>
      cases t with
      | cons b t => cases t; exact h H O _ _ _ _ res Q tr a b q k
  · cases q
/-- len -/
def rLen (K : KW) : List V → Hp → VK → Prop := fun xs H Q => (∃ x n, xs = [x] ∧ LenV K x H n ∧ Q (.int n) H) ∨ ∃ a kvs, xs = [.ref a] ∧ H a = some (.dK kvs) ∧ Q (.int kvs.length) H
theorem call_lenA : CallR X (.builtin "len") (rLen X.KW) := by
  intro pins s σ H xs us Q I r h
  rcases h with h | ⟨a, kvs, rfl, e, q⟩
  · exact call_len pins s σ H xs us Q I r h
  · obtain ⟨u, rfl, rx⟩ := vals1 r
    cases rx
    exact d_len I (.inl e) fun t s' I' => ⟨.int kvs.length, H, I', ⟨t, rfl⟩, q⟩
def lenG (d : D) : Option Rs := match d with
  | .list ds => intR ds.length
  | .tuple ds => intR ds.length
  | .str x => if x.length ≤ 100000 then intR x.length else none
  | .dict kvs => if smpK kvs = true then intR kvs.length else none
  | _ => none
theorem o_len : OpN K (rLen K) (g1 lenG) := OpN.one fun H O x d res Q tr rx q k => by
  unfold lenG at q
  split at q
  · cases q
    obtain ⟨a, xs, rfl, sq, r⟩ := rx.lst
    exact .inl ⟨_, _, rfl, .inl ⟨xs, sq, r.length.symm⟩, k _ H (.same (.int _))⟩
  · cases q
    obtain ⟨a, xs, rfl, sq, r⟩ := rx.tup
    exact .inl ⟨_, _, rfl, .inr ⟨xs, sq.sq, r.length.symm⟩, k _ H (.same (.int _))⟩
  · split at q
    · rename_i c
      cases q
      have e := rx.str
      subst e
      exact .inl ⟨_, _, rfl, ⟨le100000 c, rfl⟩, k _ H (.same (.int _))⟩
    · cases q
  · split at q
    · rename_i hs
      cases q
      obtain ⟨a, ks, rfl, e, r⟩ := rx.dct hs
      exact .inr ⟨a, ks, rfl, e, by rw [r.length]; exact k _ H (.same (.int _))⟩
    · cases q
  · cases q
/-- all, any of a list of bools -/
def bools : List D → Option (List Bool)
  | [] => some []
  | .bool b :: r => (bools r).map (b :: ·)
  | _ => none
theorem bools_eq : ∀ {ds : List D} {bs : List Bool}, bools ds = some bs → ds = bs.map .bool
  | [], bs, h => by cases h; rfl
  | .bool b :: r, bs, h => by
    obtain ⟨cs, hc, rfl⟩ := Option.map_eq_some_iff.mp (show (bools r).map (b :: ·) = some bs from h)
    rw [List.map_cons, ← bools_eq hc]
  | .none :: r, bs, h => by cases h
  | .int _ :: r, bs, h => by cases h
  | .str _ :: r, bs, h => by cases h
  | .list _ :: r, bs, h => by cases h
  | .tuple _ :: r, bs, h => by cases h
  | .dict _ :: r, bs, h => by cases h
theorem RpL.bls {H : Hp} {O : Addr → Prop} : ∀ {xs : List V} {bs : List Bool}, RpL K H O xs (bs.map .bool) → xs = bs.map .bl
  | _, [], h => by cases h; rfl
  | _, b :: bs, h => by
    cases h with
    | cons q r => cases q; rw [RpL.bls r]; rfl
theorem RpL.ints {H : Hp} {O : Addr → Prop} : ∀ {xs : List V} {bs : List Int}, RpL K H O xs (bs.map .int) → xs = bs.map .int
  | _, [], h => by cases h; rfl
  | _, b :: bs, h => by
    cases h with
    | cons q r => cases q; rw [RpL.ints r]; rfl
theorem RpL.strs {H : Hp} {O : Addr → Prop} : ∀ {xs : List V} {bs : List Str}, RpL K H O xs (bs.map .str) → xs = bs.map .str
  | _, [], h => by cases h; rfl
  | _, b :: bs, h => by
    cases h with
    | cons q r => cases q; rw [RpL.strs r]; rfl
def allG (d : D) : Option Rs := match d with
  | .list ds => (bools ds).bind fun bs => boolR (bs.all id)
  | _ => none
def anyG (d : D) : Option Rs := match d with
  | .list ds => (bools ds).bind fun bs => boolR (bs.any id)
  | _ => none
theorem o_all : OpN K (rAll K) (g1 allG) := OpN.one fun H O x d res Q tr rx q k => by
  unfold allG at q
  split at q
  · obtain ⟨bs, hb, q2⟩ := Option.bind_eq_some_iff.mp q
    cases q2
    have e := bools_eq hb
    subst e
    obtain ⟨a, xs, rfl, sq, r⟩ := rx.lst
    have e := r.bls
    subst e
    exact ⟨a, bs, rfl, sq, k _ H (.same (.bl _))⟩
  · cases q
theorem o_any : OpN K (rAny K) (g1 anyG) := OpN.one fun H O x d res Q tr rx q k => by
  unfold anyG at q
  split at q
  · obtain ⟨bs, hb, q2⟩ := Option.bind_eq_some_iff.mp q
    cases q2
    have e := bools_eq hb
    subst e
    obtain ⟨a, xs, rfl, sq, r⟩ := rx.lst
    have e := r.bls
    subst e
    exact ⟨a, bs, rfl, sq, k _ H (.same (.bl _))⟩
  · cases q
/-- ints -/
def absG (d : D) : Option Rs := match d with
  | .int i => intR (if i < 0 then -i else i)
  | _ => none
theorem o_abs : OpN K (fun xs H Q => ∃ i, xs = [.int i] ∧ Q (.int (if i < 0 then -i else i)) H) (g1 absG) := OpN.one fun H O x d res Q tr rx q k => by
  unfold absG at q
  split at q
  · cases q; exact ⟨_, by rw [rx.int], k _ H (.same (.int _))⟩
  · cases q
def maxG (d c : D) : Option Rs := match d, c with
  | .int i, .int j => intR (if j > i then j else i)
  | _, _ => none
theorem o_max2 : OpN K (fun xs H Q => ∃ i j, xs = [.int i, .int j] ∧ Q (.int (if j > i then j else i)) H) (g2 maxG) := OpN.two fun H O x y d c res Q tr rx ry q k => by
  unfold maxG at q
  split at q
  · cases q; exact ⟨_, _, by rw [rx.int, ry.int], k _ H (.same (.int _))⟩
  · cases q
def min2G (d c : D) : Option Rs := match d, c with
  | .int i, .int j => intR (if j < i then j else i)
  | _, _ => none
theorem o_min2 : OpN K (fun xs H Q => ∃ i j, xs = [.int i, .int j] ∧ Q (.int (if j < i then j else i)) H) (g2 min2G) := OpN.two fun H O x y d c res Q tr rx ry q k => by
  unfold min2G at q
  split at q
  · cases q; exact ⟨_, _, by rw [rx.int, ry.int], k _ H (.same (.int _))⟩
  · cases q
def int1G (d : D) : Option Rs := match d with
  | .int i => intR i
  | .bool b => intR (if b then 1 else 0)
  | _ => none
theorem o_int1 : OpN K (fun xs H Q => (∃ i, xs = [.int i] ∧ Q (.int i) H) ∨ ∃ k, xs = [.bl k] ∧ Q (.int (if k then 1 else 0)) H) (g1 int1G) := OpN.one fun H O x d res Q tr rx q k => by
  unfold int1G at q
  split at q
  · cases q; exact .inl ⟨_, by rw [rx.int], k _ H (.same (.int _))⟩
  · cases q; exact .inr ⟨_, by rw [rx.bl], k _ H (.same (.int _))⟩
  · cases q
def divmodG (d c : D) : Option Rs := match d, c with
  | .int i, .int j => if 0 < j ∧ j < 1073741824 then some (.fz (.tuple [.int (i / j), .int (i % j)])) else none
  | _, _ => none
theorem o_divmod : OpN K (fun xs H Q => ∃ i j, xs = [.int i, .int j] ∧ CDiv i j ∧ ∀ (p : Addr) (o : Obj), H p = none → o.dict = none → Q (.ref p) (upd H p (.frz o (.tup [.int (i / j), .int (i % j)])))) (g2 divmodG) := OpN.two fun H O x y d c res Q tr rx ry q k => by
  unfold divmodG at q
  split at q
  · split at q
    · rename_i c
      cases q
      exact ⟨_, _, by rw [rx.int, ry.int], c, fun p o hp hd => k _ _ (.tup (Same.refl H) hp hd (.cons (.int _) (.cons (.int _) .nil)))⟩
    · cases q
  · cases q
/-- list(x), tuple(x), dict(x) -/
def listG (d : D) : Option Rs := match d with
  | .list ds => some (.fr (.list ds))
  | .tuple ds => some (.fr (.list ds))
  | _ => none
theorem o_list : OpN K (fun xs H Q => ∃ p ys, xs = [.ref p] ∧ (SqL K H p ys ∨ SqT K H p ys) ∧ ∀ l, H l = none → Q (.ref l) (upd H l (.lst ys))) (g1 listG) := OpN.one fun H O x d res Q tr rx q k => by
  unfold listG at q
  split at q
  · cases q
    obtain ⟨a, xs, rfl, sq, r⟩ := rx.lst
    exact ⟨a, xs, rfl, .inl sq, fun l hl => k _ _ (.lst (Same.refl H) hl r)⟩
  · cases q
    obtain ⟨a, xs, rfl, sq, r⟩ := rx.tup
    exact ⟨a, xs, rfl, .inr sq.sq, fun l hl => k _ _ (.lst (Same.refl H) hl r)⟩
  · cases q
def tupleG (d : D) : Option Rs := match d with
  | .list ds => some (.fz (.tuple ds))
  | .tuple ds => some (.fz (.tuple ds))
  | _ => none
theorem o_tuple : OpN K (fun xs H Q => ∃ p ys, xs = [.ref p] ∧ ((SqL K H p ys ∧ ∀ (l : Addr) (o : Obj), H l = none → o.dict = none → Q (.ref l) (upd H l (.frz o (.tup ys)))) ∨ (SqT K H p ys ∧ Q (.ref p) H))) (g1 tupleG) := OpN.one fun H O x d res Q tr rx q k => by
  unfold tupleG at q
  split at q
  · cases q
    obtain ⟨a, xs, rfl, sq, r⟩ := rx.lst
    exact ⟨a, xs, rfl, .inl ⟨sq, fun l o hl hd => k _ _ (.tup (Same.refl H) hl hd r)⟩⟩
  · cases q
    obtain ⟨a, xs, rfl, sq, r⟩ := rx.tup
    exact ⟨a, xs, rfl, .inr ⟨sq.sq, k _ _ (.same (.tup sq r))⟩⟩
  · cases q
/-- pairs, keys first -/
def pairD : D → Option (L2.Key × D)
  | .tuple [k, d] => (dKey k).map fun k => (k, d)
  | _ => none
def pairsD : List D → Option (List (L2.Key × D))
  | [] => some []
  | x :: xs => match pairD x, pairsD xs with
    | some p, some ps => some (p :: ps)
    | _, _ => none
def mergeD (kvs : List (D × D)) (ps : List (L2.Key × D)) : List (D × D) := ps.foldl (fun acc p => putD p.1 p.2 acc) kvs
theorem pairD_eq {d : D} {p : L2.Key × D} (h : pairD d = some p) : d = .tuple [keyD p.1, p.2] := by
  unfold pairD at h
  split at h
  · obtain ⟨k, hk, rfl⟩ := Option.map_eq_some_iff.mp h
    rw [dKey_eq hk]
  · cases h
theorem pairs_rp {H : Hp} {O : Addr → Prop} : ∀ {ds : List D} {ps : List (L2.Key × D)} {xs : List V}, RpL K H O xs ds → pairsD ds = some ps →
    ∃ (as : List Addr) (kvs : List (L2.Key × V)), xs = as.map V.ref ∧ Paired (fun p kv => SqT K H p [kV kv.1, kv.2]) as kvs ∧ All2 (fun (kv : L2.Key × V) (p : L2.Key × D) => kv.1 = p.1 ∧ Rp K H O kv.2 p.2) kvs ps
  | [], ps, xs, r, e => by cases e; cases r; exact ⟨[], [], rfl, .nil, .nil⟩
  | d :: ds, ps, xs, r, e => by
    unfold pairsD at e
    cases q1 : pairD d with
    | none => rw [q1] at e; cases e
    | some p =>
      cases q2 : pairsD ds with
      | none => rw [q1, q2] at e; cases e
      | some ps' =>
        rw [q1, q2] at e
        cases e
        cases r with
        | @cons v vs _ _ rv rt =>
          obtain ⟨as, kvs, rfl, h1, h2⟩ := pairs_rp rt q2
          have := pairD_eq q1
          subst this
          obtain ⟨a, ys, rfl, sq, rr⟩ := (RpR.of_item rv).tup
          cases rr with
          | @cons vk ws _ _ rk rr2 =>
            cases rr2 with
            | @cons vd _ _ _ rd rr3 =>
              cases rr3
              have ek := (RpR.of_item rk).key (dKey_keyD p.1)
              subst ek
              exact ⟨a :: as, (p.1, vd) :: kvs, rfl, .cons sq.sq h1, .cons ⟨rfl, rd⟩ h2⟩
theorem merge_rp {H : Hp} {O : Addr → Prop} : ∀ {kvs : List (L2.Key × V)} {ps : List (L2.Key × D)} {acc : List (L2.Key × V)} {accD : List (D × D)}, All2 (fun (kv : L2.Key × V) (p : L2.Key × D) => kv.1 = p.1 ∧ Rp K H O kv.2 p.2) kvs ps → RpE K H O acc accD → RpE K H O (mergeK acc kvs) (mergeD accD ps)
  | _, _, _, _, .nil, r => r
  | (k, v) :: kvs, (k', d) :: ps, acc, accD, .cons h t, r => by
    obtain ⟨e, rv⟩ := h
    have e' : k = k' := e
    subst e'
    exact merge_rp (kvs := kvs) (ps := ps) (acc := putK acc k v) (accD := putD k d accD) t (r.put rv)
def dictG (d : D) : Option Rs := match d with
  | .dict kvs => if smpK kvs = true then some (.fr (.dict kvs)) else none
  | .tuple ds => (pairsD ds).map fun ps => .fr (.dict (mergeD [] ps))
  | .list ds => (pairsD ds).map fun ps => .fr (.dict (mergeD [] ps))
  | _ => none
def rDict (K : KW) : List V → Hp → VK → Prop := fun xs H Q => (∃ (a : Addr) (kvs : List (L2.Key × V)), xs = [.ref a] ∧ Rd H a (.dK kvs) ∧ ∀ p, H p = none → Q (.ref p) (upd H p (.dK kvs))) ∨
  (∃ (a : Addr) (ps : List Addr) (kvs : List (Key × V)), xs = [.ref a] ∧ PlT K H a (ps.map V.ref) ∧ Paired (fun p kv => SqT K H p [kV kv.1, kv.2]) ps kvs ∧ ∀ p, H p = none → Q (.ref p) (upd H p (.dK (mergeK [] kvs)))) ∨
  (∃ (a : Addr) (ps : List Addr) (kvs : List (Key × V)), xs = [.ref a] ∧ SqL K H a (ps.map V.ref) ∧ Paired (fun p kv => SqT K H p [kV kv.1, kv.2]) ps kvs ∧ ∀ p, H p = none → Q (.ref p) (upd H p (.dK (mergeK [] kvs))))
theorem cr_dict {X : Cx} (hc : X.calm = true) : CallR X (.type "dict") (rDict X.KW) := by
  intro pins s σ H xs us Q I r h
  rcases h with h | h | h
  · exact call_dictD pins s σ H xs us Q I r h
  · exact call_dictTZ hc pins s σ H xs us Q I r h
  · exact call_dictP hc pins s σ H xs us Q I r h
theorem o_dict : OpN K (rDict K) (g1 dictG) := OpN.one fun H O x d res Q tr rx q k => by
  unfold dictG at q
  split at q
  · split at q
    · rename_i hs
      cases q
      obtain ⟨a, ks, rfl, e, r⟩ := rx.dct hs
      exact .inl ⟨a, ks, rfl, .inl e, fun p hp => k _ _ (.dct (Same.refl H) hp r)⟩
    · cases q
  · obtain ⟨ps, h1, rfl⟩ := Option.map_eq_some_iff.mp q
    obtain ⟨a, xs, rfl, sq, r⟩ := rx.tup
    obtain ⟨as, kvs, rfl, h2, h3⟩ := pairs_rp r h1
    exact .inr (.inl ⟨a, as, kvs, rfl, sq.pl, h2, fun p hp => k _ _ (.dct (Same.refl H) hp (merge_rp h3 .nil))⟩)
  · obtain ⟨ps, h1, rfl⟩ := Option.map_eq_some_iff.mp q
    obtain ⟨a, xs, rfl, sq, r⟩ := rx.lst
    obtain ⟨as, kvs, rfl, h2, h3⟩ := pairs_rp r h1
    exact .inr (.inr ⟨a, as, kvs, rfl, sq, h2, fun p hp => k _ _ (.dct (Same.refl H) hp (merge_rp h3 .nil))⟩)
  · cases q

/-! ### isinstance -/
def tyD : D → String
  | .none => "NoneType"
  | .bool _ => "bool"
  | .int _ => "int"
  | .str _ => "str"
  | .list _ => "list"
  | .tuple _ => "tuple"
  | .dict _ => "dict"
/-- its type can be asked here -/
def tyKn (d : D) : Bool := match d with
  | .dict kvs => smpK kvs
  | _ => true
theorem RpR.ty {H : Hp} {O : Addr → Prop} {x : V} {d : D} (h : RpR K H O x d) (kn : tyKn d = true) : TyX K H x (.type (tyD d)) := by
  rcases h with h | ⟨a, rfl, ⟨xs, ds, rfl, e, _⟩ | ⟨ks, kvs, rfl, e, _⟩ | ⟨ks, kvs, rfl, e, n, _, r⟩⟩
  · cases h with
    | non => exact .base .non
    | bl b => exact .base (.bl b)
    | int i => exact .base (.int i)
    | str i => exact .base (.str i)
    | lst q r =>
      rcases q with ⟨q | ⟨o, q⟩, _⟩ | ⟨o, its, n, q, c, _⟩
      · exact .base (.lst q)
      · exact .base (.frz q)
      · exact .kList q c
    | tup q r =>
      rcases q with ⟨⟨o, q, _⟩, _⟩ | ⟨o, its, n, q, c, _⟩
      · exact .fTuple q
      · exact .kTuple q c
    | dct q n r => exact .base (.dK q)
    | dcn q n e k r => exact absurd kn (by rw [show tyKn (.dict _) = smpK _ from rfl, r.smp e]; exact Bool.false_ne_true)
  · exact .base (.lst e)
  · exact .base (.dK e)
  · exact absurd kn (by rw [show tyKn (.dict _) = smpK _ from rfl, r.smp n]; exact Bool.false_ne_true)
def isiG (T : String) (d : D) : Option Rs := if tyKn d = true then (kitB (tyD d) T).bind boolR else none
theorem de_isi {T : String} {x : Str} {f : M Rs} {p p2 pos : Pos} {a : Expr} (ha : PE X a (tE X.KW f)) (hT : bootBuiltins x = some (.type T)) (hm : X.mg "isinstance" = none) (hmT : X.mg x = none) (hg : Gl X "isinstance" := by rfl) (hgT : Gl X x := by rfl) (hn : x ≠ "__name__" := by decide) (hdb : (x == ("__debug__" : Str)) = false := by decide)
    (he : starEach [a, .Name x p2] X.env = (false, eval a X.env) :: starEach [.Name x p2] X.env := by rfl) (he2 : starEach [.Name x p2] X.env = (false, eval (.Name x p2) X.env) :: starEach [] X.env := by rfl) (hpl : (backTo pos (starEach [.Name x p2] X.env)).any (·.1) = false := by rfl) :
    PE X (.Call (.Name "isinstance" p) [a, .Name x p2] [] pos) (tE X.KW (op1 (isiG T) f)) :=
  PE.weak (pe_callB call_isi hg hm boot_isinstance (pa_cons ha (pa_cons (pe_bltn (v := .ty T) hgT hmT hT rfl hn hdb) pa_nil he2) he) (by decide) (by decide) he hpl) (by
  rintro σ H Q ⟨γ, e, Z, res, e', R, h, k⟩
  obtain ⟨ra, e1, h1, ha⟩ := bnd_eq h
  obtain ⟨d, e2, h2, hb⟩ := bnd_eq ha
  obtain ⟨q1, rfl⟩ := rdM_eq h2
  obtain ⟨q2, rfl⟩ := opt_eq hb
  refine ⟨γ, e, Z, ra, e', R, h1, fun x H1 kp sh P => ?_⟩
  obtain ⟨Z1, h01, hf, R1, A1⟩ := P.one
  by_cases kn : tyKn d = true
  case neg => simp only [isiG, if_neg kn] at q2; cases q2
  simp only [isiG, if_pos kn] at q2
  obtain ⟨b, hb2, q3⟩ := Option.bind_eq_some_iff.mp q2
  cases q3
  refine ⟨x, .ty T, _, _, b, rfl, .ty T, (A1.rd R1 q1).ty kn, kit_ty hb2, ?_⟩
  obtain ⟨kp2, P2⟩ := (Gr.same (K := X.KW) (O := Hid γ e'.ρ σ Z1) (H := H1) (.bl b)).pst R1
  exact k _ H1 (kp.trans sh kp2) sh (Pst.next (rs0 := []) (xs0 := []) kp h01 hf P2))
end
end DV
end
section
set_option Elab.async false
set_option linter.all false
set_option maxRecDepth 100000
namespace DV
open PySem PySem.Spec PyProof.Rows L2
/-! ### a slot's own object changes -/
/-- the content as an object -/
def Nw (K : KW) (H : Hp) (O : Addr → Prop) (a : Addr) (o : HO) (d : D) : Prop := (∃ xs ds, d = .list ds ∧ o = .lst xs ∧ RpL K H O xs ds) ∨ (∃ ks kvs, d = .dict kvs ∧ o = .dK ks ∧ RpE K H O ks kvs) ∨
  ∃ xs kvs, d = .dict kvs ∧ o = .ext (DictX K.w a xs) ∧ xs ≠ [] ∧ NdK a xs ∧ RpN K H O xs kvs
def isTy (T : String) (d : D) : Bool := tyD d == T && tyKn d
def rcvM (T : String) (i : Nat) : M Unit := fun e => match e.ρ[i]? with
  | some (some (.ow d)) => if isTy T d = true then some ((), e) else none
  | _ => none
def chgM (i : Nat) (g : D → List D → Option (D × D)) (ds : List D) : M Rs := fun e => match e.ρ[i]? with
  | some (some (.ow d)) => (g d ds).map fun p => (.fz p.1, e.st i (some (.ow p.2)))
  | _ => none
def mtM (T : String) (i : Nat) (g : D → List D → Option (D × D)) (fs : M (List D)) : M Rs := bnd (rcvM T i) fun _ => bnd fs (chgM i g)
def MtW (K : KW) (r : V → List V → Hp → VK → Prop) (g : D → List D → Option (D × D)) : Prop :=
  ∀ (H : Hp) (O : Addr → Prop) (a : Addr) (d : D) (vs : List V) (ds : List D) (c d' : D) (Q : VK), (∀ a, O a → ∃ o, H a = some o) → Ct K H O a d → RpL K H O vs ds → g d ds = some (c, d') →
    (∀ v o, Rp K H O v c → Nw K H O a o d' → Q v (upd H a o)) → r (.ref a) vs H Q
section
variable {X : Cx} {K : KW} {γ : List Addr} {e e1 e2 : En} {σ : L2.St} {H H1 H2 : Hp} {Z Z1 : Addr → Prop}
theorem rcv_eq {T : String} {i : Nat} {u : Unit} (h : rcvM T i e = some (u, e1)) : e1 = e ∧ ∃ d, e.ρ[i]? = some (some (.ow d)) ∧ tyD d = T ∧ tyKn d = true := by
  unfold rcvM at h
  split at h
  · rename_i d q
    split at h
    · rename_i c
      cases h
      exact ⟨rfl, d, q, by simpa [isTy] using c⟩
    · cases h
  · cases h
theorem chg_eq {i : Nat} {g : D → List D → Option (D × D)} {ds : List D} {r : Rs} (h : chgM i g ds e = some (r, e1)) : ∃ d c d', e.ρ[i]? = some (some (.ow d)) ∧ g d ds = some (c, d') ∧ r = .fz c ∧ e1 = e.st i (some (.ow d')) := by
  unfold chgM at h
  split at h
  · rename_i d q
    obtain ⟨⟨c, d'⟩, hg, e5⟩ := Option.map_eq_some_iff.mp h
    cases e5
    exact ⟨d, c, d', q, hg, rfl, rfl⟩
  · cases h
theorem Ct.typ {O : Addr → Prop} {a : Addr} {d : D} (c : Ct K H O a d) (kn : tyKn d = true) {T : String} (h : tyD d = T) : tyV K T (.ref a) H := by
  subst h
  rcases c with ⟨xs, ds, rfl, q, r⟩ | ⟨ks, kvs, rfl, q, r⟩ | ⟨ks, kvs, rfl, q, n, _, r⟩
  · exact .inl ⟨rfl, xs, .of q⟩
  · exact .inr (.inr (.inl ⟨rfl, .inl ⟨ks, q⟩⟩))
  · exact absurd kn (by rw [show tyKn (.dict _) = smpK _ from rfl, r.smp n]; exact Bool.false_ne_true)
/-- the object at slot i gets the content d' -/
theorem Rep.chg {i : Nat} {d d' : D} {a : Addr} {o : HO} (R : Rep K γ e σ H Z) (hi : e.ρ[i]? = some (some (.ow d))) (ha : σ[i]? = some (some (.ref a))) (hz : ∀ b, Z b → b ≠ a) (n : Nw K H (Hid γ e.ρ σ Z) a o d') :
    Rep K γ (e.st i (some (.ow d'))) σ (upd H a o) Z ∧ Stay H (upd H a o) (Hid γ e.ρ σ Z) (Hid γ (e.st i (some (.ow d'))).ρ σ Z) ∧ Kp γ e.ρ σ H (upd H a o) ∧ Sh e (e.st i (some (.ow d'))) := by
  have mt := mut_turn (σ := σ) (s' := .ow d') hi rfl rfl
  have hl := (List.getElem?_eq_some_iff.mp hi).1
  have oa : OwnA e.ρ σ a := ⟨i, d, hi, ha⟩
  have st : Stay H (upd H a o) (Hid γ e.ρ σ Z) (Hid γ (e.st i (some (.ow d'))).ρ σ Z) := fun b x hb nb => ⟨by rw [upd_ne (fun (z : b = a) => nb (.inl (z ▸ oa.mu)))]; exact hb, fun z => nb (z.imp (mt b).mp id)⟩
  refine ⟨⟨by simp [R.len], fun j x hj => ?_, fun j x b hj m h2 => ?_, fun j d2 b hj h2 j' x h3 m h4 => ?_, R.cl, R.nd, fun k b x y h1 h2 => ?_, R.cz, fun b z => ?_⟩, st, ⟨fun b x hb nb _ => ?_, fun b x hb => ?_⟩, ⟨fun j x hj m => ?_, fun j d2 hj => ?_, fun j d2 hj => ?_, by simp⟩⟩
  · rcases set_get hj with ⟨rfl, e5⟩ | ⟨ne, hj⟩
    · cases e5
      refine ⟨_, ha, a, rfl, ?_⟩
      rcases n with ⟨xs, ds, rfl, rfl, r⟩ | ⟨ks, kvs, rfl, rfl, r⟩ | ⟨xs, kvs, rfl, rfl, ne, nk, r⟩
      · exact .inl ⟨xs, ds, rfl, upd_same, r.stay st⟩
      · exact .inr (.inl ⟨ks, kvs, rfl, upd_same, r.stay st⟩)
      · exact .inr (.inr ⟨xs, kvs, rfl, upd_same, ne, nk, RpN.stay st _ r⟩)
    · obtain ⟨v, hv, ok⟩ := R.slot j x hj
      refine ⟨v, hv, ok.stay st fun b eb m o' ho => ?_⟩
      subst eb
      rw [upd_ne (fun (z : b = a) => ne (R.own i d a hi ha j x hj m (z ▸ hv)))]
      exact ho
  · rcases set_get hj with ⟨rfl, e5⟩ | ⟨ne, hj⟩
    · exact R.mu _ _ b hi rfl h2
    · exact R.mu j x b hj m h2
  · rcases set_get hj with ⟨q, _⟩ | ⟨ne, g1⟩
    · subst q
      rcases set_get h3 with ⟨q, _⟩ | ⟨ne', g3⟩
      · exact q
      · exact R.own _ d b hi h2 j' x g3 m h4
    · rcases set_get h3 with ⟨q, _⟩ | ⟨ne', g3⟩
      · subst q; exact R.own j d2 b g1 h2 _ _ hi rfl h4
      · exact R.own j d2 b g1 h2 j' x g3 m h4
  · rw [upd_ne (fun (z : b = a) => (R.mu i _ a hi rfl ha).2 (z ▸ List.mem_of_getElem? h1))]
    exact R.cell k b x y h1 h2
  · obtain ⟨x, hx⟩ := R.zt b z
    exact ⟨x, by rw [upd_ne (hz b z)]; exact hx⟩
  · rw [upd_ne (fun (z : b = a) => nb (z ▸ oa))]; exact hb
  · by_cases c : b = a
    · exact ⟨o, by rw [c]; exact upd_same⟩
    · exact ⟨x, by rw [upd_ne c]; exact hb⟩
  · rcases set_get hj with ⟨q, e5⟩ | ⟨ne, hj⟩
    · subst q; cases e5; exact ⟨_, hi, rfl, fun _ => rfl⟩
    · exact ⟨x, hj, m, id⟩
  · show (e.ρ.set i _)[j]? = _
    by_cases q : j = i
    · subst q; rw [hi] at hj; cases hj
    · rw [List.getElem?_set_ne (Ne.symm q)]; exact hj
  · rcases set_get hj with ⟨_, e5⟩ | ⟨_, hj⟩
    · cases e5
    · exact hj
theorem tE_mt {T : String} {i : Nat} {g : D → List D → Option (D × D)} {fs : M (List D)} {r : V → List V → Hp → VK → Prop} (w : MtW K r g) : ∀ σ H Q, tE K (mtM T i g fs) σ H Q → tBM K T r (tVar i) (tF K fs) σ H Q := by
  rintro σ H Q ⟨γ, e, Z, res, e', R, h, k⟩
  obtain ⟨u, e1, h1, ha⟩ := bnd_eq h
  obtain ⟨ds, e2, h2, hb⟩ := bnd_eq ha
  obtain ⟨rfl, d0, hi0, ty⟩ := rcv_eq h1
  obtain ⟨d, c, d', hi, hg, rfl, rfl⟩ := chg_eq hb
  obtain ⟨v, hv, a, rfl, c0⟩ := R.slot i _ hi0
  refine ⟨_, hv, c0.typ ty.2 ty.1, γ, e1, Z, ds, e2, R, h2, fun vs H1 kp sh ⟨Z1, h01, hf, R1, rl⟩ => ?_⟩
  obtain ⟨v1, hv1, a1, e5, c1⟩ := R1.slot i _ hi
  rw [hv] at hv1; cases hv1; cases e5
  refine w H1 _ a d vs ds c d' _ (fun b hb => Hid.tr R1 hb) c1 rl hg fun v o rv n => ?_
  have hz : ∀ b, Z1 b → b ≠ a := fun b z q => (R1.mu i _ a hi rfl hv).1 (q ▸ z)
  obtain ⟨R2, st, kp2, sh2⟩ := R1.chg hi hv hz n
  exact k v _ (kp.trans sh kp2) (sh.trans sh2) ⟨Z1, h01, hf, R2, .cons (Rp.stay st c rv) .nil⟩

/-! ### the methods -/
theorem de_mt {T id : String} {i : Nat} {x name : Str} {p apos cpos : Pos} {e : Expr} {es : List Expr} {g : D → List D → Option (D × D)} {fs : M (List D)} {r : V → List V → Hp → VK → Prop} (w : MtW X.KW r g) (hm : MtR X id r) (pa : PlainAttrs T) (slot : Slot T name id) (hty : typeOf (.builtin id) = pure (.type "method_descriptor")) (ha : PA X (e :: es) (tF X.KW fs))
    (hN : X.N[i]? = some x := by rfl) (hv : Vis X.env.scope x := by first | exact Or.inl rfl | exact Or.inr (Or.inl rfl) | exact Or.inr (Or.inr rfl)) (hd : (x == ("__debug__" : Str)) = false := by decide)
    (hcd : (x == ("__classdict__" : Str)) = false := by decide) (hbase : attributeBase (.Name x p) name X.env (eval (.Name x p) X.env) = eval (.Name x p) X.env := by rfl)
    (hfew : ((backTo cpos (starEach (e :: es) X.env)).all (fun x => !x.1) && (backToKw cpos (keywordEach [] X.env)).all (fun x => x.1.isSome)
      && decide ((e :: es).length + ([] : List Keyword).length + (if ([] : List Keyword).isEmpty then 0 else 1) < 30)) = true := by rfl)
    (hline : (apos.endLine == cpos.line) = true := by rfl) (hs : starEach (e :: es) X.env = (false, eval e X.env) :: starEach es X.env := by rfl) (hplain : (backTo cpos (starEach es X.env)).any (·.1) = false := by rfl) :
    PE X (.Call (.Attribute (.Name x p) name apos) (e :: es) [] cpos) (tE X.KW (mtM T i g fs)) :=
  PE.weak (pe_bm pa slot hty hm (pe_var hN hv hd hcd) ha hbase hfew hline hs hplain) (tE_mt w)
def appG (d : D) (ds : List D) : Option (D × D) := match d, ds with
  | .list xs, [y] => if xs.length < 100000 then some (.none, .list (xs ++ [y])) else none
  | _, _ => none
theorem w_app : MtW K rAppend appG := fun H O a d vs ds c d' Q tr ct rl hg k => by
  unfold appG at hg
  split at hg
  · split at hg
    · rename_i hl
      cases hg
      cases rl with
      | cons r1 r2 =>
        cases r2
        rcases ct with ⟨xs, ds, e5, q, r⟩ | ⟨_, _, e5, _⟩ | ⟨_, _, e5, _⟩
        · cases e5
          exact ⟨a, xs, _, rfl, rfl, q, by rw [r.length, sizeLine_eq]; omega, k _ _ .non (.inl ⟨_, _, rfl, rfl, r.append (.cons r1 .nil)⟩)⟩
        · cases e5
        · cases e5
    · cases hg
  · cases hg
def popG (d : D) (ds : List D) : Option (D × D) := match d, ds with
  | .list xs, [.int i] => if xs.length ≤ 100000 then (ixN xs.length i).bind fun k => (xs[k]?).map fun y => (y, .list (xs.eraseIdx k)) else none
  | _, _ => none
theorem w_pop : MtW K rPopAt popG := fun H O a d vs ds c d' Q tr ct rl hg k => by
  unfold popG at hg
  split at hg
  · split at hg
    · rename_i hl
      obtain ⟨j, hj, h2⟩ := Option.bind_eq_some_iff.mp hg
      obtain ⟨y, hy, e6⟩ := Option.map_eq_some_iff.mp h2
      cases e6
      cases rl with
      | cons r1 r2 =>
        cases r2
        cases r1
        rcases ct with ⟨xs, ds, e5, q, r⟩ | ⟨_, _, e5, _⟩ | ⟨_, _, e5, _⟩
        · cases e5
          obtain ⟨s1, s2, s3, s4⟩ := ixN_seq hj
          obtain ⟨w, hw, rw'⟩ := r.get hy
          exact ⟨a, xs, _, j, w, rfl, rfl, q, by omega, by omega, by rw [r.length]; exact s1, hw, k _ _ rw' (.inl ⟨_, _, rfl, rfl, r.eraseIdx j⟩)⟩
        · cases e5
        · cases e5
    · cases hg
  · cases hg
/-- l.remove(x) -/
def rRemD (K : KW) : V → List V → Hp → VK → Prop := fun x vs H Q => ∃ (l : Addr) (xs : List V) (y : V) (ds : List D) (d : D) (j : Nat), x = .ref l ∧ vs = [y] ∧ H l = some (.lst xs) ∧ Dp K H (.ref l) (.list ds) ∧ DpAll K H xs ds ∧ Dp K H y d ∧ SeqAt.shaped (.list ds) = true ∧ SeqAt.shaped d = true ∧
  ds.findIdx? (fun z => PyData.eqv z d) = some j ∧ Q .non (upd H l (.lst (xs.eraseIdx j)))
theorem mt_remD (hu : X.A.units + 65 < cLine) : MtR X "list.remove" (rRemD X.KW) := by
  intro pins s σ H x xs v us Q I rx rxs h
  obtain ⟨l, zs, y, ds, d, j, rfl, rfl, hH, hl, hz, hy, sl, sd, hj, q⟩ := h
  cases rx
  obtain ⟨u, rfl, ru⟩ := rxs.one
  obtain ⟨z, its, n, r, hlen, e⟩ := I.lstM hH
  obtain ⟨bs, rb⟩ := Dp.reads I d y u hy ru
  obtain ⟨as, ra⟩ := Dp.readsAll I ds _ its hz r
  have hxs : PyData.canLayAll0 ds = true := SeqAt.canLay_of_shaped sl
  have hn : its.length = ds.length := SeqAt.ReadsAll.length ds its as ra
  have hmap : its.map (SeqAt.readOf s.heap) = ds := SeqAt.readsAll_map ds its as hxs ra
  have hroom : X.A.units + 1 + min (PyData.depthAll ds) d.depth < cLine := room_in_shaped sd hu
  obtain ⟨f1, f2, f3⟩ := List.findIdx?_eq_some_iff_getElem.mp hj
  have at_ : ∀ (m : Nat) (hm : m < its.toArray.size) (hd : m < ds.length), SeqAt.readOf s.heap its.toArray[m] = ds[m] := by
    intro m hm hd
    have hml : m < its.length := by simpa using hm
    have e2 : (its.map (SeqAt.readOf s.heap))[m]? = ds[m]? := by rw [hmap]
    rw [List.getElem?_map, List.getElem?_eq_getElem hml, List.getElem?_eq_getElem hd] at e2
    simpa using e2
  have hj2 : j < its.toArray.size := by rw [List.size_toArray]; omega
  refine call_meets PySem.F.slot_list_remove ⟨_, e, rfl⟩ PySem.F.entry_list_remove (PySem.F.args_list_remove_2 _ _)
    (SeqAt.list_removeAt l its.toArray n none #[] u (fun w => PyData.eqv (SeqAt.readOf s.heap w) d) j hj2 ?_ (fun m hm hmj => ?_) (by rw [List.size_toArray]; omega))
    ⟨e, SeqAt.items_eqAt (vs := its.toArray) (show ReadsAll s.heap its.toArray.toList ds as from ra) rb hxs (SeqAt.canLay_of_shaped sd) hroom, ?_⟩
  · show PyData.eqv (SeqAt.readOf s.heap its.toArray[j]) d = true
    rw [at_ j hj2 f1]
    exact f2
  · show PyData.eqv (SeqAt.readOf s.heap its.toArray[m]) d = false
    rw [at_ m hm (by omega)]
    simpa using f3 m hmj
  · refine ⟨.non, _, I.lset (its' := its.eraseIdx j) hH e ?_ (r.eraseIdx j) ?_, rfl, q⟩
    · show its.toArray.eraseIdxIfInBounds j = (its.eraseIdx j).toArray
      rw [List.eraseIdxIfInBounds_toArray]
    · have := len_erase zs j
      omega
def remG (d : D) (ds : List D) : Option (D × D) := match d, ds with
  | .list xs, [y] => if SeqAt.shaped (.list xs) = true ∧ SeqAt.shaped y = true then (xs.findIdx? fun z => PyData.eqv z y).map fun j => (.none, .list (xs.eraseIdx j)) else none
  | _, _ => none
theorem w_rem : MtW K (rRemD K) remG := fun H O a d vs ds c d' Q tr ct rl hg k => by
  unfold remG at hg
  split at hg
  · split at hg
    · rename_i hs
      obtain ⟨j, hj, e6⟩ := Option.map_eq_some_iff.mp hg
      cases e6
      cases rl with
      | cons r1 r2 =>
        cases r2
        rcases ct with ⟨xs, ds, e5, q, r⟩ | ⟨_, _, e5, _⟩ | ⟨_, _, e5, _⟩
        · cases e5
          have hd := r.dp _ (SeqAt.canLay_of_shaped hs.1)
          exact ⟨a, xs, _, _, _, j, rfl, rfl, q, .lst (.of q) hd, hd, r1.dp _ (SeqAt.canLay_of_shaped hs.2), hs.1, hs.2, hj, k _ _ .non (.inl ⟨_, _, rfl, rfl, r.eraseIdx j⟩)⟩
        · cases e5
        · cases e5
    · cases hg
  · cases hg
/-- l.extend(a list just made) -/
def extM (i : Nat) (f : M Rs) : M Rs := bnd (rcvM "list" i) fun _ => bnd f fun r => fun e => match r, e.ρ[i]? with
  | .fr (.list ys), some (some (.ow (.list xs))) => if xs.length + ys.length ≤ 100000 then some (.fz .none, e.st i (some (.ow (.list (xs ++ ys))))) else none
  | _, _ => none
theorem tE_ext {i : Nat} {f : M Rs} : ∀ σ H Q, tE K (extM i f) σ H Q → tBM K "list" rExtend (tVar i) (tCons (tE K f) tNil) σ H Q := by
  rintro σ H Q ⟨γ, e, Z, res, e', R, h, k⟩
  obtain ⟨u, e1, h1, ha⟩ := bnd_eq h
  obtain ⟨r, e2, h2, hb⟩ := bnd_eq ha
  obtain ⟨rfl, d0, hi0, ty⟩ := rcv_eq h1
  obtain ⟨v, hv, a, rfl, c0⟩ := R.slot i _ hi0
  split at hb
  · rename_i ys xs hi
    split at hb
    · rename_i hl
      cases hb
      refine ⟨_, hv, c0.typ ty.2 ty.1, γ, e1, Z, _, e2, R, h2, fun w H1 kp sh P => ?_⟩
      obtain ⟨Z1, h01, hf, R1, A1⟩ := P.one
      obtain ⟨b, rfl, hb1, hb2, cb⟩ := A1
      obtain ⟨v1, hv1, a1, e5, c1⟩ := R1.slot i _ hi
      rw [hv] at hv1; cases hv1; cases e5
      rcases c1 with ⟨xv, xd, e5, q, rx⟩ | ⟨_, _, e5, _⟩ | ⟨_, _, e5, _⟩
      · cases e5
        rcases cb with ⟨yv, yd, e5, q2, ry⟩ | ⟨_, _, e5, _⟩ | ⟨_, _, e5, _⟩
        · cases e5
          refine ⟨a, b, xv, yv, rfl, rfl, q, q2, by rw [rx.length, ry.length, sizeLine_eq]; omega, ?_⟩
          have hz : ∀ c, Z1 c → c ≠ a := fun c z q => (R1.mu i _ a hi rfl hv).1 (q ▸ z)
          obtain ⟨R2, st, kp2, sh2⟩ := R1.chg hi hv hz (.inl ⟨_, _, rfl, rfl, rx.append ry⟩)
          exact k _ _ (kp.trans sh kp2) (sh.trans sh2) ⟨Z1, h01, hf, R2, .cons .non .nil⟩
        · cases e5
        · cases e5
      · cases e5
      · cases e5
    · cases hb
  · cases hb
theorem de_ext {i : Nat} {x : Str} {p apos cpos : Pos} {e : Expr} {f : M Rs} (ha : PE X e (tE X.KW f))
    (hN : X.N[i]? = some x := by rfl) (hv : Vis X.env.scope x := by first | exact Or.inl rfl | exact Or.inr (Or.inl rfl) | exact Or.inr (Or.inr rfl)) (hd : (x == ("__debug__" : Str)) = false := by decide)
    (hcd : (x == ("__classdict__" : Str)) = false := by decide) (hbase : attributeBase (.Name x p) "extend" X.env (eval (.Name x p) X.env) = eval (.Name x p) X.env := by rfl)
    (hfew : ((backTo cpos (starEach [e] X.env)).all (fun x => !x.1) && (backToKw cpos (keywordEach [] X.env)).all (fun x => x.1.isSome)
      && decide ([e].length + ([] : List Keyword).length + (if ([] : List Keyword).isEmpty then 0 else 1) < 30)) = true := by rfl)
    (hline : (apos.endLine == cpos.line) = true := by rfl) (hs : starEach [e] X.env = (false, eval e X.env) :: starEach [] X.env := by rfl) (hplain : (backTo cpos (starEach [] X.env)).any (·.1) = false := by rfl) :
    PE X (.Call (.Attribute (.Name x p) "extend" apos) [e] [] cpos) (tE X.KW (extM i f)) :=
  PE.weak (pe_bm PySem.F.plainAttrs_list PySem.F.slot_list_extend PySem.F.type_list_extend mt_extend (pe_var hN hv hd hcd) (pa_cons ha pa_nil hs) hbase hfew hline hs hplain) tE_ext
end
end DV
end
section
set_option Elab.async false
set_option linter.all false
set_option maxRecDepth 100000
set_option maxHeartbeats 1000000
namespace DV
open PySem PySem.Spec PyProof.Rows L2
/-! ### dicts whose keys are tuples -/
section
variable {X : Cx} {pins : List (Addr × Obj)} {σ : L2.St} {H : Hp} {s : Shared} {O : Addr → Prop}
mutual
/-- a datum that may be part of a key, as it stands in the heap -/
theorem key_is (I : Inv X pins σ H s) : ∀ {c : D} {n : NestedKey} {v : V} {u : Value}, nkOf c = some n → Rp X.KW H O v c → RelV v u → NestedIs s.heap n u
  | .none, n, v, u, h, r, rv => by cases h; cases r; cases rv; exact .none
  | .int i, n, v, u, h, r, rv => by cases h; cases r; obtain ⟨t, rfl⟩ := rv; exact .int _ _
  | .str x, n, v, u, h, r, rv => by cases h; cases r; obtain ⟨t, rfl⟩ := rv; exact .text _ _
  | .tuple ds, n, v, u, h, r, rv => by
    unfold nkOf at h
    cases q : nkAll ds with
    | none => rw [q] at h; cases h
    | some ks =>
      rw [q] at h
      cases h
      cases r with
      | tup sq rl =>
        cases rv
        obtain ⟨us, rel, ⟨o, ho, hc, m, hd⟩, room⟩ := I.tuple sq.sq
        exact .tup ho hc hd (keys_are I q rl rel)
  | .bool _, _, _, _, h, _, _ => by cases h
  | .list _, _, _, _, h, _, _ => by cases h
  | .dict _, _, _, _, h, _, _ => by cases h
theorem keys_are (I : Inv X pins σ H s) : ∀ {ds : List D} {ks : List NestedKey} {vs : List V} {us : List Value}, nkAll ds = some ks → RpL X.KW H O vs ds → Vals vs us → NestedAll s.heap ks us
  | [], ks, vs, us, h, r, rv => by cases h; cases r; cases rv; exact .nil
  | d :: ds, ks, vs, us, h, r, rv => by
    unfold nkAll at h
    cases q : nkOf d with
    | none => rw [q] at h; cases h
    | some k =>
      cases q2 : nkAll ds with
      | none => rw [q, q2] at h; cases h
      | some ks2 =>
        rw [q, q2] at h
        cases h
        cases r with
        | cons r1 r2 =>
          cases rv with
          | cons v1 v2 => exact .cons (key_is I q r1 v1) (keys_are I q2 r2 v2)
end
/-- a tuple that is the key n stands at b -/
def KeyAt (K : KW) (H : Hp) (n : NestedKey) (b : Addr) : Prop := ∃ (O : Addr → Prop) (c : D), tkOf c = some n ∧ Rp K H O (.ref b) c
theorem tk_nk {c : D} {n : NestedKey} (h : tkOf c = some n) : nkOf c = some n ∧ n.depth ≤ 8 := by
  unfold tkOf at h
  split at h
  · split at h
    · rename_i k q
      split at h
      · rename_i l; cases h; exact ⟨q, l⟩
      · cases h
    · cases h
  · cases h
theorem KeyAt.is {n : NestedKey} {b : Addr} (I : Inv X pins σ H s) (k : KeyAt X.KW H n b) : (nestedKind X.prog X.w).is s.heap n b :=
  let ⟨_, _, h, r⟩ := k
  ⟨key_is I (tk_nk h).1 r (show RelV (.ref b) (.ref b) from rfl), (tk_nk h).2⟩
/-- the entries of the dict at a -/
structure NAt (K : KW) (H : Hp) (a : Addr) (xs : List (NestedKey × Addr × Value)) : Prop where
  st : (H a = some (.dK []) ∧ xs = []) ∨ (H a = some (.ext (DictX K.w a xs)) ∧ NdK a xs)
  ky : ∀ x ∈ xs, KeyAt K H x.1 x.2.1
theorem NAt.dict {a : Addr} {xs : List (NestedKey × Addr × Value)} (I : Inv X pins σ H s) (h : NAt X.KW H a xs) : s.heap.DictOfH (nestedKind X.prog X.w) a xs ∧ xs.length ≤ sizeLine ∧ (a == sysModules) = false := by
  rcases h.st with ⟨e, rfl⟩ | ⟨e, k⟩
  · obtain ⟨z, hd, vs, rel, o, es, ep, h1, h2, h3, h4, h5, h6⟩ := dk_of I.hok e
    cases rel
    have nil : es.toList = [] := by
      cases q : es.toList with
      | nil => rfl
      | cons y ys => rw [q] at h5; cases h5
    exact ⟨⟨o, es, ep, h1, h2, h3, nil, fun x hx => by simp at hx, List.nodup_nil⟩, z, hd⟩
  · obtain ⟨⟨o, es, ep, h1, h2, h3, h4⟩, _⟩ := I.hok a _ e
    exact ⟨⟨o, es, ep, h1, h2, h3, h4, fun x hx => (h.ky x hx).is I, k.nd⟩, k.ln, k.ns⟩
theorem NAt.mut {K : KW} {a : Addr} {xs : List (NestedKey × Addr × Value)} (h : NAt K H a xs) : Mut (H a) := by
  rcases h.st with ⟨e, _⟩ | ⟨e, _⟩ <;> rw [e] <;> exact True.intro
/-- an entry is laid -/
theorem n_setItem {a b : Addr} {xs : List (NestedKey × Addr × Value)} {n : NestedKey} {u : Value} {A : Around} {E : Value → Shared → Prop} {Q : Unit → Shared → Prop} (hu : A.units + 65 < cLine) (I : Inv X pins σ H s) (h : NAt X.KW H a xs) (k : KeyAt X.KW H n b) (few : (storedH xs n b u).length ≤ sizeLine)
    (q : ∀ s', Inv X pins σ (upd H a (.ext (DictX X.w a (storedH xs n b u)))) s' → NdK a (storedH xs n b u) → Q () s') : wpAny (model X.prog X.w) A (setItem (.ref a) (.ref b) u) Q E s := by
  obtain ⟨dd, room, ns⟩ := h.dict I
  refine wpAny_setItem_heap (hsz := room) (show A.in1.units + 8 < cLine by show A.units + 1 + 8 < cLine; omega) (k.is I) dd fun h' dd' same => q _ ?_ ?_
  · obtain ⟨o, es, ep, h1, h2, h3, h4, h5, h6⟩ := dd'
    exact d_write I h.mut same ⟨o, h1⟩ ⟨⟨o, es, ep, h1, h2, h3, h4⟩, ⟨o, h1⟩, fun g1 g2 ⟨o, es, ep, c1, c2⟩ e => ⟨o, es, ep, e o c1, c2⟩⟩
  · obtain ⟨o, es, ep, h1, h2, h3, h4, h5, h6⟩ := dd'
    exact ⟨h6, few, ns⟩
end

/-! on data -/
def getT (n : NestedKey) : List (D × D) → Option D
  | [] => none
  | p :: r => if tkOf p.1 = some n then some p.2 else getT n r
def putT (n : NestedKey) (c d : D) (kvs : List (D × D)) : List (D × D) := if (getT n kvs).isSome = true then kvs.map (fun p => if tkOf p.1 = some n then (p.1, d) else p) else kvs ++ [(c, d)]
def nstK (kvs : List (D × D)) : Bool := kvs.all fun p => (tkOf p.1).isSome
section
variable {K : KW} {H : Hp} {O : Addr → Prop}
theorem RpN.nst : ∀ {xs : List (NestedKey × Addr × Value)} {kvs : List (D × D)}, RpN K H O xs kvs → nstK kvs = true
  | _, _, .nil => rfl
  | _, _, .cons (c := c) (d := d) (kvs := kvs) e _ _ _ t => by
    show ((c, d) :: kvs).all (fun p => (tkOf p.1).isSome) = true
    rw [List.all_cons, e]; exact t.nst
theorem RpN.keys : ∀ {xs : List (NestedKey × Addr × Value)} {kvs : List (D × D)}, RpN K H O xs kvs → ∀ x ∈ xs, KeyAt K H x.1 x.2.1
  | _, _, .nil => fun x hx => by simp at hx
  | _, _, .cons e r _ _ t => fun x hx => by
    rcases List.mem_cons.mp hx with rfl | hx
    · exact ⟨O, _, e, r⟩
    · exact t.keys x hx
theorem atKey_cons (x : NestedKey × Addr × Value) (xs : List (NestedKey × Addr × Value)) (n : NestedKey) : atKey (x :: xs) n = if x.1 = n then some x.2 else atKey xs n := by
  unfold atKey
  by_cases e : x.1 = n
  · rw [List.find?_cons_of_pos (by simpa using e), if_pos e]; rfl
  · rw [List.find?_cons_of_neg (by simpa using e), if_neg e]
theorem RpN.get (n : NestedKey) : ∀ {xs : List (NestedKey × Addr × Value)} {kvs : List (D × D)}, RpN K H O xs kvs → (atKey xs n = none ∧ getT n kvs = none) ∨ ∃ b u v d, atKey xs n = some (b, u) ∧ getT n kvs = some d ∧ RelV v u ∧ Rp K H O v d
  | _, _, .nil => .inl ⟨rfl, rfl⟩
  | _, _, .cons (n := m) (b := b) (u := u) (v := v) (c := c) (d := d) e r rv rd t => by
    rw [atKey_cons]
    by_cases q : m = n
    · refine .inr ⟨b, u, v, d, if_pos q, ?_, rv, rd⟩
      unfold getT; rw [if_pos (by rw [e, q])]
    · have q2 : ¬ tkOf c = some n := by rw [e]; exact fun z => q (Option.some.inj z)
      rw [if_neg q]
      rcases t.get n with ⟨h1, h2⟩ | ⟨b', u', v', d', h1, h2, h3⟩
      · refine .inl ⟨h1, ?_⟩; unfold getT; rw [if_neg q2]; exact h2
      · refine .inr ⟨b', u', v', d', h1, ?_, h3⟩; unfold getT; rw [if_neg q2]; exact h2
theorem RpN.append : ∀ {xs ys : List (NestedKey × Addr × Value)} {as bs : List (D × D)}, RpN K H O xs as → RpN K H O ys bs → RpN K H O (xs ++ ys) (as ++ bs)
  | _, _, _, _, .nil, s => s
  | _, _, _, _, .cons e r rv rd t, s => .cons e r rv rd (RpN.append t s)
theorem RpN.turn {n : NestedKey} {u : Value} {v : V} {d : D} (rv : RelV v u) (rd : Rp K H O v d) : ∀ {xs : List (NestedKey × Addr × Value)} {kvs : List (D × D)}, RpN K H O xs kvs → RpN K H O (xs.map (putAt n u)) (kvs.map fun p => if tkOf p.1 = some n then (p.1, d) else p)
  | _, _, .nil => .nil
  | _, _, .cons (n := m) (c := c) e r rv' rd' t => by
    rw [List.map_cons, List.map_cons]
    by_cases q : m = n
    · rw [show putAt n u (m, _, _) = (m, _, u) from if_pos q, if_pos (by rw [e, q])]
      exact .cons e r rv rd (RpN.turn rv rd t)
    · rw [show putAt n u (m, _, _) = (m, _, _) from if_neg q, if_neg (by rw [e]; exact fun z => q (Option.some.inj z))]
      exact .cons e r rv' rd' (RpN.turn rv rd t)
theorem RpN.put {n : NestedKey} {b : Addr} {u : Value} {v : V} {c d : D} {xs : List (NestedKey × Addr × Value)} {kvs : List (D × D)} (r : RpN K H O xs kvs) (e : tkOf c = some n) (rc : Rp K H O (.ref b) c) (rv : RelV v u) (rd : Rp K H O v d) : RpN K H O (storedH xs n b u) (putT n c d kvs) := by
  unfold putT
  rcases r.get n with ⟨h1, h2⟩ | ⟨b', u', v', d', h1, h2, h3⟩
  · rw [h2, storedH_new h1, if_neg (by simp)]
    exact r.append (.cons e rc rv rd .nil)
  · rw [h2, storedH_old h1, if_pos (show (some d').isSome = true from rfl)]
    exact r.turn rv rd
theorem storedH_ne {xs : List (NestedKey × Addr × Value)} {n : NestedKey} {b : Addr} {u : Value} : storedH xs n b u ≠ [] := by
  cases q : atKey xs n with
  | none => rw [storedH_new q]; simp
  | some p =>
    rw [storedH_old q]
    cases xs with
    | nil => cases q
    | cons x xs => simp
theorem storedH_len {xs : List (NestedKey × Addr × Value)} {n : NestedKey} {b : Addr} {u : Value} : (storedH xs n b u).length ≤ xs.length + 1 := by
  cases q : atKey xs n with
  | none => rw [storedH_new q]; simp
  | some p => rw [storedH_old q]; simp
/-- what a dict of tuple keys is here -/
theorem Ct.nat {a : Addr} {kvs : List (D × D)} (c : Ct K H O a (.dict kvs)) (h : nstK kvs = true) : ∃ xs, NAt K H a xs ∧ RpN K H O xs kvs := by
  rcases c with ⟨_, _, e, _⟩ | ⟨ks, kvs', e, q, r⟩ | ⟨xs, kvs', e, q, n, k, r⟩
  · cases e
  · cases e
    cases r with
    | nil => exact ⟨[], ⟨.inl ⟨q, rfl⟩, fun x hx => by simp at hx⟩, .nil⟩
    | cons r1 r2 =>
      rename_i k v ks' d kvs'
      exact absurd h (by
        show ¬ ((keyD k, d) :: kvs').all (fun p => (tkOf p.1).isSome) = true
        cases k <;> simp [keyD, tkOf])
  · cases e
    exact ⟨xs, ⟨.inr ⟨q, k⟩, r.keys⟩, r⟩
theorem RpR.nat {v : V} {kvs : List (D × D)} (h0 : RpR K H O v (.dict kvs)) (h : nstK kvs = true) : ∃ a xs, v = .ref a ∧ NAt K H a xs ∧ RpN K H O xs kvs := by
  rcases h0 with q | ⟨a, rfl, c⟩
  · cases q with
    | dct e n r => obtain ⟨xs, h1, h2⟩ := Ct.nat (.inr (.inl ⟨_, _, rfl, e, r⟩)) h; exact ⟨_, xs, rfl, h1, h2⟩
    | dcn e n ne k r => exact ⟨_, _, rfl, ⟨.inr ⟨e, k⟩, r.keys⟩, r⟩
  · obtain ⟨xs, h1, h2⟩ := c.nat h
    exact ⟨a, xs, rfl, h1, h2⟩
theorem RpR.key_at {v : V} {c : D} {n : NestedKey} (h : RpR K H O v c) (e : tkOf c = some n) : ∃ b, v = .ref b ∧ Rp K H O (.ref b) c ∧ KeyAt K H n b := by
  cases c with
  | tuple ds =>
    rcases h with h | ⟨a, _, ⟨_, _, e, _⟩ | ⟨_, _, e, _⟩ | ⟨_, _, e, _⟩⟩
    · cases h with
      | tup q r => exact ⟨_, rfl, .tup q r, O, _, e, .tup q r⟩
    · cases e
    · cases e
    · cases e
  | _ => cases e
end
/-! ### d[k] = v -/
def sPut2 (K : KW) (td ty tv : TE) : TS := fun D σ H => tv σ H fun v H1 => td σ H1 fun x H2 => ty σ H2 fun y H3 => ∃ a, x = .ref a ∧ ((∃ H4, DPut H3 a y v H4 ∧ D.nx σ H4) ∨
  ∃ b xs n, y = .ref b ∧ NAt K H3 a xs ∧ KeyAt K H3 n b ∧ xs.length < sizeLine ∧ ∀ u, RelV v u → NdK a (storedH xs n b u) → D.nx σ (upd H3 a (.ext (DictX K.w a (storedH xs n b u)))))
section
variable {X : Cx}
theorem ps_put2 {o i value : Expr} {td ty tv : TE} {pos pos' : Pos} (hu : X.A.units + 65 < cLine) (ho : PE X o td) (hi : PE X i ty) (hv : PE X value tv) (hs : swapsWith value (some (.Subscript o i pos')) pos.line X.env = pure false) :
    PS X (.Assign [.Subscript o i pos'] value pos) (sPut2 X.KW td ty tv) := by
  refine ⟨fun pins s σ H D I want => ?_⟩
  refine wpAny_Assign_Subscript (thn (hv.run pins s σ H _ I want) fun r s1 ⟨v, H1, I1, rv, q1⟩ => thn (ho.run pins s1 σ H1 _ I1 q1) fun u s2 ⟨x, H2, I2, rx, q2⟩ => thn (hi.run pins s2 σ H2 _ I2 q2) fun w s3 ⟨y, H3, I3, ry, a, ex, how⟩ => ?_) hs
  subst ex
  obtain rfl : u = Value.ref a := rx
  rcases how with ⟨H4, g, q3⟩ | ⟨b, xs, n, rfl, at_, ky, few, q3⟩
  · exact d_setItem (by omega) I3 g ry rv fun s4 I4 => ⟨σ, H4, I4, q3⟩
  · obtain rfl : w = Value.ref b := ry
    exact n_setItem hu I3 at_ ky (Nat.le_trans storedH_len few) fun s4 I4 nk => ⟨σ, _, I4, q3 r rv nk⟩
end
/-- the slot's own dict -/
def owdM (i : Nat) : M Unit := fun e => match e.ρ[i]? with
  | some (some (.ow (.dict _))) => some ((), e)
  | _ => none
def putM (i : Nat) (fk fv : M Rs) : M Fl := bnd fv fun r => bnd (als r) fun v => bnd (owdM i) fun _ => bnd fk fun rk => bnd (rdM rk) fun kd => fun e => match e.ρ[i]? with
  | some (some (.ow (.dict kvs))) => match dKey kd with
    | some k => if kvs.length < 100000 ∧ smpK kvs = true then some (.nx, e.st i (some (.ow (.dict (putD k v kvs))))) else none
    | none => match tkOf kd with
      | some n => if kvs.length < 100000 ∧ nstK kvs = true then some (.nx, e.st i (some (.ow (.dict (putT n kd v kvs))))) else none
      | none => none
  | _ => none
theorem owd_eq {i : Nat} {e e1 : En} {u : Unit} (h : owdM i e = some (u, e1)) : e1 = e ∧ ∃ kvs, e.ρ[i]? = some (some (.ow (.dict kvs))) := by
  unfold owdM at h
  split at h
  · rename_i kvs q; cases h; exact ⟨rfl, kvs, q⟩
  · cases h
section
variable {X : Cx} {K : KW} {γ : List Addr} {e e1 e2 : En} {σ : L2.St} {H H1 H2 : Hp} {Z Z1 : Addr → Prop}
theorem tS_put {i : Nat} {fk fv : M Rs} : ∀ D σ H, tS K (putM i fk fv) D σ H → sPut2 K (tVar i) (tE K fk) (tE K fv) D σ H := by
  rintro D σ H ⟨γ, e, Z, fl, e', R, h, k⟩
  obtain ⟨r, e1, h1, ha⟩ := bnd_eq h
  obtain ⟨dv, e2, h2, hb⟩ := bnd_eq ha
  obtain ⟨u, e3, h3, hc⟩ := bnd_eq hb
  obtain ⟨rk, e4, h4, hd⟩ := bnd_eq hc
  obtain ⟨kd, e5, h5, he⟩ := bnd_eq hd
  obtain ⟨q5, rfl⟩ := rdM_eq h5
  obtain ⟨rfl, kv0, hi0⟩ := owd_eq h3
  split at he
  · rename_i kvs hi
    refine ⟨γ, e, Z, r, e1, R, h1, fun v H1 kp sh P => ?_⟩
    obtain ⟨Z1, h01, hf, R1, A1⟩ := P.one
    obtain ⟨Z2, h02, h21, R2, rp, sh2⟩ := als_ok h2 h01 R1 A1
    obtain ⟨w, hw, a, rfl, c0⟩ := R2.slot i _ hi0
    refine ⟨_, hw, γ, e3, Z2, rk, e5, R2, h4, fun y H3 kp3 sh3 P3 => ?_⟩
    obtain ⟨Z3, h23, hf3, R3, A3⟩ := P3.one
    obtain ⟨w1, hw1, a1, e6, c1⟩ := R3.slot i _ hi
    rw [hw] at hw1; cases hw1; cases e6
    have rp3 := Rp.stay (stay_of kp3 sh3 hf3) dv rp
    have hz : ∀ b, Z3 b → b ≠ a := fun b z q => (R3.mu i _ a hi rfl hw).1 (q ▸ z)
    have kpA := kp.trans (sh.trans sh2) kp3
    have shA := (sh.trans sh2).trans sh3
    refine ⟨a, rfl, ?_⟩
    split at he
    · rename_i key hk
      split at he
      · rename_i hl
        cases he
        rcases c1 with ⟨_, _, e6, _⟩ | ⟨ks, kvs2, e6, q, rr⟩ | ⟨ks, kvs2, e6, q, n, _, rr⟩
        · cases e6
        · cases e6
          have ky := (A3.rd R3 q5).key hk
          obtain ⟨R4, st, kp4, sh4⟩ := R3.chg hi hw hz (.inr (.inl ⟨_, _, rfl, rfl, rr.put rp3⟩))
          subst ky
          exact .inl ⟨_, DPut.k q (by rw [rr.length, sizeLine_eq]; omega), k γ σ _ (Stp.ev (kpA.trans shA kp4) (shA.trans sh4)) (R4.down fun b z => h23 b (h02 b z))⟩
        · cases e6
          have := rr.smp n
          rw [this] at hl; cases hl.2
      · cases he
    · split at he
      · rename_i n hn
        split at he
        · rename_i hl
          cases he
          obtain ⟨xs, at_, rr⟩ := c1.nat hl.2
          obtain ⟨b, rfl, rb, ka⟩ := (A3.rd R3 q5).key_at hn
          refine .inr ⟨b, xs, n, rfl, at_, ka, by rw [rr.length, sizeLine_eq]; omega, fun u ru nk => ?_⟩
          obtain ⟨R4, st, kp4, sh4⟩ := R3.chg hi hw hz (.inr (.inr ⟨_, _, rfl, rfl, storedH_ne, nk, rr.put hn rb ru rp3⟩))
          exact k γ σ _ (Stp.ev (kpA.trans shA kp4) (shA.trans sh4)) (R4.down fun b z => h23 b (h02 b z))
        · cases he
      · cases he
  · cases he
theorem ds_put {i : Nat} {x : Str} {p pos' pos : Pos} {ke value : Expr} {fk fv : M Rs} (hu : X.A.units + 65 < cLine) (hk : PE X ke (tE X.KW fk)) (hval : PE X value (tE X.KW fv)) (hs : swapsWith value (some (.Subscript (.Name x p) ke pos')) pos.line X.env = pure false := by rfl)
    (hN : X.N[i]? = some x := by rfl) (hv : Vis X.env.scope x := by first | exact Or.inl rfl | exact Or.inr (Or.inl rfl) | exact Or.inr (Or.inr rfl)) (hd : (x == ("__debug__" : Str)) = false := by decide) (hcd : (x == ("__classdict__" : Str)) = false := by decide) :
    PS X (.Assign [.Subscript (.Name x p) ke pos'] value pos) (tS X.KW (putM i fk fv)) := PS.weak (ps_put2 hu (pe_var hN hv hd hcd) hk hval hs) tS_put
end
end DV
end
section
set_option Elab.async false
set_option linter.all false
set_option maxRecDepth 100000
namespace DV
open PySem PySem.Spec PyProof.Rows L2
section
variable {X : Cx} {K : KW} {γ : List Addr} {e e1 e2 : En} {σ : L2.St} {H H1 H2 : Hp} {Z Z0 Z1 : Addr → Prop}

/-! ### d.setdefault(k, v) -/
def sdG (d : D) (ds : List D) : Option (D × D) := match d, ds with
  | .dict kvs, [kd, v] => match dKey kd with
    | some k => if kvs.length < 100000 ∧ smpK kvs = true then match getK k kvs with
      | some x => some (x, .dict kvs)
      | none => some (v, .dict (putD k v kvs))
      else none
    | none => none
  | _, _ => none
theorem sdG_eq {d : D} {ds : List D} {c d' : D} (h : sdG d ds = some (c, d')) : ∃ kvs kd v k, d = .dict kvs ∧ ds = [kd, v] ∧ dKey kd = some k ∧ (kvs.length < 100000 ∧ smpK kvs = true) ∧ ((getK k kvs = some c ∧ d' = d) ∨ (getK k kvs = none ∧ c = v ∧ d' = .dict (putD k v kvs))) := by
  unfold sdG at h
  split at h
  · rename_i kvs kd v
    split at h
    · rename_i k hk
      split at h
      · rename_i hl
        split at h
        · rename_i x hx
          cases h
          exact ⟨kvs, kd, v, k, rfl, rfl, hk, hl, .inl ⟨hx, rfl⟩⟩
        · rename_i hx
          cases h
          exact ⟨kvs, kd, _, k, rfl, rfl, hk, hl, .inr ⟨hx, rfl, rfl⟩⟩
      · cases h
    · cases h
  · cases h
theorem st_self {i : Nat} {s : Option Sl} (h : e.ρ[i]? = some s) : e.st i s = e := by
  have : e.ρ.set i s = e.ρ := by
    refine List.ext_getElem? fun j => ?_
    by_cases q : j = i
    · subst q; rw [List.getElem?_set_self (List.getElem?_eq_some_iff.mp h).1, h]
    · rw [List.getElem?_set_ne (Ne.symm q)]
  cases e
  simp only [En.st] at this ⊢
  rw [this]
theorem tE_sd {i : Nat} {fk fv : M Rs} : ∀ σ H Q, tE K (mtM "dict" i sdG (consF fk (consF fv (ret [])))) σ H Q → tDSetd (tVar i) (tE K fk) (tE K fv) σ H Q := by
  rintro σ H Q ⟨γ, e, Z, res, e', R, h, k⟩
  obtain ⟨u, e1, h1, ha⟩ := bnd_eq h
  obtain ⟨ds, e2, h2, hb⟩ := bnd_eq ha
  obtain ⟨rfl, d0, hi0, ty⟩ := rcv_eq h1
  obtain ⟨d, c, d', hi, hg, rfl, rfl⟩ := chg_eq hb
  obtain ⟨v, hv, a, rfl, c0⟩ := R.slot i _ hi0
  have isd : IsD H a := by
    rcases c0 with ⟨xs, ds, rfl, q, r⟩ | ⟨ks, kvs, rfl, q, r⟩ | ⟨ks, kvs, rfl, q, n, _, r⟩
    · exact absurd ty.1 (show ¬ ("list" = "dict") by decide)
    · exact .inl ⟨ks, .inl q⟩
    · exact absurd ty.2 (by rw [show tyKn (.dict _) = smpK _ from rfl, r.smp n]; exact Bool.false_ne_true)
  refine ⟨_, hv, a, rfl, isd, ?_⟩
  have main : ∀ vs H1, Kp γ e1.ρ σ H H1 → Sh e1 e2 → (∃ Z' : Addr → Prop, (∀ a, Z a → Z' a) ∧ (∀ a, Z' a → Z a ∨ H a = none) ∧ Rep K γ e2 σ H1 Z' ∧ RpL K H1 (Hid γ e2.ρ σ Z') vs ds) →
      ∃ y z, vs = [y, z] ∧ ∃ (kvs : List (L2.Key × V)) (k : L2.Key), H1 a = some (.dK kvs) ∧ y = kV k ∧ kvs.length < sizeLine ∧ (∀ v, valV kvs k = some v → Q v H1) ∧ (valV kvs k = none → Q z (upd H1 a (.dK (putK kvs k z)))) := by
    rintro vs H1 kp sh ⟨Z1, h01, hf, R1, rl⟩
    obtain ⟨kvs, kd, dv, key, rfl, rfl, hk, hl, hcase⟩ := sdG_eq hg
    cases rl with
    | cons r1 r2 =>
      rename_i y ys
      cases r2 with
      | cons r2 r3 =>
        rename_i z zs
        cases r3
        obtain ⟨v1, hv1, a1, e5, c1⟩ := R1.slot i _ hi
        rw [hv] at hv1; cases hv1; cases e5
        rcases c1 with ⟨_, _, e5, _⟩ | ⟨ks, kvs2, e5, q, r⟩ | ⟨ks, kvs2, e5, q, n, _, r⟩
        · cases e5
        · cases e5
          refine ⟨_, _, rfl, ks, key, q, (RpR.of_item r1).key hk, by rw [r.length, sizeLine_eq]; omega, fun w hw => ?_, fun hw => ?_⟩
          · rcases r.get key with ⟨g1, g2⟩ | ⟨w', dw, g1, g2, rw'⟩
            · rw [g1] at hw; cases hw
            · rw [g1] at hw; cases hw
              rcases hcase with ⟨g3, rfl⟩ | ⟨g3, _⟩
              · rw [g2] at g3; cases g3
                rw [st_self hi] at k
                exact k _ H1 kp sh ⟨Z1, h01, hf, R1, .cons rw' .nil⟩
              · rw [g2] at g3; cases g3
          · rcases r.get key with ⟨g1, g2⟩ | ⟨w', dw, g1, g2, rw'⟩
            · rcases hcase with ⟨g3, _⟩ | ⟨_, rfl, rfl⟩
              · rw [g2] at g3; cases g3
              · have hz : ∀ b, Z1 b → b ≠ a := fun b z q => (R1.mu i _ a hi rfl hv).1 (q ▸ z)
                obtain ⟨R2, st, kp2, sh2⟩ := R1.chg hi hv hz (.inr (.inl ⟨_, _, rfl, rfl, r.put r2⟩))
                exact k _ _ (kp.trans sh kp2) (sh.trans sh2) ⟨Z1, h01, hf, R2, .cons (Rp.stay st _ r2) .nil⟩
            · rw [g1] at hw; cases hw
        · cases e5; rw [r.smp n] at hl; cases hl.2
  have t := tF_cons (K := K) (fa := fk) (fs := consF fv (ret [])) σ H (fun vs H1 => ∃ y z, vs = [y, z] ∧ ∃ (kvs : List (L2.Key × V)) (k : L2.Key), H1 a = some (.dK kvs) ∧ y = kV k ∧ kvs.length < sizeLine ∧ (∀ v, valV kvs k = some v → Q v H1) ∧ (valV kvs k = none → Q z (upd H1 a (.dK (putK kvs k z))))) ⟨γ, e1, Z, ds, e2, R, h2, main⟩
  obtain ⟨γ3, e3, Z3, r3, e4, R3, h3, k3⟩ := t
  refine ⟨γ3, e3, Z3, r3, e4, R3, h3, fun x H3 kp3 sh3 P3 => ?_⟩
  have t4 := tF_cons (K := K) (fa := fv) (fs := ret []) σ H3 _ (k3 x H3 kp3 sh3 P3)
  obtain ⟨γ5, e5, Z5, r5, e6, R5, h5, k5⟩ := t4
  refine ⟨γ5, e5, Z5, r5, e6, R5, h5, fun y H5 kp5 sh5 P5 => ?_⟩
  have t6 := tF_nil (K := K) σ H5 _ (k5 y H5 kp5 sh5 P5)
  obtain ⟨y1, z1, e7, rest⟩ := t6
  cases e7
  exact rest
theorem de_sd {i : Nat} {x : Str} {p apos cpos : Pos} {e f : Expr} {fk fv : M Rs} (ha : PE X e (tE X.KW fk)) (hb : PE X f (tE X.KW fv)) (m : M2 X (.Name x p) "setdefault" apos e f cpos := by exact ⟨rfl, rfl, rfl, rfl⟩)
    (hN : X.N[i]? = some x := by rfl) (hv : Vis X.env.scope x := by first | exact Or.inl rfl | exact Or.inr (Or.inl rfl) | exact Or.inr (Or.inr rfl)) (hd : (x == ("__debug__" : Str)) = false := by decide) (hcd : (x == ("__classdict__" : Str)) = false := by decide) :
    PE X (.Call (.Attribute (.Name x p) "setdefault" apos) [e, f] [] cpos) (tE X.KW (mtM "dict" i sdG (consF fk (consF fv (ret []))))) := PE.weak (pe_dsetd (pe_var hN hv hd hcd) ha hb m) tE_sd

/-! ### a, b = x, y -/
def asgF (i : Nat) (r : Rs) : M Unit := fun e => match e.ρ[i]? with
  | none => none
  | some (some (.bo _)) => none
  | _ => match r with
    | .fz d => some ((), e.st i (some (.fz d)))
    | .fr d => some ((), e.st i (some (.ow d)))
    | .sl _ => none
theorem asgF_eq {i : Nat} {r : Rs} {u : Unit} (h : asgF i r e = some (u, e2)) : i < e.ρ.length ∧ (∀ d, e.ρ[i]? ≠ some (some (.bo d))) ∧ ((∃ d, r = .fz d ∧ e2 = e.st i (some (.fz d))) ∨ ∃ d, r = .fr d ∧ e2 = e.st i (some (.ow d))) := by
  unfold asgF at h
  split at h
  · cases h
  · cases h
  · rename_i n1 n2
    refine ⟨?_, fun d q => n2 _ q, ?_⟩
    · rcases Nat.lt_or_ge i e.ρ.length with c | c
      · exact c
      · exact absurd (List.getElem?_eq_none c) n1
    · split at h
      · cases h; exact .inl ⟨_, rfl, rfl⟩
      · cases h; exact .inr ⟨_, rfl, rfl⟩
      · cases h
/-- a step that only stores a name -/
structure Nst (Z0 Z1 : Addr → Prop) (e : En) (σ : L2.St) (e2 : En) (σ2 : L2.St) : Prop where
  mu : ∀ a, MutA e2.ρ σ2 a → MutA e.ρ σ a ∨ (Z1 a ∧ ¬ Z0 a)
  ow : ∀ a, OwnA e2.ρ σ2 a → OwnA e.ρ σ a ∨ (Z1 a ∧ ¬ Z0 a)
  bo : ∀ (i : Nat) (d : D), e.ρ[i]? = some (some (Sl.bo d)) → e2.ρ[i]? = some (some (Sl.bo d)) ∧ σ2[i]? = σ[i]?
  bb : ∀ (i : Nat) (d : D), e2.ρ[i]? = some (some (Sl.bo d)) → e.ρ[i]? = some (some (Sl.bo d))
  ln : e2.ρ.length = e.ρ.length
  m : e2.μ = e.μ
theorem asgF_ok {i : Nat} {r : Rs} {v : V} {u : Unit} (h : asgF i r e = some (u, e2)) (h01 : ∀ a, Z0 a → Z1 a) (R : Rep K γ e σ H Z1) (ok : RsOk K γ H e σ Z0 Z1 r v) :
    ∃ Z2 : Addr → Prop, (∀ a, Z0 a → Z2 a) ∧ (∀ a, Z2 a → Z1 a) ∧ (∀ a, Z1 a → (∀ d, r = .fr d → v ≠ .ref a) → Z2 a) ∧ Rep K γ e2 (σ.set i (some v)) H Z2 ∧ Nst Z0 Z1 e σ e2 (σ.set i (some v)) ∧ ∀ a, Hid γ e2.ρ (σ.set i (some v)) Z2 a → Hid γ e.ρ σ Z1 a := by
  obtain ⟨hi, nb, hc⟩ := asgF_eq h
  have hσ : i < σ.length := by rw [R.len]; exact hi
  have bo' : ∀ (s : Sl), ∀ (j : Nat) (d : D), e.ρ[j]? = some (some (Sl.bo d)) → (e.st i (some s)).ρ[j]? = some (some (Sl.bo d)) ∧ (σ.set i (some v))[j]? = σ[j]? := fun s j d hj => by
    have ne : j ≠ i := fun q => nb d (q ▸ hj)
    exact ⟨by show (e.ρ.set i _)[j]? = _; rw [List.getElem?_set_ne (Ne.symm ne)]; exact hj, by rw [List.getElem?_set_ne (Ne.symm ne)]⟩
  have bb' : ∀ (s : Sl), (∀ d, s ≠ .bo d) → ∀ (j : Nat) (d : D), (e.st i (some s)).ρ[j]? = some (some (Sl.bo d)) → e.ρ[j]? = some (some (Sl.bo d)) := fun s hs j d hj => by
    rcases set_get hj with ⟨_, e5⟩ | ⟨_, g⟩
    · exact absurd (Option.some.inj e5) (hs d)
    · exact g
  rcases hc with ⟨d, rfl, rfl⟩ | ⟨d, rfl, rfl⟩
  · have mm : ∀ a, MutA (e.st i (some (.fz d))).ρ (σ.set i (some v)) a → MutA e.ρ σ a := fun a ⟨j, x, h1, m, h2⟩ => by
      rcases set_get h1 with ⟨_, e5⟩ | ⟨ne, h1⟩
      · cases e5; cases m
      · rw [List.getElem?_set_ne (Ne.symm ne)] at h2; exact ⟨j, x, h1, m, h2⟩
    have oo : ∀ a, OwnA (e.st i (some (.fz d))).ρ (σ.set i (some v)) a → OwnA e.ρ σ a := fun a ⟨j, x, h1, h2⟩ => by
      rcases set_get h1 with ⟨_, e5⟩ | ⟨ne, h1⟩
      · cases e5
      · rw [List.getElem?_set_ne (Ne.symm ne)] at h2; exact ⟨j, x, h1, h2⟩
    exact ⟨Z1, h01, fun _ z => z, fun _ z _ => z, R.put hi rfl ok, ⟨fun a z => .inl (mm a z), fun a z => .inl (oo a z), bo' _, bb' _ (by rintro d ⟨⟩), by simp, rfl⟩, fun a z => z.imp (mm a) id⟩
  · obtain ⟨p, rfl, hp, np, c⟩ := ok
    have mm : ∀ a, MutA (e.st i (some (.ow d))).ρ (σ.set i (some (.ref p))) a → MutA e.ρ σ a ∨ a = p := fun a ⟨j, x, h1, m, h2⟩ => by
      rcases set_get h1 with ⟨q, e5⟩ | ⟨ne, h1⟩
      · subst q; rw [List.getElem?_set_self hσ] at h2; cases h2; exact .inr rfl
      · rw [List.getElem?_set_ne (Ne.symm ne)] at h2; exact .inl ⟨j, x, h1, m, h2⟩
    have oo : ∀ a, OwnA (e.st i (some (.ow d))).ρ (σ.set i (some (.ref p))) a → OwnA e.ρ σ a ∨ a = p := fun a ⟨j, x, h1, h2⟩ => by
      rcases set_get h1 with ⟨q, e5⟩ | ⟨ne, h1⟩
      · subst q; rw [List.getElem?_set_self hσ] at h2; cases h2; exact .inr rfl
      · rw [List.getElem?_set_ne (Ne.symm ne)] at h2; exact .inl ⟨j, x, h1, h2⟩
    refine ⟨fun a => Z1 a ∧ a ≠ p, fun a z => ⟨h01 a z, fun q => np (q ▸ z)⟩, fun _ z => z.1, fun a z n => ⟨z, fun q => n d rfl (by rw [q])⟩, R.putOw hi hp c, ⟨fun a z => (mm a z).imp id fun q => by subst q; exact ⟨hp, np⟩, fun a z => (oo a z).imp id fun q => by subst q; exact ⟨hp, np⟩, bo' _, bb' _ (by rintro d ⟨⟩), by simp, rfl⟩, fun a z => ?_⟩
    rcases z with z | z | z
    · rcases mm a z with z | z
      · exact .inl z
      · exact .inr (.inr (z ▸ hp))
    · exact .inr (.inl z)
    · exact .inr (.inr z.1)
theorem Nst.stp {σ2 : L2.St} (kp : Kp γ e.ρ σ H H1) (sh : Sh e e1) (n : Nst Z0 Z1 e1 σ e2 σ2) (hz : ∀ a, Z1 a → Z0 a ∨ H a = none) : Stp γ e σ H γ e2 σ2 H1 where
  pre := ⟨[], by simp⟩
  nw := fun _ h => .inl h
  st := kp.st
  th := kp.th
  mu := fun a h => by
    rcases n.mu a h with z | ⟨z, nz⟩
    · exact .inl (sh.mu z)
    · exact .inr ((hz a z).resolve_left nz)
  ow := fun a h => by
    rcases n.ow a h with z | ⟨z, nz⟩
    · exact .inl (sh.own z)
    · exact .inr ((hz a z).resolve_left nz)
  bo := fun i d h => n.bo i d (sh.bo i d h)
  bb := fun i d h => sh.bb i d (n.bb i d h)
  ln := n.ln.trans sh.ln
theorem Nst.trans {σ2 σ3 : L2.St} {Z2 : Addr → Prop} (a : Nst Z0 Z1 e σ e1 σ2) (b : Nst Z0 Z2 e1 σ2 e2 σ3) (h : ∀ x, Z2 x → Z1 x) : Nst Z0 Z1 e σ e2 σ3 where
  mu := fun x z => by
    rcases b.mu x z with z | ⟨z, n⟩
    · exact a.mu x z
    · exact .inr ⟨h x z, n⟩
  ow := fun x z => by
    rcases b.ow x z with z | ⟨z, n⟩
    · exact a.ow x z
    · exact .inr ⟨h x z, n⟩
  bo := fun i d z => by
    obtain ⟨h1, h2⟩ := a.bo i d z
    obtain ⟨h3, h4⟩ := b.bo i d h1
    exact ⟨h3, h4.trans h2⟩
  bb := fun i d z => a.bb i d (b.bb i d z)
  ln := b.ln.trans a.ln
  m := b.m.trans a.m
def noSl : Rs → M Unit := fun r e => match r with
  | .sl _ => none
  | _ => some ((), e)
theorem noSl_eq {r : Rs} {u : Unit} (h : noSl r e = some (u, e1)) : e1 = e ∧ ∀ i, r ≠ .sl i := by
  cases r with
  | sl i => cases h
  | fz d => cases h; exact ⟨rfl, fun i => by rintro ⟨⟩⟩
  | fr d => cases h; exact ⟨rfl, fun i => by rintro ⟨⟩⟩
def parM (i j : Nat) (fa fb : M Rs) : M Fl := bnd fa fun a => bnd (noSl a) fun _ => bnd fb fun b => bnd (asgF i a) fun _ => bnd (asgF j b) fun _ => ret .nx
theorem tS_par {i j : Nat} {fa fb : M Rs} : ∀ D σ H, tS K (parM i j fa fb) D σ H → tPar i j (tCons (tE K fa) (tCons (tE K fb) tNil)) D σ H := by
  rintro D σ H ⟨γ, e, Z, fl, e', R, h, k⟩
  obtain ⟨a, e1, h1, hq1⟩ := bnd_eq h
  obtain ⟨u0, e2, h2, hq2⟩ := bnd_eq hq1
  obtain ⟨b, e3, h3, hq3⟩ := bnd_eq hq2
  obtain ⟨u1, e4, h4, hq4⟩ := bnd_eq hq3
  obtain ⟨u2, e5, h5, hq5⟩ := bnd_eq hq4
  cases hq5
  obtain ⟨rfl, na⟩ := noSl_eq h2
  refine ⟨γ, e, Z, a, e2, R, h1, fun v H1 kp sh P => ?_⟩
  obtain ⟨Z1, h01, hf, R1, A1⟩ := P.one
  refine ⟨γ, e2, Z1, b, e3, R1, h3, fun w H2 kp2 sh2 P2 => ⟨v, w, rfl, ?_⟩⟩
  obtain ⟨Z2, h12, hf2, R2, A2⟩ := P2.one
  have A1' := A1.keep R1 R2 kp2 sh2 h12 hf2
  obtain ⟨Z3, g1, g2, g3, R3, n3, hs3⟩ := asgF_ok h4 (fun x z => h12 x (h01 x z)) R2 A1'
  have nb : ∀ i, b ≠ .sl i := fun l q => by
    subst q
    obtain ⟨_, _, c⟩ := asgF_eq h5
    rcases c with ⟨d, q, _⟩ | ⟨d, q, _⟩ <;> cases q
  have hZ1v : ∀ p, v = .ref p → (∃ d, a = .fr d) → Z1 p := fun p ev ⟨d, ea⟩ => by
    subst ea
    obtain ⟨p', ev', hp, _⟩ := A1
    rw [ev] at ev'; cases ev'; exact hp
  have hb3 : RsOk K γ H2 e4 (σ.set i (some v)) Z Z3 b w := by
    cases b with
    | sl l => exact absurd rfl (nb l)
    | fz d => exact Rp.stay (stay_refl fun x o _ z => hs3 x z) d A2
    | fr d =>
      obtain ⟨p, rfl, hp, np, c⟩ := A2
      refine ⟨p, rfl, ?_, fun z => np (h01 p z), c.stay (stay_refl fun x o _ z => hs3 x z) fun o ho => ho⟩
      refine g3 p hp fun da ea ev => ?_
      exact np (hZ1v p ev ⟨da, ea⟩)
  obtain ⟨Z4, f1, f2, f3, R4, n4, hs4⟩ := asgF_ok h5 g1 R3 hb3
  have hall : ∀ x, Z2 x → Z x ∨ H x = none := fun x z => by
    rcases hf2 x z with z | z
    · exact hf x z
    · exact .inr (kp.none z)
  exact k γ _ H2 (Nst.stp (kp.trans sh kp2) (sh.trans sh2) (Nst.trans (e1 := e4) (σ2 := σ.set i (some v)) n3 n4 g2) hall) (R4.down f1)
end
end DV
end
section
set_option Elab.async false
set_option linter.all false
set_option maxRecDepth 100000
namespace DV
open PySem PySem.Spec PyProof.Rows L2
section
variable {X : Cx} {K : KW} {γ : List Addr} {e e1 e2 : En} {σ : L2.St} {H H1 H2 : Hp} {Z Z0 Z1 : Addr → Prop}
theorem ds_par {i j : Nat} {x y : Str} {a b : Expr} {fa fb : M Rs} {px py pt pos : Pos} {kt k2 pt2} (ha : PE X a (tE X.KW fa)) (hb : PE X b (tE X.KW fb)) (hN : X.N.Nodup) (hij : i ≠ j := by decide) (hi : X.N[i]? = some x := by rfl) (hj : X.N[j]? = some y := by rfl) (hc : X.calm = true := by rfl)
    (hx : X.env.scope.names.lookup x = some .local := by rfl) (hy : X.env.scope.names.lookup y = some .local := by rfl) (hw : swappedStores [.Tuple [.Name x px, .Name y py] kt pt] (.Tuple [a, b] k2 pt2) X.env = pure (some [x, y]) := by with_unfolding_all rfl)
    (hs : swapsWithSole [.Tuple [.Name x px, .Name y py] kt pt] (.Tuple [a, b] k2 pt2) pos.line X.env = pure false := by rfl) (h1 : starEach [a, b] X.env = (false, eval a X.env) :: starEach [b] X.env := by rfl) (h2 : starEach [b] X.env = (false, eval b X.env) :: starEach [] X.env := by rfl) :
    PS X (.Assign [.Tuple [.Name x px, .Name y py] kt pt] (.Tuple [a, b] k2 pt2) pos) (tS X.KW (parM i j fa fb)) := PS.weak (ps_par hc hN hi hj hij hx hy (pa_cons ha (pa_cons hb pa_nil h2) h1) hw hs) tS_par
/-- three, handed on for good -/
def st3 (i j l : Nat) (ds : List D) : M Fl := match ds with
  | [a, b, c] => bnd (asg i (.fz a)) fun _ => bnd (asg j (.fz b)) fun _ => bnd (asg l (.fz c)) fun _ => ret .nx
  | _ => noM
def par3M (i j l : Nat) (fs : M (List D)) : M Fl := bnd fs (st3 i j l)
theorem tS_par3 {i j l : Nat} {fs : M (List D)} : ∀ D σ H, tS K (par3M i j l fs) D σ H → tPar3 i j l (tF K fs) D σ H := by
  rintro D σ H ⟨γ, e, Z, fl, e', R, h, k⟩
  obtain ⟨ds, e1, h1, h2⟩ := bnd_eq h
  unfold st3 at h2
  split at h2
  · obtain ⟨u1, e2, h3, h4⟩ := bnd_eq h2
    obtain ⟨u2, e3, h5, h6⟩ := bnd_eq h4
    obtain ⟨u3, e4, h7, h8⟩ := bnd_eq h6
    cases h8
    refine ⟨γ, e, Z, _, e1, R, h1, fun vs H1 kp sh ⟨Z1, h01, hf, R1, rl⟩ => ?_⟩
    cases rl with
    | cons r1 rl =>
      cases rl with
      | cons r2 rl =>
        cases rl with
        | cons r3 rl =>
          cases rl
          refine ⟨_, _, _, rfl, ?_⟩
          have R1' := R1.down h01
          have st0 : Stay H1 H1 (Hid γ e1.ρ σ Z1) (Hid γ e1.ρ σ Z) := stay_refl fun a o _ z => z.imp id (Or.imp id (h01 a))
          obtain ⟨R2, s2⟩ := asg_ok (γ := γ) (e := e1) h3 (fun _ z => z) (fun _ z => .inl z) Stp.refl R1' (show RsOk K γ H1 e1 σ Z Z (.fz _) _ from Rp.stay st0 _ r1)
          have st1 := s2.stay (Z := Z) (Z' := Z) fun a z => .inl z
          obtain ⟨R3, s3⟩ := asg_ok (γ := γ) (e := e2) h5 (fun _ z => z) (fun _ z => .inl z) Stp.refl R2 (show RsOk K γ H1 e2 _ Z Z (.fz _) _ from Rp.stay st1 _ (Rp.stay st0 _ r2))
          have st2 := s3.stay (Z := Z) (Z' := Z) fun a z => .inl z
          obtain ⟨R4, s4⟩ := asg_ok (γ := γ) (e := e3) h7 (fun _ z => z) (fun _ z => .inl z) Stp.refl R3 (show RsOk K γ H1 e3 _ Z Z (.fz _) _ from Rp.stay st2 _ (Rp.stay st1 _ (Rp.stay st0 _ r3)))
          exact k γ _ H1 ((((Stp.ev kp sh).trans s2).trans s3).trans s4) R4
  · cases h2
theorem ds_par3 {i j l : Nat} {x y z : Str} {a b c : Expr} {fs : M (List D)} {px py pz pt pos : Pos} {kt k2 pt2} (ha : PA X [a, b, c] (tF X.KW fs)) (hN : X.N.Nodup) (hij : i ≠ j := by decide) (hil : i ≠ l := by decide) (hjl : j ≠ l := by decide) (hi : X.N[i]? = some x := by rfl) (hj : X.N[j]? = some y := by rfl) (hl : X.N[l]? = some z := by rfl) (hc : X.calm = true := by rfl)
    (hx : X.env.scope.names.lookup x = some .local := by rfl) (hy : X.env.scope.names.lookup y = some .local := by rfl) (hz : X.env.scope.names.lookup z = some .local := by rfl)
    (hw : swappedStores [.Tuple [.Name x px, .Name y py, .Name z pz] kt pt] (.Tuple [a, b, c] k2 pt2) X.env = pure (some [x, y, z]) := by with_unfolding_all rfl)
    (hs : swapsWithSole [.Tuple [.Name x px, .Name y py, .Name z pz] kt pt] (.Tuple [a, b, c] k2 pt2) pos.line X.env = pure false := by rfl) :
    PS X (.Assign [.Tuple [.Name x px, .Name y py, .Name z pz] kt pt] (.Tuple [a, b, c] k2 pt2) pos) (tS X.KW (par3M i j l fs)) := PS.weak (ps_par3 hc hN hi hj hl hij hil hjl hx hy hz ha hw hs) tS_par3

/-! ### [..] * k, of a list just made -/
def repM (fa fb : M Rs) : M Rs := bnd fa fun a => bnd fb fun b => bnd (rdM b) fun y => match a, y with
  | .fr (.list xs), .int k => if xs.length * k.toNat ≤ 100000 ∧ -1000000 ≤ k ∧ k ≤ 1000000 then ret (.fr (.list (repD k.toNat xs))) else noM
  | _, _ => noM
theorem RpL.rep {O : Addr → Prop} {xs : List V} {ds : List D} (r : RpL K H O xs ds) : ∀ n : Nat, RpL K H O (List.replicate n xs).flatten (repD n ds)
  | 0 => .nil
  | n + 1 => by
    show RpL K H O (List.replicate (n + 1) xs).flatten (List.replicate (n + 1) ds).flatten
    rw [List.replicate_succ, List.replicate_succ, List.flatten_cons, List.flatten_cons]
    exact r.append (RpL.rep r n)
theorem tE_rep {fa fb : M Rs} : ∀ σ H Q, tE K (repM fa fb) σ H Q → tOp rRep (tE K fa) (tE K fb) σ H Q := by
  rintro σ H Q ⟨γ, e, Z, res, e', R, h, k⟩
  obtain ⟨a, e1, h1, h2⟩ := bnd_eq h
  obtain ⟨b, e2, h3, h4⟩ := bnd_eq h2
  obtain ⟨y, e3, h5, h6⟩ := bnd_eq h4
  obtain ⟨q5, rfl⟩ := rdM_eq h5
  split at h6
  · rename_i xs n
    split at h6
    · rename_i c
      cases h6
      refine ⟨γ, e, Z, _, e1, R, h1, fun v H1 kp sh P => ?_⟩
      obtain ⟨Z1, h01, hf, R1, A1⟩ := P.one
      refine ⟨γ, e1, Z1, b, _, R1, h3, fun w H2 kp2 sh2 P2 => ?_⟩
      obtain ⟨Z2, h12, hf2, R2, A2⟩ := P2.one
      have A1' := A1.keep R1 R2 kp2 sh2 h12 hf2
      obtain ⟨p, rfl, hp, np, ct⟩ := A1'
      rcases ct with ⟨xv, xd, e5, q, r⟩ | ⟨_, _, e5, _⟩ | ⟨_, _, e5, _⟩
      · cases e5
        refine ⟨p, n, xv, rfl, (A2.rd R2 q5).int, q, by omega, by omega, by rw [r.length, sizeLine_eq]; omega, fun p2 hp2 => ?_⟩
        obtain ⟨kp3, P3⟩ := (Gr.lst (K := K) (O := Hid γ e'.ρ σ Z2) (Same.refl H2) hp2 (r.rep n.toNat)).pst R2
        exact k _ _ ((kp.trans sh kp2).trans (sh.trans sh2) kp3) (sh.trans sh2) (Pst.next (rs0 := []) (xs0 := []) kp h01 hf (Pst.next (rs0 := []) (xs0 := []) kp2 h12 hf2 P3))
      · cases e5
      · cases e5
    · cases h6
  · cases h6
theorem de_rep {a b : Expr} {fa fb : M Rs} {pos : Pos} (ha : PE X a (tE X.KW fa)) (hb : PE X b (tE X.KW fb)) : PE X (.BinOp a .Mult b pos) (tE X.KW (repM fa fb)) := PE.weak (pe_op op_rep ha hb) tE_rep

/-! ### cells -/
def asgP (i : Nat) (r : Rs) : M Unit := fun e => match r with
  | .fr (.list [.int x, .int y]) => if i < e.ρ.length then match e.ρ[i]? with
      | some (some (.bo _)) => none
      | _ => some ((), { ρ := e.ρ.set i (some (.pt e.μ.length)), μ := e.μ ++ [(x, y)] })
      else none
  | _ => none
theorem asgP_eq {i : Nat} {r : Rs} {u : Unit} (h : asgP i r e = some (u, e2)) : ∃ x y, r = .fr (.list [.int x, .int y]) ∧ i < e.ρ.length ∧ (∀ d, e.ρ[i]? ≠ some (some (.bo d))) ∧ e2 = { ρ := e.ρ.set i (some (.pt e.μ.length)), μ := e.μ ++ [(x, y)] } := by
  unfold asgP at h
  split at h
  · split at h
    · rename_i x y hi
      split at h
      · cases h
      · rename_i nb
        cases h
        exact ⟨x, y, rfl, hi, fun d q => nb _ q, rfl⟩
    · cases h
  · cases h
def potM (i : Nat) (f : M Rs) : M Fl := bnd f fun r => bnd (asgP i r) fun _ => ret .nx
theorem tS_pot {i : Nat} {f : M Rs} : ∀ D σ H, tS K (potM i f) D σ H → tAsg (tE K f) (gName i) D σ H := by
  rintro D σ H ⟨γ, e, Z, fl, e', R, h, k⟩
  obtain ⟨r, e1, h1, h2⟩ := bnd_eq h
  obtain ⟨u, e2, h3, h4⟩ := bnd_eq h2
  cases h4
  obtain ⟨x, y, rfl, hi, nb, rfl⟩ := asgP_eq h3
  refine ⟨γ, e, Z, _, e1, R, h1, fun v H1 kp sh P => ?_⟩
  obtain ⟨Z1, h01, hf, R1, A1⟩ := P.one
  obtain ⟨p, rfl, hp, np, ct⟩ := A1
  have hpn : H p = none := (hf p hp).resolve_left np
  rcases ct with ⟨xs, ds, e5, q, rl⟩ | ⟨_, _, e5, _⟩ | ⟨_, _, e5, _⟩
  case inr.inl => cases e5
  case inr.inr => cases e5
  cases e5
  have hq : H1 p = some (.lst [.int x, .int y]) := by
    cases rl with
    | cons a rl =>
      cases rl with
      | cons b rl => cases rl; cases a; cases b; exact q
  have hσ : i < σ.length := by rw [R1.len]; exact hi
  have pg : p ∉ γ := fun z => R1.cz p z hp
  have pm : ∀ (j : Nat) (s : Sl), e1.ρ[j]? = some (some s) → s.isMu = true → σ[j]? ≠ some (some (.ref p)) := fun j s h1 m h2 => (R1.mu j s p h1 m h2).1 hp
  have mm : ∀ a, MutA (e1.ρ.set i (some (Sl.pt e1.μ.length))) (σ.set i (some (.ref p))) a → MutA e1.ρ σ a := fun a ⟨j, s, h1, m, h2⟩ => by
    rcases set_get h1 with ⟨_, e5⟩ | ⟨ne, h1⟩
    · cases e5; cases m
    · rw [List.getElem?_set_ne (Ne.symm ne)] at h2; exact ⟨j, s, h1, m, h2⟩
  have oo : ∀ a, OwnA (e1.ρ.set i (some (Sl.pt e1.μ.length))) (σ.set i (some (.ref p))) a → OwnA e1.ρ σ a := fun a ⟨j, s, h1, h2⟩ => by
    rcases set_get h1 with ⟨_, e5⟩ | ⟨ne, h1⟩
    · cases e5
    · rw [List.getElem?_set_ne (Ne.symm ne)] at h2; exact ⟨j, s, h1, h2⟩
  have st : Stay H1 H1 (Hid γ e1.ρ σ Z1) (Hid (γ ++ [p]) (e1.ρ.set i (some (Sl.pt e1.μ.length))) (σ.set i (some (.ref p))) Z) := stay_refl fun a o _ z => by
    rcases z with z | z | z
    · exact .inl (mm a z)
    · rcases List.mem_append.mp z with z | z
      · exact .inr (.inl z)
      · rw [List.mem_singleton.mp z]; exact .inr (.inr hp)
    · exact .inr (.inr (h01 a z))
  refine k (γ ++ [p]) _ H1 ⟨⟨[p], rfl⟩, fun a ha => ?_, kp.st, kp.th, fun a z => .inl (sh.mu (mm a z)), fun a z => .inl (sh.own (oo a z)), fun j d hj => ?_, fun j d hj => ?_, by simp [sh.ln]⟩
    ⟨by simp [R1.len], fun j s hj => ?_, fun j s a hj m h2 => ?_, fun j d a hj h2 j' s h3 m h4 => ?_, by simp [R1.cl], ?_, fun l a x' y' g1 g2 => ?_, fun a ha z => ?_, fun a z => R1.zt a (h01 a z)⟩
  · rcases List.mem_append.mp ha with z | z
    · exact .inl z
    · rw [List.mem_singleton.mp z]; exact .inr hpn
  · have hj1 := sh.bo j d hj
    have ne : j ≠ i := fun q => nb d (q ▸ hj1)
    exact ⟨by show (e1.ρ.set i _)[j]? = _; rw [List.getElem?_set_ne (Ne.symm ne)]; exact hj1, by rw [List.getElem?_set_ne (Ne.symm ne)]⟩
  · rcases set_get hj with ⟨_, e5⟩ | ⟨_, g⟩
    · cases e5
    · exact sh.bb j d g
  · rcases set_get hj with ⟨q1, e5⟩ | ⟨ne, hj⟩
    · subst q1
      cases e5
      exact ⟨_, List.getElem?_set_self hσ, p, rfl, by rw [← R1.cl, List.getElem?_append_right (Nat.le_refl _), Nat.sub_self]; rfl⟩
    · obtain ⟨w, hw, ok⟩ := R1.slot j s hj
      refine ⟨w, by rw [List.getElem?_set_ne (Ne.symm ne)]; exact hw, ?_⟩
      cases s with
      | fz d => exact Rp.stay st d ok
      | ow d => obtain ⟨a, rfl, c⟩ := ok; exact ⟨a, rfl, c.stay st fun o ho => ho⟩
      | bo d => obtain ⟨a, rfl, c⟩ := ok; exact ⟨a, rfl, c.stay st fun o ho => ho⟩
      | pt l =>
        obtain ⟨a, rfl, c⟩ := ok
        exact ⟨a, rfl, by rw [List.getElem?_append_left (List.getElem?_eq_some_iff.mp c).1]; exact c⟩
  · rcases set_get hj with ⟨_, e5⟩ | ⟨ne, hj⟩
    · cases e5; cases m
    · rw [List.getElem?_set_ne (Ne.symm ne)] at h2
      obtain ⟨g1, g2⟩ := R1.mu j s a hj m h2
      refine ⟨fun z => g1 (h01 a z), fun z => ?_⟩
      rcases List.mem_append.mp z with z | z
      · exact g2 z
      · exact pm j s hj m (List.mem_singleton.mp z ▸ h2)
  · rcases set_get hj with ⟨_, e5⟩ | ⟨ne, hj⟩
    · cases e5
    · rcases set_get h3 with ⟨_, e5⟩ | ⟨ne', h3⟩
      · cases e5; cases m
      · rw [List.getElem?_set_ne (Ne.symm ne)] at h2
        rw [List.getElem?_set_ne (Ne.symm ne')] at h4
        exact R1.own j d a hj h2 j' s h3 m h4
  · rw [List.nodup_append]
    exact ⟨R1.nd, by simp, fun a ha b hb q => pg (List.mem_singleton.mp hb ▸ q ▸ ha)⟩
  · rcases Nat.lt_or_ge l γ.length with c | c
    · rw [List.getElem?_append_left c] at g1
      have c2 : l < e1.μ.length := by rw [← R1.cl]; exact c
      have g2' : (e1.μ ++ [(x, y)])[l]? = some (x', y') := g2
      rw [List.getElem?_append_left c2] at g2'
      exact R1.cell l a x' y' g1 g2'
    · rw [List.getElem?_append_right c] at g1
      have c2 : e1.μ.length ≤ l := by rw [← R1.cl]; exact c
      have g2' : (e1.μ ++ [(x, y)])[l]? = some (x', y') := g2
      rw [List.getElem?_append_right c2] at g2'
      have e0 : l - γ.length = 0 := by
        rcases Nat.eq_zero_or_pos (l - γ.length) with c3 | c3
        · exact c3
        · rw [List.getElem?_eq_none (by simp; omega)] at g1; cases g1
      have e1' : l - e1.μ.length = 0 := by rw [← R1.cl]; exact e0
      rw [e0] at g1
      rw [e1'] at g2'
      cases g1
      cases g2'
      exact hq
  · rcases List.mem_append.mp ha with z1 | z1
    · exact R1.cz a z1 (h01 a z)
    · exact np (List.mem_singleton.mp z1 ▸ z)
theorem ds_pot {i : Nat} {x : Str} {e : Expr} {f : M Rs} {pos pos' : Pos} (he : PE X e (tE X.KW f)) (hN : X.N.Nodup) (hi : X.N[i]? = some x := by rfl) (hx : Loc X.env.scope x := by first | exact Or.inl rfl | exact Or.inr rfl)
    (hs : swapsWith e (some (.Name x pos')) pos.line X.env = pure false := by rfl) (hf : X.fn x = true ∨ X.env.scope.names.lookup x = some .local := by first | exact .inl rfl | exact .inr rfl | assumption) :
    PS X (.Assign [.Name x pos'] e pos) (tS X.KW (potM i f)) := PS.weak (ps_set (i := i) hN hi hx he hs hf) tS_pot
theorem nodup_at {α : Type} : ∀ {l : List α} {i j : Nat} {x : α}, l.Nodup → l[i]? = some x → l[j]? = some x → i = j
  | [], i, j, x, _, h, _ => by simp at h
  | a :: l, 0, 0, x, _, _, _ => rfl
  | a :: l, 0, j + 1, x, n, h, g => by
    simp only [List.getElem?_cons_zero, Option.some.injEq] at h
    subst h
    exact absurd (List.mem_of_getElem? (by simpa using g)) (List.nodup_cons.mp n).1
  | a :: l, i + 1, 0, x, n, h, g => by
    simp only [List.getElem?_cons_zero, Option.some.injEq] at g
    subst g
    exact absurd (List.mem_of_getElem? (by simpa using h)) (List.nodup_cons.mp n).1
  | a :: l, i + 1, j + 1, x, n, h, g => congrArg (· + 1) (nodup_at (List.nodup_cons.mp n).2 (by simpa using h) (by simpa using g))
/-- a cell's two ints change -/
theorem Rep.cel {k : Nat} {a : Addr} {x y : Int} (R : Rep K γ e σ H Z) (hk : γ[k]? = some a) : Rep K γ { e with μ := e.μ.set k (x, y) } σ (upd H a (.lst [.int x, .int y])) Z ∧ Kp γ e.ρ σ H (upd H a (.lst [.int x, .int y])) ∧ Stay H (upd H a (.lst [.int x, .int y])) (Hid γ e.ρ σ Z) (Hid γ e.ρ σ Z) := by
  have ha : a ∈ γ := List.mem_of_getElem? hk
  have st : Stay H (upd H a (.lst [.int x, .int y])) (Hid γ e.ρ σ Z) (Hid γ e.ρ σ Z) := fun b o hb nb => ⟨by rw [upd_ne (fun (z : b = a) => nb (.inr (.inl (z ▸ ha))))]; exact hb, nb⟩
  refine ⟨⟨R.len, fun j s hj => ?_, R.mu, R.own, by simp [R.cl], R.nd, fun l b x' y' g1 g2 => ?_, R.cz, fun b z => ?_⟩, ⟨fun b o hb _ ng => ?_, fun b o hb => ?_⟩, st⟩
  · obtain ⟨w, hw, ok⟩ := R.slot j s hj
    refine ⟨w, hw, ok.stay st fun b eb m o ho => ?_⟩
    subst eb
    rw [upd_ne (fun (z : b = a) => (R.mu j s b hj m hw).2 (z ▸ ha))]
    exact ho
  · have g2' : (e.μ.set k (x, y))[l]? = some (x', y') := g2
    by_cases q : l = k
    · subst q
      rw [hk] at g1
      cases g1
      have hl : l < e.μ.length := by rw [← R.cl]; exact (List.getElem?_eq_some_iff.mp hk).1
      rw [List.getElem?_set_self hl] at g2'
      cases g2'
      exact upd_same
    · rw [List.getElem?_set_ne (Ne.symm q)] at g2'
      have nb : b ≠ a := fun z => by
        subst z
        exact q (nodup_at R.nd g1 hk)
      rw [upd_ne nb]
      exact R.cell l b x' y' g1 g2'
  · obtain ⟨o, ho⟩ := R.zt b z
    exact ⟨o, by rw [upd_ne (fun (q : b = a) => R.cz a ha (q ▸ z))]; exact ho⟩
  · rw [upd_ne (fun (z : b = a) => ng (z ▸ ha))]; exact hb
  · by_cases q : b = a
    · exact ⟨_, by rw [q]; exact upd_same⟩
    · exact ⟨o, by rw [upd_ne q]; exact hb⟩
/-- pot[c] := v -/
def celM (i c : Nat) (v : Int) : M Unit := fun e => match e.ρ[i]? with
  | some (some (.pt k)) => match e.μ[k]? with
    | some (x, y) => if c = 0 then some ((), { e with μ := e.μ.set k (v, y) }) else if c = 1 then some ((), { e with μ := e.μ.set k (x, v) }) else none
    | none => none
  | _ => none
theorem celM_eq {i c : Nat} {v : Int} {u : Unit} (h : celM i c v e = some (u, e2)) : ∃ k x y, e.ρ[i]? = some (some (.pt k)) ∧ e.μ[k]? = some (x, y) ∧ ((c = 0 ∧ e2 = { e with μ := e.μ.set k (v, y) }) ∨ (c = 1 ∧ e2 = { e with μ := e.μ.set k (x, v) })) := by
  unfold celM at h
  split at h
  · rename_i k hk
    split at h
    · rename_i x y hm
      split at h
      · rename_i hc
        cases h; exact ⟨k, x, y, hk, hm, .inl ⟨hc, rfl⟩⟩
      · split at h
        · rename_i hc
          cases h; exact ⟨k, x, y, hk, hm, .inr ⟨hc, rfl⟩⟩
        · cases h
    · cases h
  · cases h
theorem gSub_cel {i c : Nat} {v : Int} {u : Unit} {Q : L2.St → Hp → Prop} (R : Rep K γ e σ H Z) (h : celM i c v e = some (u, e2)) (k : ∀ H', Rep K γ e2 σ H' Z → Kp γ e.ρ σ H H' → Stay H H' (Hid γ e.ρ σ Z) (Hid γ e2.ρ σ Z) → e2.ρ = e.ρ → Q σ H') :
    gSub (tVar i) (tC (.int (c : Int))) rSetL (.int v) σ H Q := by
  obtain ⟨l, x, y, hi, hm, hc⟩ := celM_eq h
  obtain ⟨w, hw, a, rfl, ha⟩ := R.slot i _ hi
  have hx := R.cell l a x y ha hm
  rcases hc with ⟨rfl, rfl⟩ | ⟨rfl, rfl⟩
  · refine ⟨_, hw, a, _, _, 0, rfl, rfl, hx, rfl, ?_⟩
    obtain ⟨R2, kp, st⟩ := R.cel (x := v) (y := y) ha
    exact k _ R2 kp st rfl
  · refine ⟨_, hw, a, _, _, 1, rfl, rfl, hx, rfl, ?_⟩
    obtain ⟨R2, kp, st⟩ := R.cel (x := x) (y := v) ha
    exact k _ R2 kp st rfl
theorem Sh.of_rho {e e' : En} (h : e'.ρ = e.ρ) : Sh e e' := ⟨fun i s hi m => ⟨s, by rw [← h]; exact hi, m, id⟩, fun i d hi => by rw [h]; exact hi, fun i d hi => by rw [← h]; exact hi, by rw [h]⟩
def stcM (i c : Nat) (f : M Rs) : M Fl := bnd f fun r => bnd (rdM r) fun d => match d with
  | .int v => bnd (celM i c v) fun _ => ret .nx
  | _ => noM
theorem tS_stc {i c : Nat} {f : M Rs} : ∀ D σ H, tS K (stcM i c f) D σ H → tAsg (tE K f) (gSub (tVar i) (tC (.int (c : Int))) rSetL) D σ H := by
  rintro D σ H ⟨γ, e, Z, fl, e', R, h, k⟩
  obtain ⟨r, e1, h1, h2⟩ := bnd_eq h
  obtain ⟨d, e2, h3, h4⟩ := bnd_eq h2
  obtain ⟨q1, rfl⟩ := rdM_eq h3
  split at h4
  · obtain ⟨u, e3, h5, h6⟩ := bnd_eq h4
    cases h6
    refine ⟨γ, e, Z, r, e2, R, h1, fun v H1 kp sh P => ?_⟩
    have R1 := P.rep
    obtain ⟨Z1, h01, hf, R2, A1⟩ := P.one
    have ev := (A1.rd R2 q1).int
    subst ev
    refine gSub_cel R1 h5 fun H' R3 kp3 _ er => ?_
    exact k γ σ H' (Stp.ev (kp.trans sh kp3) (sh.trans (Sh.of_rho er))) R3
  · cases h4
theorem ds_stc {i c : Nat} {x : Str} {p pos pos' pi : Pos} {j : Nat} {e : Expr} {f : M Rs} (he : PE X e (tE X.KW f)) (hN : X.N[i]? = some x := by rfl) (hv : Vis X.env.scope x := by first | exact Or.inl rfl | exact Or.inr (Or.inl rfl) | exact Or.inr (Or.inr rfl)) (hd : (x == ("__debug__" : Str)) = false := by decide)
    (hcd : (x == ("__classdict__" : Str)) = false := by decide) (ha : ∀ v, assign (.Subscript (.Name x p) (.Constant (.int (c : Int)) j pi) pos') X.env v = (do
      let ov ← holding [v] (eval (.Name x p) X.env)
      let iv ← holding [v, ov] (eval (.Constant (.int (c : Int)) j pi) X.env)
      standAt pos'
      holding [v, ov, iv] (setItem ov iv v)
      release [v, ov, iv] []) := by intro _; rfl) (hs : swapsWithSole [.Subscript (.Name x p) (.Constant (.int (c : Int)) j pi) pos'] e pos.line X.env = pure false := by rfl) (hw : swappedStores [.Subscript (.Name x p) (.Constant (.int (c : Int)) j pi) pos'] e X.env = pure none := by rfl)
    (h1 : (assignEach [.Subscript (.Name x p) (.Constant (.int (c : Int)) j pi) pos'] X.env).map (·.2) = [assign (.Subscript (.Name x p) (.Constant (.int (c : Int)) j pi) pos') X.env] := by rfl) :
    PS X (.Assign [.Subscript (.Name x p) (.Constant (.int (c : Int)) j pi) pos'] e pos) (tS X.KW (stcM i c f)) := PS.weak (ps_asg he (pg_sub (pe_var hN hv hd hcd) pe_int set_list ha) hs hw h1) tS_stc
/-- pot[0], name = e -/
def drwM (i j : Nat) (f : M Rs) : M Fl := bnd f fun r => bnd (als r) fun d => match d with
  | .tuple [.int a, .int b] => bnd (celM i 0 a) fun _ => bnd (asg j (.fz (.int b))) fun _ => ret .nx
  | _ => noM
theorem tS_drw {i j : Nat} {f : M Rs} : ∀ D σ H, tS K (drwM i j f) D σ H → tAsg (tE K f) (gTup K 2 (gCons (gSub (tVar i) (tC (.int ((0 : Nat) : Int))) rSetL) (gCons (gName j) gNil))) D σ H := by
  rintro D σ H ⟨γ, e, Z, fl, e', R, h, k⟩
  obtain ⟨r, e1, h1, h2⟩ := bnd_eq h
  obtain ⟨d, e2, h3, h4⟩ := bnd_eq h2
  split at h4
  · obtain ⟨u, e3, h5, h6⟩ := bnd_eq h4
    obtain ⟨u2, e4, h7, h8⟩ := bnd_eq h6
    cases h8
    refine ⟨γ, e, Z, r, e1, R, h1, fun v H1 kp sh P => ?_⟩
    obtain ⟨Z1, h01, hf, R1, A1⟩ := P.one
    obtain ⟨Z2, h02, h21, R2, rp, sh2⟩ := als_ok h3 h01 R1 A1
    have R2' := R2.down h02
    cases rp with
    | tup q rl =>
      cases rl with
      | cons ra rl =>
        cases rl with
        | cons rb rl =>
          cases rl
          cases ra
          cases rb
          refine ⟨_, _, rfl, q.sq, rfl, _, _, rfl, ?_⟩
          refine gSub_cel R2' h5 fun H' R3 kp3 st3 er => ⟨_, _, rfl, ?_⟩
          obtain ⟨R4, s4⟩ := asg_ok (γ := γ) (e := e3) (H := H') h7 (fun _ z => z) (fun _ z => .inl z) Stp.refl R3 (show RsOk K γ H' e3 σ Z Z (.fz (.int _)) _ from .int _)
          refine ⟨rfl, ?_⟩
          exact k γ _ H' ((Stp.ev ((kp.trans (sh.trans sh2) kp3)) ((sh.trans sh2).trans (Sh.of_rho er))).trans s4) R4
  · cases h4
theorem ds_drw {i j : Nat} {x y : Str} {p pt pos pos' pi py : Pos} {jj : Nat} {kt : Nat} {e : Expr} {f : M Rs} (he : PE X e (tE X.KW f)) (hNd : X.N.Nodup) (hN : X.N[i]? = some x := by rfl) (hj : X.N[j]? = some y := by rfl) (hc : X.calm = true := by rfl) (hv : Vis X.env.scope x := by first | exact Or.inl rfl | exact Or.inr (Or.inl rfl) | exact Or.inr (Or.inr rfl)) (hd : (x == ("__debug__" : Str)) = false := by decide)
    (hcd : (x == ("__classdict__" : Str)) = false := by decide) (hy : Loc X.env.scope y := by first | exact Or.inl rfl | exact Or.inr rfl) (hf : X.fn y = true ∨ X.env.scope.names.lookup y = some .local := by first | exact .inl rfl | exact .inr rfl | assumption)
    (ha : ∀ v, assign (.Subscript (.Name x p) (.Constant (.int 0) jj pi) pos') X.env v = (do
      let ov ← holding [v] (eval (.Name x p) X.env)
      let iv ← holding [v, ov] (eval (.Constant (.int 0) jj pi) X.env)
      standAt pos'
      holding [v, ov, iv] (setItem ov iv v)
      release [v, ov, iv] []) := by intro _; rfl)
    (hs1 : (assignEach [.Subscript (.Name x p) (.Constant (.int 0) jj pi) pos', .Name y py] X.env).map (·.2) = assign (.Subscript (.Name x p) (.Constant (.int 0) jj pi) pos') X.env :: (assignEach [.Name y py] X.env).map (·.2) := by rfl) (hs2 : (assignEach [.Name y py] X.env).map (·.2) = assign (.Name y py) X.env :: (assignEach [] X.env).map (·.2) := by rfl)
    (hn : (assignEach [.Subscript (.Name x p) (.Constant (.int 0) jj pi) pos', .Name y py] X.env).length = 2 := by rfl) (hst : (assignEach [.Subscript (.Name x p) (.Constant (.int 0) jj pi) pos', .Name y py] X.env).findIdx? (·.1) = none := by rfl)
    (hs : swapsWithSole [.Tuple [.Subscript (.Name x p) (.Constant (.int 0) jj pi) pos', .Name y py] kt pt] e pos.line X.env = pure false := by rfl) (hw : swappedStores [.Tuple [.Subscript (.Name x p) (.Constant (.int 0) jj pi) pos', .Name y py] kt pt] e X.env = pure none := by rfl)
    (h1 : (assignEach [.Tuple [.Subscript (.Name x p) (.Constant (.int 0) jj pi) pos', .Name y py] kt pt] X.env).map (·.2) = [assign (.Tuple [.Subscript (.Name x p) (.Constant (.int 0) jj pi) pos', .Name y py] kt pt) X.env] := by rfl) :
    PS X (.Assign [.Tuple [.Subscript (.Name x p) (.Constant (.int 0) jj pi) pos', .Name y py] kt pt] e pos) (tS X.KW (drwM i j f)) :=
  PS.weak (ps_asg he (pg_tup hc (pgs_cons (pg_sub (pe_var hN hv hd hcd) pe_int set_list ha) (pgs_cons (pg_name hNd hj hy hf) pgs_nil hs2) hs1) hn hst) hs hw h1) tS_drw
end
end DV
end
section
set_option Elab.async false
set_option linter.all false
set_option maxRecDepth 100000
namespace DV
open PySem PySem.Spec PyProof.Rows L2
/-! ### min of a list of data; repr -/
section
variable {X : Cx} {K : KW}
def rMinDt (K : KW) : List V → Hp → VK → Prop := fun xs H Q => ∃ (a : Addr) (vs : List V) (x : D) (ds : List D), xs = [.ref a] ∧ SqL K H a vs ∧ DpAll K H vs (x :: ds) ∧ PySem.W.AlikeAll (x :: ds) ∧ PyData.canLayAll0 (x :: ds) = true ∧ PyData.depthAll (x :: ds) ≤ 60 ∧
  ∀ (i : Nat) (v : V), vs[i]? = some v → (x :: ds)[i]? = some (PySem.W.minD x ds) → Q v H
theorem cr_minDt (hc : X.calm = true) (hu : X.A.units + 65 < cLine) : CallR X (.builtin "min") (rMinDt X.KW) := by
  intro pins s σ H xs us Q I r h
  obtain ⟨a, vs, x, ds, rfl, sq, dp, al, cl, dep, q⟩ := h
  obtain ⟨u, rfl, rx⟩ := vals1 r
  cases rx
  obtain ⟨its, rv, pl, hz⟩ := I.list sq
  obtain ⟨as, rs⟩ := Dp.readsAll I (x :: ds) _ its dp rv
  refine PySem.W.min_list_data (vs := its.toArray) (I.ok.hd hc) pl.isList (show ReadsAll s.heap its.toArray.toList (x :: ds) as from rs) al (by omega) fun i v h' tk bs hv rd hk => ?_
  have hvi : its[i]? = some v := by rw [← Array.getElem?_toList] at hv; exact hv
  have hil : i < vs.length := by rw [rv.length]; exact (List.getElem?_eq_some_iff.mp hvi).1
  have hw : vs[i]? = some vs[i] := List.getElem?_eq_getElem hil
  obtain ⟨v', hv', rw'⟩ := rv.get hw
  rw [hvi] at hv'
  cases hv'
  refine ⟨_, H, I.kept hk, rw', q i _ hw ?_⟩
  have hmap := SeqAt.readsAll_map (x :: ds) its as cl rs
  have hi : ((x :: ds)[i]?) = some (SeqAt.readOf s.heap v) := by rw [← hmap, List.getElem?_map, hvi]; rfl
  have hin : SeqAt.readOf s.heap v ∈ x :: ds := List.mem_of_getElem? hi
  have hlen : i < its.toArray.size := (Array.getElem?_eq_some_iff.mp hv).1
  obtain ⟨cs, rc, _, hmem, _⟩ := PySem.W.readsAll_atA (vs := its.toArray) (show ReadsAll s.heap its.toArray.toList (x :: ds) as from rs) i v hv
  have canAll : ∀ {l : List D}, PyData.canLayAll0 l = true → ∀ d ∈ l, d.canLay0 = true := fun {l} => by
    induction l with
    | nil => intro _ d hd; cases hd
    | cons y ys ih =>
      intro hl d hd
      simp only [PyData.canLayAll0, Bool.and_eq_true] at hl
      rcases List.mem_cons.mp hd with e | hd
      · rw [e]; exact hl.1
      · exact ih hl.2 d hd
  have hg : (x :: ds).getD i .none = SeqAt.readOf s.heap v := by rw [List.getD_eq_getElem?_getD, hi]; rfl
  have c1 : (SeqAt.readOf s.heap v).canLay0 = true := canAll cl _ hin
  rw [hg] at rc
  have rc' := PySem.W.reads_keeps hk rc
  have minmem : ∀ (l : List D) (y : D), (PySem.W.minD y l = y ∨ PySem.W.minD y l ∈ l) := fun l => by
    induction l with
    | nil => intro y; exact .inl rfl
    | cons z zs ih =>
      intro y
      show (PySem.W.minD (if PySem.W.dataLt z y then z else y) zs = y) ∨ _
      rcases ih (if PySem.W.dataLt z y then z else y) with e | e
      · by_cases c : PySem.W.dataLt z y = true
        · rw [if_pos c] at e
          refine .inr ?_
          show PySem.W.minD (if PySem.W.dataLt z y then z else y) zs ∈ _
          rw [if_pos c, e]; exact List.mem_cons_self ..
        · rw [if_neg c] at e ⊢
          exact .inl e
      · exact .inr (List.mem_cons_of_mem _ e)
  have c2 : (PySem.W.minD x ds).canLay0 = true := by
    refine canAll cl _ ?_
    rcases minmem ds x with e | e
    · rw [e]; exact List.mem_cons_self ..
    · exact List.mem_cons_of_mem _ e
  have e1 := SeqAt.readOf_eq c1 rc'
  have e2 := SeqAt.readOf_eq c2 rd
  rw [hi, ← e2, e1]
def alikeB (xs : List D) : Bool := xs.all fun x => !isNoneD x && xs.all fun y => PySem.W.alike x y
theorem alikeB_ok {xs : List D} (h : alikeB xs = true) : PySem.W.AlikeAll xs := by
  have h1 := List.all_eq_true.mp h
  refine ⟨fun x hx y hy => ?_, fun x hx e => ?_⟩
  · have := h1 x hx
    rw [Bool.and_eq_true] at this
    exact List.all_eq_true.mp this.2 y hy
  · have := h1 x hx
    rw [e, Bool.and_eq_true] at this
    exact absurd this.1 (by decide)
def minG (d : D) : Option Rs := match d with
  | .list (x :: ds) => if alikeB (x :: ds) = true ∧ PyData.canLayAll0 (x :: ds) = true ∧ PyData.depthAll (x :: ds) ≤ 60 then some (.fz (PySem.W.minD x ds)) else none
  | _ => none
theorem o_min : OpN K (rMinDt K) (g1 minG) := OpN.one fun H O x d res Q tr rx q k => by
  unfold minG at q
  split at q
  · split at q
    · rename_i c
      cases q
      obtain ⟨a, xs, rfl, sq, r⟩ := rx.lst
      refine ⟨a, xs, _, _, rfl, sq, r.dp _ c.2.1, alikeB_ok c.1, c.2.1, c.2.2, fun i v hv hd => ?_⟩
      obtain ⟨w, hw, rp⟩ := r.get hd
      rw [hv] at hw
      cases hw
      exact k _ H (.same rp)
    · cases q
  · cases q
def rRepr (K : KW) : List V → Hp → VK → Prop := fun xs H Q => ∃ (a : Addr) (d : D), xs = [.ref a] ∧ Dp K H (.ref a) d ∧ d.layable0 = true ∧ d.intsShort 13 = true ∧ d.showable = true ∧ Q (.str d.shown) H
theorem cr_repr (hg : X.A.guards = some []) (hu : X.A.units + 70 < cLine) : CallR X (.builtin "repr") (rRepr X.KW) := by
  intro pins s σ H xs us Q I r h
  obtain ⟨a, d, rfl, dp, hl, hi, hs, q⟩ := h
  obtain ⟨u, rfl, rx⟩ := vals1 r
  cases rx
  obtain ⟨as, rd⟩ := Dp.reads I d _ _ dp (show RelV (.ref a) (.ref a) from rfl)
  have hl' : (PyData.canLay0 d && decide (PyData.depth d ≤ 64) && decide (PyData.weight d ≤ 2 ^ 20)) = true := hl
  simp only [Bool.and_eq_true, decide_eq_true_eq] at hl'
  have h64 := hl'.1.2
  exact repr_of_reads' rd hs (PyData.noDict_hsm (PyData.hasDict_of_layable hl)) hg (by omega) (fun _ _ e => e) (fun h' u tk hk => ⟨.str d.shown, H, I.kept hk, ⟨_, rfl⟩, q⟩) (by have := shown_le13 hl hi; rw [sizeLine_eq]; omega)
def reprG (d : D) : Option Rs := match d with
  | .list ds => if (PyData.list ds).layable0 = true ∧ (PyData.list ds).intsShort 13 = true ∧ (PyData.list ds).showable = true then strR (PyData.list ds).shown else none
  | .tuple ds => if (PyData.tuple ds).layable0 = true ∧ (PyData.tuple ds).intsShort 13 = true ∧ (PyData.tuple ds).showable = true then strR (PyData.tuple ds).shown else none
  | _ => none
theorem can_of_lay {d : D} (h : d.layable0 = true) : d.canLay0 = true := by
  unfold PyData.layable0 at h
  simp only [Bool.and_eq_true] at h
  exact h.1.1
theorem o_repr : OpN K (rRepr K) (g1 reprG) := OpN.one fun H O x d res Q tr rx q k => by
  unfold reprG at q
  split at q
  · split at q
    · rename_i c
      cases q
      have dp := rx.dp (can_of_lay c.1)
      obtain ⟨a, xs, rfl, sq, r⟩ := rx.lst
      exact ⟨a, _, rfl, dp, c.1, c.2.1, c.2.2, k _ H (.same (.str _))⟩
    · cases q
  · split at q
    · rename_i c
      cases q
      have dp := rx.dp (can_of_lay c.1)
      obtain ⟨a, xs, rfl, sq, r⟩ := rx.tup
      exact ⟨a, _, rfl, dp, c.1, c.2.1, c.2.2, k _ H (.same (.str _))⟩
    · cases q
  · cases q
end
end DV
end
section
set_option Elab.async false
set_option linter.all false
set_option maxRecDepth 100000
set_option maxHeartbeats 4000000
namespace DV
open PySem PySem.Spec PyProof.Rows L2
/-! ### sets of keys (ints, strs): made of a list, sorted -/
abbrev newS (w : World) : Obj := { cls := .type "set", dict := none, data := .set #[] 0 (.fresh 0 0 (!w.params.followText "set-order")) }
def keyE (e : Int × Value) : L2.Key := match e.2 with
  | .int k _ => .inl k
  | .str x _ => .inr x
  | _ => .inl 0
def GoodK (w : World) (e : Int × Value) : Prop := RelV (kV (keyE e)) e.2 ∧ e.1 = keyH w (keyE e)
theorem keyE_of {k : L2.Key} {u : Value} {h : Int} (r : RelV (kV k) u) : keyE (h, u) = k := by
  cases k with
  | inl i => obtain ⟨t, rfl⟩ := r; rfl
  | inr i => obtain ⟨t, rfl⟩ := r; rfl
/-- the set at a has the members of S, at most n -/
def SetM (w : World) (h : Heap) (a : Addr) (S : List L2.Key) (n : Nat) : Prop := ∃ (o : Obj) (es : Array (Int × Value)) (ep : Nat) (t : SetTable), h.get? a = some o ∧ o.ExactSet ∧ o.data = .set es ep t ∧
  ((∀ e ∈ es.toList, GoodK w e) ∧ (es.toList.map keyE).Nodup ∧ (∀ k, k ∈ es.toList.map keyE ↔ k ∈ S)) ∧ (es.size < scanBound ∧ es.size ≤ n) ∧ (t.fits es.size = true ∧ Ris t.place.toList) ∧ (w.params.followText "set-order" = true ∨ t.led = true)
section
variable {P : Program} {w : World} {A : Around} {E : Value → Shared → Prop} {s : Shared} {a : Addr} {S : List L2.Key} {n : Nat}
theorem SetM.at {h h' : Heap} (R : SetM w h a S n) (k : ∀ o, h.get? a = some o → h'.get? a = some o) : SetM w h' a S n := let ⟨o, es, ep, t, ho, r⟩ := R; ⟨o, es, ep, t, k o ho, r⟩
theorem SetM.same {h : Heap} {S' : List L2.Key} (R : SetM w h a S n) (k : ∀ x, x ∈ S ↔ x ∈ S') : SetM w h a S' n :=
  let ⟨o, es, ep, t, h1, h2, h3, ⟨g1, g2, g3⟩, r⟩ := R
  ⟨o, es, ep, t, h1, h2, h3, ⟨g1, g2, fun x => (g3 x).trans (k x)⟩, r⟩
theorem newS_led : w.params.followText "set-order" = true ∨ (SetTable.fresh 0 0 (!w.params.followText "set-order")).led = true := by
  show _ ∨ (!w.params.followText "set-order") = true
  cases w.params.followText "set-order" with
  | true => exact .inl rfl
  | false => exact .inr rfl
theorem setM_new {h : Heap} (ho : h.get? a = some (newS w)) : SetM w h a [] 0 := ⟨_, #[], 0, _, ho, ⟨rfl, rfl, rfl⟩, rfl, ⟨fun e he => by simp at he, by simp, fun k => by simp⟩, ⟨by decide, Nat.le_refl _⟩, ⟨by rfl, List.Pairwise.nil⟩, newS_led⟩
theorem goodK_els {l : List (Int × Value)} (g : ∀ e ∈ l, GoodK w e) : ElemsOf (mixKind P w) l := fun e he => ⟨⟨keyE e, kV_is (g e he).1, (g e he).2⟩, key_scan (g e he).1⟩
theorem goodK_is {e : Int × Value} (g : GoodK w e) {k : L2.Key} (h : (mixKind P w).is k e.2 = true) : keyE e = k := (mixKind P w).inj e.2 _ _ (kV_is g.1) h
/-- behind the store of the new rows -/
theorem setM_tail {say : Bool → Sem Unit} (hg : ∀ (b : Bool) (s₁ : Shared) (Q' : Unit → Shared → Prop), Q' () s₁ → wpAny (model P w) A (say b) Q' E s₁) {o : Obj} {es : Array (Int × Value)} {ep : Nat} {t : SetTable}
    (ho : s.heap.get? a = some o) (hex : o.ExactSet) (hd : o.data = .set es ep t) {rows : Array (Int × Value)} {tb : SetTable} (ok : (∀ e ∈ rows.toList, GoodK w e) ∧ (rows.toList.map keyE).Nodup ∧ ∀ k, k ∈ rows.toList.map keyE ↔ k ∈ S)
    (hb : rows.size < scanBound ∧ rows.size ≤ n) (hf : tb.fits rows.size = true) (hr : Ris tb.place.toList) (hl : w.params.followText "set-order" = true ∨ tb.led = true) {wasDummy : Bool} {R : Option Bool → Shared → Prop}
    (hR : ∀ h', Heap.SameBut a s.heap h' → SetM w h' a S n → R (some true) { s with heap := h' }) :
    wpAny (model P w) A (do
        storeSet a rows tb
        if (!wasDummy && tb.tooFull) = true then do
            say (relayAll tb rows (SetTable.grown rows.size)).2.2
            storeSet a (relayAll tb rows (SetTable.grown rows.size)).1 (relayAll tb rows (SetTable.grown rows.size)).2.1
            pure (some true)
          else pure (some true)) R E s := by
  refine wpAny_bind (wpAny_storeSet_of ho hd ?_ (fits_of_scanBound hb.1))
  have o1 := store_at (es' := rows) (t' := tb) ho hd
  have sb := Heap.SameBut.update s.heap a (Obj.putSet rows tb)
  by_cases c : (!wasDummy && tb.tooFull) = true
  · rw [if_pos c]
    have p1 := relayAll_perm tb rows (SetTable.grown rows.size)
    have p2 := relayAll_fits tb rows (SetTable.grown rows.size)
    have p3 := relayAll_ris tb rows (SetTable.grown rows.size)
    have p4 := relayAll_led tb rows (SetTable.grown rows.size)
    generalize relayAll tb rows (SetTable.grown rows.size) = W at p1 p2 p3 p4 ⊢
    obtain ⟨rows2, tb2, gave⟩ := W
    dsimp only at p1 p2 p3 p4 ⊢
    have hz : rows2.size = rows.size := by
      have := p1.length_eq
      simpa using this
    refine wpAny_bind (hg _ _ _ (wpAny_bind (wpAny_storeSet_of o1 rfl ?_ (fits_of_scanBound (by rw [hz]; exact hb.1)))))
    have o2 := store_at (es' := rows2) (t' := tb2) o1 rfl
    have pk := p1.map keyE
    refine wpAny_pure (hR _ (sb.trans (Heap.SameBut.update _ a _)) ⟨_, rows2, _, tb2, o2, hex, rfl, ⟨fun e he => ok.1 e (p1.mem_iff.mp he), pk.nodup_iff.mpr ok.2.1, fun k => pk.mem_iff.trans (ok.2.2 k)⟩, by rw [hz]; exact hb, ⟨p2, p3⟩, hl.imp id fun z => p4.trans z⟩)
  · rw [if_neg c]
    exact wpAny_pure (hR _ sb ⟨_, rows, _, tb, o1, hex, rfl, ok, hb, ⟨hf, hr⟩, hl⟩)
/-- a key is added -/
theorem setM_add {k : L2.Key} {u : Value} {Q : Bool → Shared → Prop} (R : SetM w s.heap a S n) (ru : RelV (kV k) u) (room : n + 1 < scanBound)
    (hQ : ∀ h' b, Heap.SameBut a s.heap h' → SetM w h' a (S ++ [k]) (n + 1) → Q b { s with heap := h' }) : wpAny (model P w) A (setAddHashed a u ((mixKind P w).hash k)) Q E s := by
  obtain ⟨o, es, ep, t, ho, hex, hd, ⟨g, nd, hm⟩, ⟨hb, hn⟩, ⟨hf, hr⟩, hl⟩ := R
  have hk : (mixKind P w).is k u = true := kV_is ru
  have hel : ElemsOf (mixKind P w) es.toList := goodK_els g
  have say_ok : ∀ (b : Bool) {s₁ : Shared} {Q' : Unit → Shared → Prop}, Q' () s₁ → wpAny (model P w) A (match b with | true => rule "set.scan.the-table-gave-way" | false => pure ()) Q' E s₁ := fun b s₁ Q' q => by
    cases b with
    | true => exact wpAny_rule q
    | false => exact wpAny_pure q
  unfold setAddHashed setAddHashedIn
  refine wpAny_holding (wpAny_bind (wpAny_setState_of ho hd hf ?_))
  dsimp only
  rw [byScan_of (key_scan ru) hb hel]
  simp only [↓reduceIte]
  unfold setAddByScan
  refine wpAny_bind (wpAny_bind (wpAny_rule (wpAny_bind (wpAny_setScan_of hk ho hd hf hel ?_))))
  cases hfi : List.findIdx? (fun e => (mixKind P w).is k e.2) es.toList with
  | some j =>
    dsimp only
    obtain ⟨hj, pj, _⟩ := List.findIdx?_eq_some_iff_getElem.mp hfi
    have ek : keyE es.toList[j] = k := goodK_is (g _ (List.getElem_mem hj)) pj
    have hkS : k ∈ S := (hm k).mp (List.mem_map.mpr ⟨_, List.getElem_mem hj, ek⟩)
    refine wpAny_pure (wpAny_pure (hQ s.heap _ (Heap.SameBut.refl a s.heap) ⟨o, es, ep, t, ho, hex, hd, ⟨g, nd, fun x => (hm x).trans ?_⟩, ⟨hb, by omega⟩, ⟨hf, hr⟩, hl⟩))
    rw [List.mem_append, List.mem_singleton]
    exact ⟨.inl, fun z => z.elim id fun e => e ▸ hkS⟩
  | none =>
    dsimp only
    have hnk : k ∉ es.toList.map keyE := fun z => by
      obtain ⟨e, he, q⟩ := List.mem_map.mp z
      have c := List.findIdx?_eq_none_iff.mp hfi e he
      have c2 : (mixKind P w).is k e.2 = true := q ▸ kV_is (g e he).1
      rw [c2] at c
      cases c
    have q1 := layNew_perm t es ((mixKind P w).hash k) u
    have q2 := layNew_fits t es ((mixKind P w).hash k) u
    have q3 := layNew_ris t es ((mixKind P w).hash k) u hr
    have q4 := layNew_led t es ((mixKind P w).hash k) u
    generalize layNew t es ((mixKind P w).hash k) u = W at q1 q2 q3 q4 ⊢
    obtain ⟨rows, tb, wasDummy, gave⟩ := W
    dsimp only at q1 q2 q3 q4 ⊢
    rw [Array.toList_push] at q1
    have pc : rows.toList.Perm (((mixKind P w).hash k, u) :: es.toList) := q1.trans (List.perm_append_singleton _ _)
    have pk : (rows.toList.map keyE).Perm (k :: es.toList.map keyE) := by
      have := pc.map keyE
      rwa [List.map_cons, keyE_of ru] at this
    have hsz : rows.size = es.size + 1 := by
      have := pc.length_eq
      simpa using this
    have ok : (∀ e ∈ rows.toList, GoodK w e) ∧ (rows.toList.map keyE).Nodup ∧ ∀ x, x ∈ rows.toList.map keyE ↔ x ∈ S ++ [k] := by
      refine ⟨fun e he => ?_, pk.nodup_iff.mpr (List.nodup_cons.mpr ⟨hnk, nd⟩), fun x => ?_⟩
      · rcases List.mem_cons.mp (pc.mem_iff.mp he) with z | z
        · rw [z]; exact ⟨by rw [keyE_of ru]; exact ru, by rw [keyE_of ru]; rfl⟩
        · exact g e z
      · rw [pk.mem_iff, List.mem_cons, List.mem_append, List.mem_singleton, hm x]
        exact Or.comm
    have hbb : rows.size < scanBound ∧ rows.size ≤ n + 1 := ⟨by omega, by omega⟩
    have hled : w.params.followText "set-order" = true ∨ tb.led = true := hl.imp id fun z => q4.trans z
    refine wpAny_bind (say_ok _ ?_)
    split
    · refine wpAny_bind ?_
      rw [hashByValue_scannable 8 (key_scan ru)]
      refine wpAny_pure (setM_tail (fun b s₁ Q' q => say_ok b q) ho hex hd ok hbb ?_ ?_ ?_ fun h' sb r => ?_)
      · first | (split <;> first | exact q2 | exact SetTable.fits_plain_off q2) | exact q2
      · first | (split <;> exact q3) | exact q3
      · first | (split <;> exact hled) | exact hled
      · dsimp only; exact wpAny_pure (hQ h' _ sb r)
    · refine wpAny_bind (wpAny_pure ?_)
      simp only [↓reduceIte]
      refine setM_tail (fun b s₁ Q' q => say_ok b q) ho hex hd ok hbb q2 q3 hled fun h' sb r => ?_
      dsimp only; exact wpAny_pure (hQ h' _ sb r)
/-- the loop of set(..) -/
theorem setM_loop {I : Addr} {fp wr : List Addr} {G : Array GenState → Array GenState → Prop} {m : Nat} {Pv : Nat → Value → Prop} {St : Nat → Shared → Prop} {R : Result → Shared → Prop} (W : WalksS P w A.in1 I fp wr G m Pv St) (D : Addr) (hD : D ∉ fp) (ks : List L2.Key) (hm : m = ks.length) (hb : ks.length + 1 < scanBound)
    (hval : ∀ i v, Pv i v → ∃ k, ks[i]? = some k ∧ RelV (kV k) v) : ∀ (left i : Nat) (s : Shared), m - i = left → i ≤ m → St i s → SetM w s.heap D (ks.take i) i → (∀ s', Moved (D :: wr) G s s' → SetM w s'.heap D ks m → R (.ok (.ret .none)) s') →
      codeAny (model P w) A (.builtin "set.update.loop" ⟨[.ref D, .ref I], []⟩) R s := by
  have hDw : D ∉ wr := fun h => hD (W.sub _ h)
  have up : ∀ b ∈ wr, b ∈ D :: wr := fun b h => List.mem_cons_of_mem _ h
  intro left
  induction left with
  | zero =>
    intro i s e1 e2 st R0 hR
    obtain rfl : i = m := by omega
    refine codeAny_builtin F.entry_set_update_loop ?_
    rw [Around.under_plainId F.plain_set_update_loop _]
    show wpAny _ A.in1 (pyNext (.ref I) >>= _) _ _ s
    refine wpAny_bind (W.done s _ _ st fun s' mv => ?_)
    show wpAny _ A.in1 (PySem.ret Value.none) _ _ s'
    rw [List.take_of_length_le (by omega)] at R0
    exact wpAny_pure (hR s' (mv.mono up) (R0.at fun o e => mv.heap D o hDw e))
  | succ left ih =>
    intro i s e1 e2 st R0 hR
    refine codeAny_builtin F.entry_set_update_loop ?_
    rw [Around.under_plainId F.plain_set_update_loop _]
    show wpAny _ A.in1 (pyNext (.ref I) >>= _) _ _ s
    refine wpAny_bind (W.item i s _ _ (by omega) st fun v s1 hp st1 mv => ?_)
    obtain ⟨k, hk, rk⟩ := hval i v hp
    show wpAny _ A.in1 (holding [v] (setAdd D v) >>= _) _ _ s1
    refine wpAny_bind (wpAny_holding ?_)
    unfold setAdd
    refine wpAny_holding (wpAny_bind ((mixKind P w).pyHash (kV_is rk) ?_))
    refine setM_add (s := { s1 with toks := s1.toks + 1 }) (R0.at fun o e => mv.heap D o hDw e) rk (by omega) fun h' b sb R1 => ?_
    have e3 : ks.take i ++ [k] = ks.take (i + 1) := by rw [List.take_add_one, hk]; rfl
    rw [e3] at R1
    refine wpAny_pure ⟨plainId_quiet F.plain_set_update_loop _, ih (i + 1) _ (by omega) (by omega) (W.frame _ s1 _ _ st1 (Nat.le_succ _) fun c hc o e => ?_) R1 fun s2 mv2 R2 => ?_⟩
    · exact (sb.2 c fun z => hD (z ▸ hc)).trans e
    · refine hR s2 (Moved.trans W.gtrans ((mv.mono up).then_heap (Nat.le_succ _) fun c o hc e => ?_) mv2) R2
      exact (sb.2 c fun z => hc (by rw [z]; exact List.mem_cons_self)).trans e
/-- set(l), l a list of keys -/
theorem setM_of {l : Addr} {items : Array Value} (ks : List L2.Key) {Q : Value → Shared → Prop} (hh : A.handled = none) (hl : s.heap.IsList l items) (hlen : items.size = ks.length) (hval : ∀ (i : Nat) (v : Value), items[i]? = some v → ∃ k, ks[i]? = some k ∧ RelV (kV k) v) (hb : ks.length + 1 < scanBound)
    (h : ∀ (h' : Heap) (tk : Nat), SetM w h' s.heap.objs.size ks ks.length → (∀ b o, s.heap.get? b = some o → h'.get? b = some o) → Q (.ref s.heap.objs.size) { s with heap := h', toks := tk }) :
    wpAny (model P w) A (call (.type "set") [.ref l]) Q E s := by
  obtain ⟨c, tl, hmro⟩ := F.called_set.mro
  have hmade := F.called_set.made
  have hsub := F.called_set.sub
  refine wpAny_call (codeAny_of_tree ?_)
  show wpAny _ _ (callAny (.type "set") _) _ _ _
  refine wpAny_pure ⟨Code.quiet_builtin _ (by decide +kernel), codeAny_builtin F.entry_type_call ?_⟩
  rw [Around.under_plain (weight_type_call_type "set" [.ref l] []) rfl]
  have f1 := F.called_set.notType
  have f2 := F.called_set.canCreate
  have f3 := F.typeCall_set_1 (.ref l)
  repeat (any_goals (first | assumption | wp_step))
  refine codeAny_mono (code_set_led1 (.ref l) (E := E) (Q₁ := fun r s1 => r = .ref s.heap.objs.size ∧ s1 = { s with heap := s.heap.push (newS w) }) ⟨rfl, rfl⟩) fun r s1 hr => ?_
  cases r with
  | error e => exact hr
  | ok fl =>
    cases fl with
    | ret obj =>
      obtain ⟨rfl, rfl⟩ := hr
      have hD : (s.heap.push (newS w)).get? s.heap.objs.size = some (newS w) := Heap.get?_push_size _ rfl
      have hT : Shared.TypeIs { s with heap := s.heap.push (newS w) } (.ref s.heap.objs.size) "set" := ⟨_, hD, rfl⟩
      have f4 := F.called_set.init.lookup
      have f5 := F.called_set.init.bind (.ref s.heap.objs.size)
      repeat (any_goals (first | assumption | wp_step))
      refine codeAny_mono (codeAny_call_builtin (R := wants (fun r s2 => r = .none ∧ ∃ h' tk, s2 = { s with heap := h', toks := tk } ∧ SetM w h' s.heap.objs.size ks ks.length ∧ (∀ b o, s.heap.get? b = some o → h'.get? b = some o)) E) F.called_set.init.plain F.entry_set_init (check_set_init_1 hT ?_)) fun r2 s2 hr2 => ?_
      · obtain ⟨ol, hol, hcl, nl, hdl⟩ := hl
        obtain ⟨ocls, odict, odata, oslots⟩ := ol
        simp only at hcl hdl
        subst hcl hdl
        have hol2 : (s.heap.push (newS w)).get? l = some { cls := .type "list", dict := odict, data := .seq items nl, slots := oslots } := Heap.get?_push_of_some _ hol
        have g1 := F.sub_list_set
        have g2 := F.sub_list_frozenset
        have g3 : (Value.type "list" == Value.type "dict") = false := by decide
        have hl2 : (s.heap.push (newS w)).IsList l items := ⟨_, hol2, rfl, nl, rfl⟩
        unfold Builtin.«set.__init__» noKeywords Builtin.Frozenset.updateFrom
        generalize hPI : pyIter = PI
        wp_walk
        subst hPI
        refine wpAny_pyIter_list hl2 (wpAny_bind (wpAny_runValue ?_))
        have lt : l < s.heap.objs.size := Heap.lt_size hol
        have sz : (s.heap.push (newS w)).objs.size = s.heap.objs.size + 1 := Heap.size_push ..
        have h3 : A.in1.in1.in1.handled = none := by simp [hh]
        have ne : l ≠ (s.heap.push (newS w)).objs.size := by rw [sz]; exact Nat.ne_of_lt (Nat.lt_succ_of_lt lt)
        have nf : s.heap.objs.size ∉ [(s.heap.push (newS w)).objs.size, l] := by
          rw [sz]
          simp only [List.mem_cons, List.not_mem_nil, or_false, not_or]
          exact ⟨Nat.ne_of_lt (Nat.lt_succ_self _), Nat.ne_of_gt lt⟩
        refine setM_loop ((Walks.list h3 _ l ne items).toS) s.heap.objs.size nf ks hlen hb hval (items.size - 0) 0 _ (by omega) (Nat.zero_le _) ⟨⟨_, Heap.get?_push_size _ rfl, rfl, rfl⟩, (hl2.push _)⟩ ?_ ?_
        · exact setM_new (show _ = some (newS w) from Heap.get?_push_of_some _ hD)
        · intro s3 mv R3
          obtain ⟨h3, gg, dd, tt, oo⟩ := s3
          obtain rfl : gg = s.gens := mv.gens
          obtain rfl : dd = s.drawn := mv.drawn
          obtain rfl : oo = s.os := mv.os
          show wpAny _ _ _ _ _ _
          refine wpAny_pure ?_
          show wpAny _ _ (PySem.ret Value.none) _ _ _
          rw [hlen] at R3
          refine wpAny_pure ⟨rfl, h3, tt, rfl, R3, fun b o e => ?_⟩
          have lb : b < s.heap.objs.size := Heap.lt_size e
          refine mv.heap b o ?_ (Heap.get?_push_of_some _ (Heap.get?_push_of_some _ e))
          simp only [List.mem_cons, List.not_mem_nil, or_false, not_or]
          exact ⟨Nat.ne_of_lt lb, by rw [sz]; exact Nat.ne_of_lt (Nat.lt_succ_of_lt lb)⟩
      · cases r2 with
        | error e => exact hr2
        | ok fl2 =>
          cases fl2 with
          | ret r =>
            obtain ⟨rfl, h', tk, rfl, R2, k2⟩ := hr2
            repeat (any_goals (first | assumption | wp_step))
            exact h _ _ R2 k2
          | _ => exact hr2.elim
    | _ => exact hr.elim
end
end DV
end
section
set_option Elab.async false
set_option linter.all false
set_option maxRecDepth 100000
namespace DV
open PySem PySem.Spec PyProof.Rows L2
/-! ### sorted(set(l)), l a list of strs -/
def ltS (x y : Str) : Bool := ltCps x.cps.toList y.cps.toList
def insS (x : Str) : List Str → List Str
  | [] => [x]
  | y :: r => if ltS x y = true then x :: y :: r else if ltS y x = true then y :: insS x r else y :: r
def sset (xs : List Str) : List Str := xs.foldr insS []
theorem ltS_iff {x y : Str} : ltS x y = true ↔ x.cps.toList < y.cps.toList := by unfold ltS; rw [ltCps_eq, decide_eq_true_eq]
theorem str_eq {x y : Str} (h : x.cps.toList = y.cps.toList) : x = y := PySem.W.str_of_cps h
theorem ltS_irr (x : Str) : ltS x x = false := by
  rw [Bool.eq_false_iff]
  exact fun h => List.lt_irrefl _ (ltS_iff.mp h)
theorem ltS_trans {x y z : Str} (a : ltS x y = true) (b : ltS y z = true) : ltS x z = true := ltS_iff.mpr (List.lt_trans (ltS_iff.mp a) (ltS_iff.mp b))
theorem ltS_asym {x y : Str} (a : ltS x y = true) : ltS y x = false := by
  rw [Bool.eq_false_iff]
  exact fun b => List.lt_irrefl _ (List.lt_trans (ltS_iff.mp a) (ltS_iff.mp b))
theorem ltS_tri {x y : Str} (a : ltS x y = false) (b : ltS y x = false) : x = y := by
  have h1 : ¬ x.cps.toList < y.cps.toList := fun h => by rw [ltS_iff.mpr h] at a; cases a
  have h2 : ¬ y.cps.toList < x.cps.toList := fun h => by rw [ltS_iff.mpr h] at b; cases b
  exact str_eq (List.le_antisymm h2 h1)
/-- strictly rising -/
abbrev Up (l : List Str) : Prop := l.Pairwise fun x y => ltS x y = true
theorem mem_insS (x z : Str) : ∀ l : List Str, z ∈ insS x l ↔ z = x ∨ z ∈ l
  | [] => by simp [insS]
  | y :: r => by
    unfold insS
    split
    · simp
    · split
      · rw [List.mem_cons, mem_insS x z r, List.mem_cons]
        exact ⟨fun h => h.elim (fun h => .inr (.inl h)) fun h => h.imp id .inr, fun h => h.elim (fun h => .inr (.inl h)) fun h => h.imp id .inr⟩
      · rename_i h1 h2
        have e : x = y := ltS_tri (by simpa using h1) (by simpa using h2)
        subst e
        simp
theorem up_insS (x : Str) : ∀ l : List Str, Up l → Up (insS x l)
  | [], _ => by simp [insS, Up]
  | y :: r, h => by
    obtain ⟨h1, h2⟩ := List.pairwise_cons.mp h
    unfold insS
    split
    · rename_i c
      refine List.pairwise_cons.mpr ⟨fun z hz => ?_, h⟩
      rcases List.mem_cons.mp hz with e | hz
      · rw [e]; exact c
      · exact ltS_trans c (h1 z hz)
    · split
      · rename_i c
        refine List.pairwise_cons.mpr ⟨fun z hz => ?_, up_insS x r h2⟩
        rcases (mem_insS x z r).mp hz with e | hz
        · rw [e]; exact c
        · exact h1 z hz
      · exact h
theorem mem_sset (z : Str) : ∀ xs : List Str, z ∈ sset xs ↔ z ∈ xs
  | [] => by simp [sset]
  | x :: r => by
    show z ∈ insS x (sset r) ↔ _
    rw [mem_insS, mem_sset z r, List.mem_cons]
theorem up_sset : ∀ xs : List Str, Up (sset xs)
  | [] => List.Pairwise.nil
  | x :: r => up_insS x _ (up_sset r)
theorem up_eq : ∀ {a b : List Str}, Up a → Up b → (∀ z, z ∈ a ↔ z ∈ b) → a = b
  | [], [], _, _, _ => rfl
  | [], y :: b, _, _, h => absurd ((h y).mpr (List.mem_cons_self ..)) (by simp)
  | x :: a, [], _, _, h => absurd ((h x).mp (List.mem_cons_self ..)) (by simp)
  | x :: a, y :: b, ha, hb, h => by
    obtain ⟨a1, a2⟩ := List.pairwise_cons.mp ha
    obtain ⟨b1, b2⟩ := List.pairwise_cons.mp hb
    have e : x = y := by
      rcases List.mem_cons.mp ((h x).mp (List.mem_cons_self ..)) with e | hx
      · exact e
      · rcases List.mem_cons.mp ((h y).mpr (List.mem_cons_self ..)) with e | hy
        · exact e.symm
        · have := ltS_asym (b1 x hx)
          rw [a1 y hy] at this; cases this
    subst e
    rw [up_eq a2 b2 fun z => ?_]
    constructor
    · intro hz
      rcases List.mem_cons.mp ((h z).mp (List.mem_cons_of_mem _ hz)) with e | hz'
      · subst e
        have := a1 z hz
        rw [ltS_irr] at this; cases this
      · exact hz'
    · intro hz
      rcases List.mem_cons.mp ((h z).mpr (List.mem_cons_of_mem _ hz)) with e | hz'
      · subst e
        have := b1 z hz
        rw [ltS_irr] at this; cases this
      · exact hz'
theorem rising_up : ∀ (p : Str) (l : List Str), risingS p l = true → (p :: l).Nodup → Up (p :: l)
  | p, [], _, _ => by simp [Up]
  | p, x :: r, h, n => by
    have h' : (!ltCps x.cps.toList p.cps.toList && risingS x r) = true := h
    rw [Bool.and_eq_true, Bool.not_eq_true'] at h'
    obtain ⟨n1, n2⟩ := List.nodup_cons.mp n
    have u := rising_up x r h'.2 n2
    have lt : ltS p x = true := by
      cases c : ltS p x with
      | true => rfl
      | false => exact absurd (ltS_tri c h'.1) (fun e => n1 (e ▸ List.mem_cons_self ..))
    refine List.pairwise_cons.mpr ⟨fun z hz => ?_, u⟩
    rcases List.mem_cons.mp hz with e | hz
    · rw [e]; exact lt
    · exact ltS_trans lt ((List.pairwise_cons.mp u).1 z hz)
theorem sorted_up : ∀ {l : List Str}, sortedS l = true → l.Nodup → Up l
  | [], _, _ => List.Pairwise.nil
  | x :: r, h, n => rising_up x r h n
def keyS : L2.Key → Str
  | .inr x => x
  | .inl _ => ⟨#[]⟩
section
variable {P : Program} {w : World} {A : Around} {E : Value → Shared → Prop} {s : Shared} {a : Addr} {n : Nat}
theorem strs_each : ∀ (vs : List Value) (xs : List Str), All2 (fun v x => ∃ t, v = Value.str x t) vs xs → StrsAre vs xs
  | _, _, .nil => .nil
  | _, _, .cons h t => by
    obtain ⟨u, rfl⟩ := h
    exact .cons _ u (strs_each _ _ t)
theorem strs_of_good {l : List (Int × Value)} {xs : List Str} (g : ∀ e ∈ l, GoodK w e) (m : ∀ e ∈ l, ∃ x, keyE e = .inr x) : StrsAre (l.map (·.2)) (l.map fun e => keyS (keyE e)) := by
  induction l with
  | nil => exact .nil
  | cons e r ih =>
    obtain ⟨x, hx⟩ := m e (List.mem_cons_self ..)
    obtain ⟨g1, _⟩ := g e (List.mem_cons_self ..)
    rw [hx] at g1
    obtain ⟨t, ht⟩ := g1
    rw [List.map_cons, List.map_cons, ht, hx]
    exact .cons x t (ih (fun e he => g e (List.mem_cons_of_mem _ he)) fun e he => m e (List.mem_cons_of_mem _ he))
/-- sorted(s), s a set of strs -/
theorem setM_sorted {xs : List Str} {Q : Value → Shared → Prop} (R : SetM w s.heap a (xs.map Sum.inr) n) (hh : A.handled = none) (h64 : n < 64)
    (hQ : ∀ s' p (out : Array Value) (c : Nat), (∀ b o, s.heap.get? b = some o → s'.heap.get? b = some o) → s'.gens = s.gens → s'.os = s.os → s.heap.objs.size ≤ p → s'.heap.get? p = some (seqObj "list" out c) → StrsAre out.toList (sset xs) → Q (.ref p) s') :
    wpAny (model P w) A (call (.builtin "sorted") [.ref a]) Q E s := by
  obtain ⟨o, es, ep, t, ho, hex, hd, ⟨g, nd, hm⟩, ⟨hb, hn⟩, ⟨hf, hr⟩, hl⟩ := R
  have isStr : ∀ e ∈ es.toList, ∃ x, keyE e = .inr x := fun e he => by
    obtain ⟨x, _, e2⟩ := List.mem_map.mp ((hm (keyE e)).mp (List.mem_map.mpr ⟨e, he, rfl⟩))
    exact ⟨x, e2.symm⟩
  refine Calls.call_function_entry kind_sorted plain_sorted entry_sorted (args_sorted1 _) ?_
  unfold Builtin.«sorted»
  refine wpAny_bind (m := checkCount "sorted" 1 1 _) (wpAny_pure ?_)
  refine wpAny_bind (collect_set (A := A.in1) hh ⟨o, ho, hex.1, hd⟩ hf hb hr hl fun s1 vs k1 hz g1 o1 pm => ?_)
  have S0 := strs_of_good (xs := xs) g isStr
  have S1 : ∃ zs, StrsAre vs zs ∧ zs.Perm (es.toList.map fun e => keyS (keyE e)) := by
    have hall : ∀ v ∈ vs, ∃ x t, v = Value.str x t := fun v hv => by
      obtain ⟨e, he, q⟩ := List.mem_map.mp (pm.mem_iff.mp hv)
      obtain ⟨x, hx⟩ := isStr e he
      obtain ⟨g2, _⟩ := g e he
      rw [hx] at g2
      obtain ⟨u, hu⟩ := g2
      exact ⟨x, u, q ▸ hu⟩
    have each : ∀ l : List Value, (∀ v ∈ l, ∃ x t, v = Value.str x t) → StrsAre l (l.map strOf) := fun l => by
      induction l with
      | nil => exact fun _ => .nil
      | cons v r ih =>
        intro h
        obtain ⟨x, t, rfl⟩ := h v (List.mem_cons_self ..)
        exact .cons x t (ih fun u hu => h u (List.mem_cons_of_mem _ hu))
    refine ⟨vs.map strOf, each vs hall, ?_⟩
    have q := pm.map strOf
    rw [List.map_map] at q
    refine q.trans (List.Perm.of_eq (List.map_congr_left fun e he => ?_))
    obtain ⟨x, hx⟩ := isStr e he
    obtain ⟨g2, _⟩ := g e he
    rw [hx] at g2 ⊢
    obtain ⟨u, hu⟩ := g2
    show strOf e.2 = keyS (.inr x)
    rw [hu]; rfl
  obtain ⟨zs, S1, pz⟩ := S1
  have hvl : vs.length ≤ n := by
    have := pm.length_eq
    rw [List.length_map] at this
    rw [this, Array.length_toList]
    exact hn
  refine wpAny_bind (wpAny_newList ?_ (by rw [sizeLine_eq]; omega))
  have oL : (s1.heap.push (seqObj "list" vs.toArray 0)).get? s1.heap.objs.size = some (seqObj "list" vs.toArray 0) := Heap.get?_push_size _ rfl
  refine wpAny_bind (wpAny_holding (wpAny_call_entry PyProof.Rows.slot_list_sort ⟨_, oL, rfl⟩ PyProof.Rows.entry_list_sort
    (list_sort_treeK strKind_oneLt (s := { s1 with heap := s1.heap.push (seqObj "list" vs.toArray 0) }) oL S1.keysOf (fun v₁ v₂ rest e => keyKind_strs (by rw [← e]; exact S1)) (by omega) fun st' hp hs => ⟨_, rfl, ?_⟩) (PyProof.Rows.args_list_sort _)))
  obtain ⟨ys, y1, y2, y3⟩ := sorted_out_str S1 hp hs
  obtain ⟨c, hc⟩ := PyProof.Rows.sortedHeap_at (vs := vs) (out := (arrOf st').map (·.2)) oL
  have py := y2.trans pz
  have ndS : (es.toList.map fun e => keyS (keyE e)).Nodup := by
    have e2 : es.toList.map keyE = (es.toList.map fun e => keyS (keyE e)).map Sum.inr := by
      rw [List.map_map]
      refine List.map_congr_left fun e he => ?_
      obtain ⟨x, hx⟩ := isStr e he
      show keyE e = Sum.inr (keyS (keyE e))
      rw [hx]; rfl
    rw [e2] at nd
    exact List.Pairwise.of_map _ (fun _ _ hne e => hne (congrArg _ e)) nd
  have ey : ys = sset xs := by
    refine up_eq (sorted_up y3 (py.nodup_iff.mpr ndS)) (up_sset xs) fun z => ?_
    rw [py.mem_iff, mem_sset]
    constructor
    · intro h
      obtain ⟨e, he, q⟩ := List.mem_map.mp h
      obtain ⟨x, hx, e3⟩ := List.mem_map.mp ((hm (keyE e)).mp (List.mem_map.mpr ⟨e, he, rfl⟩))
      rw [← q, ← e3]; exact hx
    · intro h
      obtain ⟨e, he, q⟩ := List.mem_map.mp ((hm (.inr z)).mpr (List.mem_map.mpr ⟨z, h, rfl⟩))
      exact List.mem_map.mpr ⟨e, he, by rw [q]; rfl⟩
  rw [ey] at y1
  refine wpAny_pure ⟨_, rfl, hQ _ s1.heap.objs.size _ c (fun b u e => ?_) g1 o1 hz hc y1⟩
  have q := k1 b u e
  have lt := Heap.lt_size q
  show (sortedHeap (s1.heap.push (seqObj "list" vs.toArray 0)) s1.heap.objs.size vs ((arrOf st').map (·.2))).get? b = some u
  rw [PyProof.Rows.sortedHeap_old (Nat.ne_of_lt lt) (by rw [size_push']; exact Nat.lt_succ_of_lt lt)]
  exact Heap.get?_push_of_some _ q
end
/-- the set as an object -/
def SetMO (w : World) (a : Addr) (S : List L2.Key) (n : Nat) : HO := .ext fun h => SetM w h a S n
section
variable {X : Cx} {K : KW}
theorem setMO_new {P : Program} {w : World} {H : Hp} {h : Heap} {a : Addr} {S : List L2.Key} {n : Nat} (R : SetM w h a S n) : ObjOk P w H h a (SetMO w a S n) :=
  let ⟨o, _, _, _, ho, _⟩ := R
  ⟨R, ⟨o, ho⟩, fun _ _ p k => p.at k⟩
def rSetOf (K : KW) (w : World) : List V → Hp → VK → Prop := fun vs H Q => ∃ (a : Addr) (xs : List Str), vs = [.ref a] ∧ SqL K H a (xs.map V.str) ∧ xs.length < 63 ∧ ∀ p, H p = none → Q (.ref p) (upd H p (SetMO w p (xs.map Sum.inr) xs.length))
theorem cr_setOf (hc : X.calm = true) : CallR X (.type "set") (rSetOf X.KW X.w) := by
  intro pins s σ H vs us Q I r h
  obtain ⟨a, xs, rfl, sq, hl, q⟩ := h
  obtain ⟨u, rfl, rx⟩ := vals1 r
  cases rx
  obtain ⟨its, rv, pl, hz⟩ := I.list sq
  have hlen := rv.length
  rw [List.length_map] at hlen
  refine setM_of (xs.map Sum.inr) (I.ok.hd hc) pl.isList (by simp [hlen]) (fun i v hv => ?_) (by rw [List.length_map]; exact Nat.lt_of_lt_of_le (Nat.succ_lt_succ hl) (by decide)) fun h' tk R k => ?_
  · have hvi : its[i]? = some v := by rw [← Array.getElem?_toList] at hv; exact hv
    have hi : i < xs.length := by rw [hlen]; exact (List.getElem?_eq_some_iff.mp hvi).1
    have hx : (xs.map V.str)[i]? = some (.str xs[i]) := by rw [List.getElem?_map, List.getElem?_eq_getElem hi]; rfl
    obtain ⟨v', hv', rw'⟩ := rv.get hx
    rw [hvi] at hv'
    cases hv'
    exact ⟨.inr xs[i], by rw [List.getElem?_map, List.getElem?_eq_getElem hi]; rfl, rw'⟩
  · rw [List.length_map] at R
    exact ⟨.ref _, upd H s.heap.objs.size (SetMO X.w s.heap.objs.size (xs.map Sum.inr) xs.length), I.laid (t' := tk) k (Nat.le_refl _) (setMO_new R), rfl, q _ (I.hok.fresh (Nat.le_refl _))⟩
def rSorM (w : World) : List V → Hp → VK → Prop := fun vs H Q => ∃ (a : Addr) (xs : List Str) (n : Nat), vs = [.ref a] ∧ H a = some (SetMO w a (xs.map Sum.inr) n) ∧ n < 64 ∧ (sset xs).length ≤ sizeLine ∧ ∀ p, H p = none → Q (.ref p) (upd H p (.lst ((sset xs).map V.str)))
theorem cr_sorM (hc : X.calm = true) : CallR X (.builtin "sorted") (rSorM X.w) := by
  intro pins s σ H vs us Q I r h
  obtain ⟨a, xs, n, rfl, ha, hn, hz, q⟩ := h
  obtain ⟨u, rfl, rx⟩ := vals1 r
  cases rx
  obtain ⟨R, _, _⟩ := I.hok a _ ha
  refine setM_sorted R (I.ok.hd hc) hn fun s' p out c k g o le hp hS => ?_
  have hn0 : H p = none := I.hok.fresh le
  have es : s' = { s with heap := s'.heap, gens := s'.gens, drawn := s'.drawn, toks := s'.toks } := by
    cases s'; cases s; cases o; rfl
  have J : Inv X pins σ (upd H p (.lst ((sset xs).map V.str))) { s with heap := s'.heap, gens := s'.gens, drawn := s'.drawn, toks := s'.toks } :=
    I.call (ch := []) (Un.laid k le hn0) (I.hok.laid k le ⟨by rw [List.length_map]; exact hz, out.toList, c, vals_of_strs hS, by rw [Array.toArray_toList]; exact hp⟩) (by rw [g]; exact I.bare) fun _ z => nomatch z
  rw [es]
  exact ⟨.ref p, _, J, rfl, q p hn0⟩
def strL : List D → Option (List Str)
  | [] => some []
  | .str b :: r => (strL r).map (b :: ·)
  | _ => none
theorem strL_eq : ∀ {ds : List D} {bs : List Str}, strL ds = some bs → ds = bs.map .str
  | [], bs, h => by cases h; rfl
  | .str b :: r, bs, h => by
    obtain ⟨cs, hc, rfl⟩ := Option.map_eq_some_iff.mp (show (strL r).map (b :: ·) = some bs from h)
    rw [List.map_cons, ← strL_eq hc]
  | .none :: r, bs, h => by cases h
  | .int _ :: r, bs, h => by cases h
  | .bool _ :: r, bs, h => by cases h
  | .list _ :: r, bs, h => by cases h
  | .tuple _ :: r, bs, h => by cases h
  | .dict _ :: r, bs, h => by cases h
theorem len_insS (x : Str) : ∀ l : List Str, (insS x l).length ≤ l.length + 1
  | [] => Nat.le_refl _
  | y :: r => by
    unfold insS
    split
    · exact Nat.le_refl _
    · split
      · have := len_insS x r
        simp only [List.length_cons]
        omega
      · exact Nat.le_succ _
theorem len_sset : ∀ xs : List Str, (sset xs).length ≤ xs.length
  | [] => Nat.le_refl _
  | x :: r => by
    have := len_insS x (sset r)
    have h2 := len_sset r
    show (insS x (sset r)).length ≤ _
    simp only [List.length_cons]
    omega
theorem rp_strs {H : Hp} {O : Addr → Prop} : ∀ xs : List Str, RpL K H O (xs.map V.str) (xs.map .str)
  | [] => .nil
  | x :: r => .cons (.str x) (rp_strs r)
def ssetG (d : D) : Option Rs := match d with
  | .list ds => (strL ds).bind fun xs => if xs.length < 63 then some (.fr (.list ((sset xs).map .str))) else none
  | _ => none
theorem de_sset {f : M Rs} {p p2 pos pos2 : Pos} {e : Expr} (he : PE X e (tE X.KW f)) (hm : X.mg "sorted" = none) (hm2 : X.mg "set" = none) (hg : Gl X "sorted" := by rfl) (hg2 : Gl X "set" := by rfl) (hc : X.calm = true := by rfl)
    (h1 : starEach [e] X.env = (false, eval e X.env) :: starEach [] X.env := by rfl) (h2 : starEach [.Call (.Name "set" p2) [e] [] pos2] X.env = (false, eval (.Call (.Name "set" p2) [e] [] pos2) X.env) :: starEach [] X.env := by rfl)
    (h3 : (backTo pos2 (starEach [] X.env)).any (·.1) = false := by rfl) (h4 : (backTo pos (starEach [] X.env)).any (·.1) = false := by rfl) : PE X (.Call (.Name "sorted" p) [.Call (.Name "set" p2) [e] [] pos2] [] pos) (tE X.KW (op1 ssetG f)) :=
  PE.weak (pe_callB (cr_sorM hc) hg hm boot_sorted (pa_cons (pe_callTy (cr_setOf hc) hg2 hm2 boot_set (pa_cons he pa_nil h1) (by decide) (by decide) h1 h3) pa_nil h2) (by decide) (by decide) h2 h4) (by
  rintro σ H Q ⟨γ, e, Z, res, e', R, h, k⟩
  obtain ⟨ra, e1, h1, ha⟩ := bnd_eq h
  obtain ⟨d, e2, h2, hb⟩ := bnd_eq ha
  obtain ⟨q1, rfl⟩ := rdM_eq h2
  obtain ⟨q2, rfl⟩ := opt_eq hb
  refine ⟨γ, e, Z, ra, e', R, h1, fun x H1 kp sh P => ?_⟩
  obtain ⟨Z1, h01, hf, R1, A1⟩ := P.one
  unfold ssetG at q2
  split at q2
  · obtain ⟨xs, hx, q3⟩ := Option.bind_eq_some_iff.mp q2
    split at q3
    · rename_i hl
      cases q3
      have := strL_eq hx
      subst this
      obtain ⟨a, vs, rfl, sq, r⟩ := (A1.rd R1 q1).lst
      have := r.strs
      subst this
      refine ⟨a, xs, rfl, sq, hl, fun p1 hp1 => ?_⟩
      refine ⟨p1, xs, xs.length, rfl, upd_same, by omega, by have := len_sset xs; rw [sizeLine_eq]; omega, fun p2 hp2 => ?_⟩
      obtain ⟨kp2, P2⟩ := (Gr.lst (K := X.KW) (O := Hid γ e'.ρ σ Z1) (same_upd hp1) hp2 (rp_strs (sset xs))).pst R1
      exact k _ _ (kp.trans sh kp2) sh (Pst.next (rs0 := []) (xs0 := []) kp h01 hf P2)
    · cases q3
  · cases q2)
end
end DV
end
section
set_option Elab.async false
set_option linter.all false
set_option maxRecDepth 100000
namespace DV
open PySem PySem.Spec PyProof.Rows L2
/-! ### the law itself, called by the judge: there no repr is under way -/
/-- a def of one parameter, called from without -/
def LawOk (P : Program) (w : World) (K : PySem.W.Frag) (mg : Str → Option Value) (base : Heap) (fa : Addr) (fd : FuncData) (x : Str) (F : Fn) : Prop :=
  ∀ (s : Shared) (H : Hp) (u : Value) (v : V) (Q : VK), Env0 P w K mg base callerA [] s H → BindsTo s fd ⟨[u], []⟩ [(x, u)] → RelV v u → spD ⟨K, w⟩ 1 F [v] H Q (fun _ _ _ => False) →
    codeAny (model P w) callerA (.call (.ref fa) ⟨[u], []⟩) (fun r s' => ∃ y, r = .ok (.ret y) ∧ CE [] P w H s Q y s') s
theorem law_ok {P : Program} {w : World} {K : PySem.W.Frag} {mg : Str → Option Value} {base : Heap} {x p : Str} {st : Stmt} {f : Addr} {fd : FuncData} {N : List Str} {k : Nat} {body : M Fl} (F : FnP K x st f fd) (S : FnScope N [p] (defScope st)) (hr : Room (k + 1) callerA)
    (h : ∀ (cdv : Value) (s : Shared) (H : Hp) (E : XK), Room k (callerA.deeper (envOfC x (defScope st) s.heap.objs.size f cdv)) → PSs (cxOf CX0 P w K mg base N x (defScope st) f cdv callerA [] s H E).nox (defBody st) (tS ⟨K, w⟩ body)) : LawOk P w K mg base f fd p (fnOf 1 N.length body) := by
  obtain ⟨oc, od, dV, kV, doc, pm, an, cdv, ct, osl, rfl, lk, hcd, _, _⟩ := F.ex
  intro s H u v Q e0 hb r hsp
  have KS : K.In s.heap := e0.mod.kin.keeps fun b o e => (e0.bs b o e).1
  have lim : s.heap.NoLimit := e0.mod.nolimit.keeps fun b o e => (e0.bs b o e).1
  have kinds : ∀ y ∈ [(p, u)], (defScope st).names.lookup y.1 = some .local ∨ ((defScope st).names.lookup y.1 = some .cell ∧ ((cellsFrom (s.heap.objs.size + 1) (defScope st).names []).lookup y.1).isSome = true) := fun y hy => by
    obtain rfl : y = (p, u) := List.mem_singleton.mp hy
    exact (S.par p (List.mem_singleton.mpr rfl)).imp id fun q => ⟨q, PySem.W.cellsFrom_some _ _ _ (.inl q)⟩
  refine codeAny_call_function hr.depth (KS _ _ lk) rfl S.co S.gen rfl (PySem.W.codeRec_of KS hcd) (hb _ _ _ _ (wpAny_newFunctionEnv_cells S.kind kinds fun env he s1 y => ?_))
  subst he
  refine ⟨lim.keeps y.toInCall.keep, codeAny_func ?_⟩
  have I : Inv (cxOf CX0 P w K mg base N x (defScope st) f cdv callerA [] s H fun _ _ _ => False) [] (start N [v]) H s1 := inv_start S hr.hd e0 rfl (.cons r .nil) y
  refine wpAny_mono ((h cdv s H (fun _ _ _ => False) (hr.deeper _)).run [] s1 (start N [v]) H _ (I.wish _) (fn_body hsp)) (fun fl s' hs0 => ?_) fun e s' hs => False.elim hs
  have hs := hs0.unwish
  cases fl with
  | ret y => obtain ⟨w', σ', H', J, rv, q⟩ := hs; exact ⟨y, rfl, w', H', J.os, J.bare, J.base, J.hok, rv, q⟩
  | next => obtain ⟨σ', H', J, q⟩ := hs; exact ⟨.none, rfl, .non, H', J.os, J.bare, J.base, J.hok, rfl, q⟩
  | brk => obtain ⟨_, _, _, q⟩ := hs; exact False.elim q
  | cont => obtain ⟨_, _, _, q⟩ := hs; exact False.elim q

theorem law_end {P : Program} {w : World} {K : PySem.W.Frag} {mg mb : Str → Option Value} {fa a : Addr} {fd : FuncData} {x : Str} {F : Fn} {s1 : Shared} {vs : List Value} {ns : List Int}
    (KX : K.In s1.heap) (hns : s1.heap.Ns mainGlobals mg) (hb : s1.heap.Ns builtinsNs mb) (hbb : ∀ x : Str, x ≠ "__name__" → mb x = bootBuiltins x) (hlim : s1.heap.NoLimit) (hg : s1.gens = #[])
    (ha : s1.heap.get? a = some { cls := .type "list", data := .seq vs.toArray }) (hi : IntsAre vs ns) (hl : ns.length ≤ sizeLine) (G : ∀ base : Heap, K.In base → base.Ns mainGlobals mg → LawOk P w K mg base fa fd x F)
    (hbind : ∀ (s : Shared) (u : Value), BindsTo s fd ⟨[u], []⟩ [(x, u)]) (hF : F [.fz (.list (ns.map .int))] [] = some (.fz (.bool true), [])) :
    codeAny (model P w) callerA (.call (.ref fa) ⟨[.ref a], []⟩) (fun r s' => r = .ok (.ret (.bool true)) ∧ OldK s1.heap s'.heap ∧ s'.os = s1.os ∧ AllBare s'.gens) s1 := by
  have rv := vals_ints hi
  have lenV := hi.length
  -- the script tracked (or one of the module's own)
  have main : ∀ H : Hp, Only H → SqL K H a (ns.map V.int) → HOk P w H s1.heap → (∀ b, H b ≠ none → b = a) → (H a ≠ none → K.lookup a = none) →
      codeAny (model P w) callerA (.call (.ref fa) ⟨[.ref a], []⟩) (fun r s' => r = .ok (.ret (.bool true)) ∧ OldK s1.heap s'.heap ∧ s'.os = s1.os ∧ AllBare s'.gens) s1 := by
    intro H only sq hok hA hK
    have free : ∀ {b : Addr}, b ≠ a → H b = none := fun {b} n => by
      cases q : H b with
      | none => rfl
      | some u => exact absurd (hA b (by rw [q]; simp)) n
    have inB : ∀ {b : Addr} {o : Obj}, s1.heap.get? b = some o → H b = none → (hidT s1.heap H).get? b = some o := fun e n => hidT_get e n
    have nsB : ∀ {b : Addr} {m : Str → Option Value}, s1.heap.Ns b m → (hidT s1.heap H).Ns b m := fun {b m} ⟨o, es, ep, e, d, r⟩ => by
      refine ⟨o, es, ep, inB e (free fun z => ?_), d, r⟩
      rw [z, ha] at e
      cases e
      cases d
    have kB : K.In (hidT s1.heap H) := fun b o e => inB (KX b o e) (by
      cases q : H b with
      | none => rfl
      | some u =>
        have z := hA b (by rw [q]; simp)
        rw [z] at e q
        rw [hK (by rw [q]; simp)] at e
        cases e)
    have md : Mod K mg (hidT s1.heap H) := ⟨kB, nsB hns, ⟨mb, nsB hb, hbb⟩, let ⟨mc, h1, h2⟩ := hlim; ⟨mc, nsB h1, h2⟩⟩
    have en : Env0 P w K mg (hidT s1.heap H) callerA [] s1 H := ⟨rfl, md, fun b o e => of_hidT e, Nat.le_of_eq (hidT_size _ _), trivial, fun b z => absurd (show b ∈ ([] : List Addr) from z) (by simp), hok, .of_eq hg⟩
    have lo : SqLo ⟨K, w⟩ H (fun _ => False) a (ns.map V.int) := sq.imp (fun q => ⟨q, id⟩) id
    have rpI : ∀ l : List Int, RpL ⟨K, w⟩ H (Hid [] [some (Sl.fz (.list (ns.map .int)))] [some (.ref a)] fun _ => False) (l.map V.int) (l.map .int) := fun l => by
      induction l with
      | nil => exact .nil
      | cons i r ih => exact .cons (.int i) ih
    have nh : ∀ b, ¬ Hid [] [some (Sl.fz (.list (ns.map .int)))] [some (.ref a)] (fun _ => False) b := fun b z => by
      rcases z with ⟨i, s, h1, m, _⟩ | z | z
      · cases i with
        | zero => simp at h1; subst h1; cases m
        | succ i => simp at h1
      · simp at z
      · exact z
    have R0 : Rep ⟨K, w⟩ [] ⟨[some (Sl.fz (.list (ns.map .int)))], []⟩ [some (.ref a)] H fun _ => False := by
      refine ⟨rfl, fun i s h => ?_, fun i s b h m => ?_, fun i d b h => ?_, rfl, List.nodup_nil, fun k b x y h => by simp at h, fun b hb => by simp at hb, fun b z => z.elim⟩
      · cases i with
        | zero =>
          simp at h
          subst h
          exact ⟨_, rfl, .lst (sq.imp (fun q => ⟨q, nh a⟩) id) (rpI ns)⟩
        | succ i => simp at h
      · cases i with
        | zero => simp at h; subst h; cases m
        | succ i => simp at h
      · cases i with
        | zero => simp at h
        | succ i => simp at h
    refine codeAny_mono (G _ kB (nsB hns) s1 H (.ref a) (.ref a) (fun v _ => v = .bl true) en (hbind s1 (.ref a)) rfl ⟨[], [.fz (.list (ns.map .int))], [], fun _ => False, .fz (.bool true), [], R0, rfl, rfl, hF, fun v H' kp P2 => ?_⟩) fun r s' h => ?_
    · obtain ⟨Z1, _, _, _, A1⟩ := P2.one
      cases A1
      rfl
    · obtain ⟨y, rfl, v, H', os, bare, un, hok', ry, q⟩ := h
      subst q
      obtain rfl : y = Value.bool true := ry
      refine ⟨rfl, OldK.of_keep fun b o e => ?_, os, bare⟩
      cases q : H b with
      | none => exact un.keep b o e q (by intro z; exact absurd (show b ∈ ([] : List Addr) from z) (by simp)) (by simp)
      | some t =>
        rcases only b with z | ⟨ob, zs, z⟩
        · rw [q] at z; cases z
        · obtain ⟨e1, _⟩ := hok b _ z
          obtain ⟨e2, _⟩ := hok' b _ (un.frzs b ob _ z)
          rw [e] at e1
          cases e1
          exact e2
  cases hk : K.lookup a with
  | some o =>
    have e := KX a o hk
    rw [ha] at e
    cases e
    exact main (fun _ => none) (fun _ => .inl rfl) (.inr ⟨_, vs.toArray, _, hk, rfl, rfl, rfl, by rw [List.size_toArray, lenV]; exact hl, by simpa using rv⟩) (fun b u z => by cases z) (fun b z => absurd rfl z) fun z => absurd rfl z
  | none =>
    let H0 : Hp := fun b => if b = a then some (.frz { cls := .type "list", data := .seq vs.toArray } (.lst (ns.map V.int))) else none
    have at0 : H0 a = some (.frz { cls := .type "list", data := .seq vs.toArray } (.lst (ns.map V.int))) := if_pos rfl
    have off : ∀ {b : Addr}, b ≠ a → H0 b = none := fun n => if_neg n
    refine main H0 (fun b => ?_) (.inl (.inr ⟨_, at0⟩)) (fun b u z => ?_) (fun b z => ?_) fun _ => hk
    · by_cases n : b = a
      · rw [n]; exact .inr ⟨_, _, at0⟩
      · exact .inl (off n)
    · by_cases n : b = a
      · subst n
        rw [at0] at z
        cases z
        exact ⟨ha, by rw [List.length_map]; exact hl, vs, _, rv, ha⟩
      · rw [off n] at z; cases z
    · by_cases n : b = a
      · exact n
      · exact absurd (off n) z
/-- a law of one def, over a head by facts -/
theorem law_walk {l : PySem.W.OpenLaw} {n : Nat} {q : Program} {loose : List Str} {XP : (Str → Option Value) → Heap → Prop} {YP : World → Heap → Prop} {d : DefRec} {x : Str} (hn : l.most = some n) (hn2 : n ≤ sizeLine) (hdf : d.params.defaults = [])
    (F : ∀ (w : World) (mg : Str → Option Value) (fa : Addr) (h : Heap), YP w h → h.Ns mainGlobals mg → mg d.name = some (.ref fa) → ∃ (K : PySem.W.Frag) (fd : FuncData) (F : Fn), K.In h ∧ (∀ (s : Shared) (u : Value), BindsTo s fd ⟨[u], []⟩ [(x, u)]) ∧
        (∀ ns : List Int, ns.length ≤ n → F [.fz (.list (ns.map .int))] [] = some (.fz (.bool true), [])) ∧ ∀ base : Heap, K.In base → base.Ns mainGlobals mg → LawOk l.prog w K mg base fa fd x F) :
    PySem.W.WalkO q loose XP YP l.row.toRowW d [] (fun f vs => PySem.call f vs) := by
  refine Att.attach_call hn hdf fun w s₀ s₁ mg mb fa o pm cd doc a vs ns G Y ho hd hcd hmg hobj hints hlen hg => ?_
  obtain ⟨K, fd, F0, KX, hb, hsp, hF⟩ := F w mg fa _ Y G.T.g hmg
  exact law_end KX G.T.g G.T.b G.T.builtins G.T.nolimit hg hobj hints (Nat.le_trans hlen hn2) hF hb (hsp ns hlen)
end DV
end
section
set_option Elab.async false
set_option linter.all false
set_option maxRecDepth 100000
namespace DV
open PySem PySem.Spec PyProof.Rows L2
section
variable {X : Cx} {K : KW} {a b c : Expr} {pos : Pos}
/-! ### a op b op c -/
def chnM (g g' : D → D → Option Rs) (fa fb fc : M Rs) : M Rs := bnd fa fun x => bnd fb fun y => bnd (rdM x) fun dx => bnd (rdM y) fun dy => bnd (opt (g dx dy)) fun r => bnd (tst1 r) fun t =>
  if t = true then bnd fc fun z => bnd (rdM y) fun dy => bnd (rdM z) fun dz => opt (g' dy dz) else ret (.fz (.bool false))
theorem tE_chn {r r' : R2} {g g' : D → D → Option Rs} {fa fb fc : M Rs} (o : Op2 K r g) (o' : Op2 K r' g') : ∀ σ H Q, tE K (chnM g g' fa fb fc) σ H Q → tChain r r' (tE K fa) (tE K fb) (tE K fc) σ H Q := by
  rintro σ H Q ⟨γ, e, Z, res, e', R, h, k⟩
  obtain ⟨x, e1, h1, h2⟩ := bnd_eq h
  obtain ⟨y, e2, h3, h4⟩ := bnd_eq h2
  obtain ⟨dx, e3, h5, h6⟩ := bnd_eq h4
  obtain ⟨dy, e4, h7, h8⟩ := bnd_eq h6
  obtain ⟨r1, e5, h9, h10⟩ := bnd_eq h8
  obtain ⟨t, e6, h11, h12⟩ := bnd_eq h10
  obtain ⟨q5, rfl⟩ := rdM_eq h5
  obtain ⟨q7, rfl⟩ := rdM_eq h7
  obtain ⟨q9, rfl⟩ := opt_eq h9
  obtain ⟨rfl, rfl⟩ := tst1_eq h11
  refine ⟨γ, e, Z, x, e1, R, h1, fun v H1 kp sh P => ?_⟩
  obtain ⟨Z1, h01, hf, R1, A1⟩ := P.one
  refine ⟨γ, e1, Z1, y, e6, R1, h3, fun w H2 kp2 sh2 P2 => ?_⟩
  obtain ⟨Z2, h12', hf2, R2, A2⟩ := P2.one
  have A1' := A1.keep R1 R2 kp2 sh2 h12' hf2
  have kpA := kp.trans sh kp2
  have shA := sh.trans sh2
  have h02 : ∀ a, Z a → Z2 a := fun a z => h12' a (h01 a z)
  have hf02 : ∀ a, Z2 a → Z a ∨ H a = none := fun a z => by
    rcases hf2 a z with z | z
    · exact hf a z
    · exact .inr (kp.none z)
  refine o H2 _ v w dx dy _ _ (fun a ha => Hid.tr R2 ha) (A1'.rd R2 q5) (A2.rd R2 q7) q9 fun u H3 gr => ?_
  obtain ⟨kp3, P3⟩ := gr.pst R2
  obtain ⟨Z3, h23, hf3, R3, A3⟩ := P3.one
  have eu : u = .bl t := by cases A3; rfl
  refine ⟨t, eu, ?_⟩
  have kpB := kpA.trans shA kp3
  cases t with
  | false =>
    rw [if_neg Bool.false_ne_true] at h12 ⊢
    cases h12
    exact k _ H3 kpB shA ⟨Z3, fun a z => h23 a (h02 a z), fun a z => (hf3 a z).elim (hf02 a) fun z => .inr (kpA.none z), R3, .cons (.bl false) .nil⟩
  | true =>
    simp only [if_true] at h12
    refine iteT ?_
    obtain ⟨z, e7, h13, h14⟩ := bnd_eq h12
    obtain ⟨dy', e8, h15, h16⟩ := bnd_eq h14
    obtain ⟨dz, e9, h17, h18⟩ := bnd_eq h16
    obtain ⟨q15, rfl⟩ := rdM_eq h15
    obtain ⟨q17, rfl⟩ := rdM_eq h17
    obtain ⟨q18, rfl⟩ := opt_eq h18
    have A2' := A2.keep R2 R3 kp3 (Sh.refl _) h23 hf3
    refine ⟨γ, e6, Z3, z, _, R3, h13, fun s H4 kp4 sh4 P4 => ?_⟩
    obtain ⟨Z4, h34, hf4, R4, A4⟩ := P4.one
    have A2'' := A2'.keep R3 R4 kp4 sh4 h34 hf4
    refine o' H4 _ w s dy' dz res _ (fun a ha => Hid.tr R4 ha) (A2''.rd R4 q15) (A4.rd R4 q17) q18 fun u2 H5 gr2 => ?_
    obtain ⟨kp5, P5⟩ := gr2.pst R4
    have h03 : ∀ a, Z a → Z3 a := fun a z => h23 a (h02 a z)
    have hf03 : ∀ a, Z3 a → Z a ∨ H a = none := fun a z => (hf3 a z).elim (hf02 a) fun z => .inr (kpA.none z)
    exact k u2 H5 ((kpB.trans shA kp4).trans (shA.trans sh4) kp5) (shA.trans sh4) (Pst.next (rs0 := []) (xs0 := []) kpB h03 hf03 (Pst.next (rs0 := []) (xs0 := []) kp4 h34 hf4 P5))
theorem de_chn {op op' : CmpOp} {r r' : R2} {g g' : D → D → Option Rs} {fa fb fc : M Rs} (o : Op2 X.KW r g) (ho : OpR X (compareOp op) r) (o' : Op2 X.KW r' g') (ho' : OpR X (compareOp op') r') (ha : PE X a (tE X.KW fa)) (hb : PE X b (tE X.KW fb)) (hc : PE X c (tE X.KW fc))
    (hm : lastMarks [op, op'] [b, c] = false := by with_unfolding_all rfl) : PE X (.Compare a [op, op'] [b, c] pos) (tE X.KW (chnM g g' fa fb fc)) := PE.weak (pe_chain ho ho' ha hb hc hm) (tE_chn o o')
theorem dt_chn {op op' : CmpOp} {r r' : R2} {g g' : D → D → Option Rs} {fa fb fc : M Rs} (o : Op2 X.KW r g) (ho : OpR X (compareOp op) r) (o' : Op2 X.KW r' g') (ho' : OpR X (compareOp op') r') (ha : PE X a (tE X.KW fa)) (hb : PE X b (tE X.KW fb)) (hc : PE X c (tE X.KW fc))
    (hm : lastMarks [op, op'] [b, c] = false := by with_unfolding_all rfl) : PT X (.Compare a [op, op'] [b, c] pos) (tT X.KW (tstM (chnM g g' fa fb fc))) := PT.weak (pt_chain ho ho' ha hb hc hm) fun σ H Q h => tE_chn o o' σ H _ (tT_tst σ H Q h)

/-! ### a, b = x, y where a name is held in a cell: by way of a tuple -/
theorem tS_parG {i j : Nat} {fa fb : M Rs} : ∀ D σ H, tS K (parM i j fa fb) D σ H → tAsg (tTup (tCons (tE K fa) (tCons (tE K fb) tNil))) (gTup K 2 (gCons (gName i) (gCons (gName j) gNil))) D σ H := by
  rintro D σ H ⟨γ, e, Z, fl, e', R, h, k⟩
  obtain ⟨ra, e1, h1, hq1⟩ := bnd_eq h
  obtain ⟨u0, e2, h2, hq2⟩ := bnd_eq hq1
  obtain ⟨rb, e3, h3, hq3⟩ := bnd_eq hq2
  obtain ⟨u1, e4, h4, hq4⟩ := bnd_eq hq3
  obtain ⟨u2, e5, h5, hq5⟩ := bnd_eq hq4
  cases hq5
  obtain ⟨rfl, na⟩ := noSl_eq h2
  refine ⟨γ, e, Z, ra, e2, R, h1, fun v H1 kp sh P => ?_⟩
  obtain ⟨Z1, h01, hf, R1, A1⟩ := P.one
  refine ⟨γ, e2, Z1, rb, e3, R1, h3, fun w H2 kp2 sh2 P2 => ⟨by show 2 ≤ sizeLine; decide, fun t ht => ⟨t, [v, w], rfl, .of upd_same, rfl, ?_⟩⟩⟩
  refine ⟨v, [w], rfl, w, [], rfl, rfl, ?_⟩
  obtain ⟨Z2, h12, hf2, R2, A2⟩ := P2.one
  have A1' := A1.keep R1 R2 kp2 sh2 h12 hf2
  -- the tuple is laid beside
  have sm : Same H2 (upd H2 t (.tup [v, w])) := same_upd ht
  have R2t : Rep K γ e3 σ (upd H2 t (.tup [v, w])) Z2 := R2.grow sm fun a z => .inl z
  have kpt : Kp γ e3.ρ σ H2 (upd H2 t (.tup [v, w])) := Kp.of_same sm
  have A1t := A1'.keep R2 R2t kpt (Sh.refl _) (fun _ z => z) (fun _ z => .inl z)
  have A2t := A2.keep R2 R2t kpt (Sh.refl _) (fun _ z => z) (fun _ z => .inl z)
  obtain ⟨Z3, g1, g2, g3, R3, n3, hs3⟩ := asgF_ok h4 (fun x z => h12 x (h01 x z)) R2t A1t
  have nb : ∀ i, rb ≠ .sl i := fun l q => by
    subst q
    obtain ⟨_, _, c⟩ := asgF_eq h5
    rcases c with ⟨d, q, _⟩ | ⟨d, q, _⟩ <;> cases q
  have hb3 : RsOk K γ (upd H2 t (.tup [v, w])) e4 (σ.set i (some v)) Z Z3 rb w := by
    cases rb with
    | sl l => exact absurd rfl (nb l)
    | fz d => exact Rp.stay (stay_refl fun x o _ z => hs3 x z) d A2t
    | fr d =>
      obtain ⟨p, rfl, hp, np, c⟩ := A2t
      refine ⟨p, rfl, g3 p hp fun da ea ev => ?_, fun z => np (h01 p z), c.stay (stay_refl fun x o _ z => hs3 x z) fun o ho => ho⟩
      subst ea
      obtain ⟨p', ev', hp', _⟩ := A1
      rw [ev] at ev'
      cases ev'
      exact np hp'
  obtain ⟨Z4, f1, f2, f3, R4, n4, hs4⟩ := asgF_ok h5 g1 R3 hb3
  have hall : ∀ x, Z2 x → Z x ∨ H x = none := fun x z => by
    rcases hf2 x z with z | z
    · exact hf x z
    · exact .inr (kp.none z)
  exact k γ _ _ (Nst.stp ((kp.trans sh kp2).trans (sh.trans sh2) kpt) (sh.trans sh2) (Nst.trans (e1 := e4) (σ2 := σ.set i (some v)) n3 n4 g2) hall) (R4.down f1)
theorem ds_parG {i j : Nat} {x y : Str} {fa fb : M Rs} {px py pt pos : Pos} {kt k2 pt2} (ha : PE X a (tE X.KW fa)) (hb : PE X b (tE X.KW fb)) (hN : X.N.Nodup) (hi : X.N[i]? = some x := by rfl) (hj : X.N[j]? = some y := by rfl) (hc : X.calm = true := by rfl)
    (hx : Loc X.env.scope x := by first | exact Or.inl rfl | exact Or.inr rfl) (hy : Loc X.env.scope y := by first | exact Or.inl rfl | exact Or.inr rfl)
    (hfx : X.fn x = true ∨ X.env.scope.names.lookup x = some .local := by first | exact .inl rfl | exact .inr rfl | assumption) (hfy : X.fn y = true ∨ X.env.scope.names.lookup y = some .local := by first | exact .inl rfl | exact .inr rfl | assumption)
    (hw : swappedStores [.Tuple [.Name x px, .Name y py] kt pt] (.Tuple [a, b] k2 pt2) X.env = pure none := by with_unfolding_all rfl)
    (hs : swapsWithSole [.Tuple [.Name x px, .Name y py] kt pt] (.Tuple [a, b] k2 pt2) pos.line X.env = pure false := by rfl) (h1 : starEach [a, b] X.env = (false, eval a X.env) :: starEach [b] X.env := by rfl) (h2 : starEach [b] X.env = (false, eval b X.env) :: starEach [] X.env := by rfl)
    (hs1 : (assignEach [.Name x px, .Name y py] X.env).map (·.2) = assign (.Name x px) X.env :: (assignEach [.Name y py] X.env).map (·.2) := by rfl) (hs2 : (assignEach [.Name y py] X.env).map (·.2) = assign (.Name y py) X.env :: (assignEach [] X.env).map (·.2) := by rfl)
    (hn : (assignEach [.Name x px, .Name y py] X.env).length = 2 := by rfl) (hst : (assignEach [.Name x px, .Name y py] X.env).findIdx? (·.1) = none := by rfl)
    (h3 : (assignEach [.Tuple [.Name x px, .Name y py] kt pt] X.env).map (·.2) = [assign (.Tuple [.Name x px, .Name y py] kt pt) X.env] := by rfl) :
    PS X (.Assign [.Tuple [.Name x px, .Name y py] kt pt] (.Tuple [a, b] k2 pt2) pos) (tS X.KW (parM i j fa fb)) :=
  PS.weak (ps_asg (pe_tup (pa_cons ha (pa_cons hb pa_nil h2) h1)) (pg_tup hc (pgs_cons (pg_name hN hi hx hfx) (pgs_cons (pg_name hN hj hy hfy) pgs_nil hs2) hs1) hn hst) hs hw h3) tS_parG
end
/-- a def that never ends well keeps any promise -/
theorem fn_none {P : Program} {w : World} {K : PySem.W.Frag} {mg : Str → Option Value} {base : Heap} {k np : Nat} {f : Addr} {fd : FuncData} {ps : List Str} (hl : ps.length = np) : FnG P w K mg base CX0 k f fd ps (spD ⟨K, w⟩ np fun _ _ => none) :=
  ⟨fun vs H Q E h => (spD_len h).trans hl.symm, fun A outer s H args us vs Q E _ _ _ _ _ h => by obtain ⟨_, _, _, _, _, _, _, _, _, q, _⟩ := h; cases q⟩
theorem Arity.no (np : Nat) : Arity (fun _ _ => none) np := fun _ _ _ h => by cases h
theorem hu_of {k : Nat} {A : Around} (r : Room k A) : A.units + 65 < cLine := by have := r.un; omega
theorem hu70_of {k : Nat} {A : Around} (r : Room k A) : A.units + 70 < cLine := by have := r.un; omega
theorem hu64_of {k : Nat} {A : Around} (r : Room k A) : A.units + 64 < cLine := by have := r.un; omega
end DV
end
section
set_option Elab.async false
set_option linter.all false
set_option maxRecDepth 100000
namespace DV
open PySem PySem.Spec PyProof.Rows L2
def rng1M (fs : M (List Rs)) : Src := bnd fs fun rs => if rs.length = 1 then rngS (ret rs) else noM
def rng2M (fs : M (List Rs)) : Src := bnd fs fun rs => if rs.length = 2 then rngS (ret rs) else noM
end DV
end
section
set_option Elab.async false
set_option linter.all false
set_option maxRecDepth 100000
namespace DV
open PySem PySem.Spec PyProof.Rows L2
/-! ### the words run: each applied to an environment -/
section
variable {α β : Type} (e : En)
@[simp] theorem ret_ap (a : α) : DV.ret a e = some (a, e) := rfl
@[simp] theorem bnd_ap (f : M α) (g : α → M β) : bnd f g e = match f e with
  | some (a, e') => g a e'
  | none => none := rfl
@[simp] theorem opt_some (a : α) : opt (some a) e = some (a, e) := rfl
@[simp] theorem noM_ap : (noM : M α) e = none := rfl
@[simp] theorem slM_ap (i : Nat) : slM i e = match e.ρ[i]? with
  | some (some (.fz d)) => some (.fz d, e)
  | some (some _) => some (.sl i, e)
  | _ => none := rfl
@[simp] theorem fzM_ap (d : D) : fzM d e = some (.fz d, e) := rfl
@[simp] theorem rdv_fz (d : D) : rdv e (.fz d) = some d := rfl
@[simp] theorem rdv_fr (d : D) : rdv e (.fr d) = some d := rfl
@[simp] theorem rdv_sl (i : Nat) : rdv e (.sl i) = match e.ρ[i]? with
  | some (some s) => rdS e s
  | _ => none := rfl
@[simp] theorem rdS_fz (d : D) : rdS e (.fz d) = some d := rfl
@[simp] theorem rdS_ow (d : D) : rdS e (.ow d) = some d := rfl
@[simp] theorem rdS_bo (d : D) : rdS e (.bo d) = some d := rfl
@[simp] theorem rdS_pt (k : Nat) : rdS e (.pt k) = match e.μ[k]? with
  | some (x, y) => some (.list [.int x, .int y])
  | none => none := rfl
@[simp] theorem rdM_ap (r : Rs) : rdM r e = (rdv e r).map fun d => (d, e) := rfl
@[simp] theorem rdAll_nil : rdAll e [] = some [] := rfl
@[simp] theorem rdAll_cons (r : Rs) (rs : List Rs) : rdAll e (r :: rs) = match rdv e r, rdAll e rs with
  | some d, some ds => some (d :: ds)
  | _, _ => none := rfl
@[simp] theorem als_fz (d : D) : als (.fz d) e = some (d, e) := rfl
@[simp] theorem als_fr (d : D) : als (.fr d) e = some (d, e) := rfl
@[simp] theorem als_sl (i : Nat) : als (.sl i) e = match e.ρ[i]? with
  | some (some (.fz d)) => some (d, e)
  | some (some (.ow d)) => some (d, { e with ρ := e.ρ.set i (some (.fz d)) })
  | _ => none := rfl
@[simp] theorem op1_ap (g : D → Option Rs) (fa : M Rs) : op1 g fa e = bnd fa (fun a => bnd (rdM a) fun x => opt (g x)) e := rfl
@[simp] theorem op2_ap (g : D → D → Option Rs) (fa fb : M Rs) : op2 g fa fb e = bnd fa (fun a => bnd fb fun b => bnd (rdM a) fun x => bnd (rdM b) fun y => opt (g x y)) e := rfl
def opNr (g : List D → Option Rs) (as : List Rs) : M Rs := fun e => (rdAll e as).bind fun ds => (g ds).map fun r => (r, e)
@[simp] theorem opN_ap (g : List D → Option Rs) (fs : M (List Rs)) : opN g fs e = bnd fs (opNr g) e := by
  unfold opN bnd opNr
  split
  · rename_i a e1 h
    show (match rdAll e1 a with
      | some ds => Option.map (fun r => (r, e1)) (g ds)
      | none => none) = _
    cases rdAll e1 a <;> rfl
  · rfl
@[simp] theorem opNr_ap (g : List D → Option Rs) (as : List Rs) : opNr g as e = (rdAll e as).bind fun ds => (g ds).map fun r => (r, e) := rfl
@[simp] theorem consM_ap (fa : M Rs) (fs : M (List Rs)) : consM fa fs e = bnd fa (fun a => bnd fs fun as => DV.ret (a :: as)) e := rfl
@[simp] theorem consF_ap (fa : M Rs) (fs : M (List D)) : consF fa fs e = bnd fa (fun a => bnd (als a) fun d => bnd fs fun ds => DV.ret (d :: ds)) e := rfl
@[simp] theorem tupM_ap (fs : M (List D)) : tupM fs e = bnd fs (fun ds => if ds.length ≤ 1000 then DV.ret (.fz (.tuple ds)) else noM) e := rfl
@[simp] theorem lstM_ap (fs : M (List D)) : lstM fs e = bnd fs (fun ds => if ds.length ≤ 1000 then DV.ret (.fr (.list ds)) else noM) e := rfl
@[simp] theorem seqM_ap (f g : M Fl) : seqM f g e = match f e with
  | some (.nx, e1) => g e1
  | o => o := rfl
@[simp] theorem iteM_ap (c : M Bool) (f g : M α) : iteM c f g e = bnd c (fun b => if b = true then f else g) e := rfl
@[simp] theorem drpM_ap (f : M Rs) : drpM f e = bnd f (fun _ => DV.ret .nx) e := rfl
@[simp] theorem asg_ap (i : Nat) (r : Rs) : asg i r e = match e.ρ[i]? with
  | none => none
  | some (some (.bo _)) => none
  | _ => asg1 i r e := rfl
@[simp] theorem asg1_fz (i : Nat) (d : D) : asg1 i (.fz d) e = some ((), e.st i (some (.fz d))) := rfl
@[simp] theorem asg1_fr (i : Nat) (d : D) : asg1 i (.fr d) e = some ((), e.st i (some (.ow d))) := rfl
@[simp] theorem asg1_sl (i j : Nat) : asg1 i (.sl j) e = match e.ρ[j]? with
  | some (some (.ow d)) => some ((), (e.st j none).st i (some (.ow d)))
  | _ => none := rfl
@[simp] theorem setM_ap (i : Nat) (f : M Rs) : setM i f e = bnd f (fun r => bnd (asg i r) fun _ => DV.ret .nx) e := rfl
@[simp] theorem rtn_fz (d : D) : rtn (.fz d) e = some (.rt (.fz d), e) := rfl
@[simp] theorem rtn_fr (d : D) : rtn (.fr d) e = some (.rt (.fr d), e) := rfl
@[simp] theorem rtn_sl (i : Nat) : rtn (.sl i) e = match e.ρ[i]? with
  | some (some (.ow d)) => some (.rt (.fr d), e.st i none)
  | _ => none := rfl
@[simp] theorem retM_ap (f : M Rs) : retM f e = bnd f rtn e := rfl
@[simp] theorem argS_fz (d : D) : argS e (.fz d) = some (.fz d) := rfl
@[simp] theorem argS_fr (d : D) : argS e (.fr d) = some (.fz d) := rfl
@[simp] theorem argS_sl (i : Nat) : argS e (.sl i) = match e.ρ[i]? with
  | some (some (.fz d)) => some (.fz d)
  | some (some (.ow d)) => some (.bo d)
  | some (some (.bo d)) => some (.bo d)
  | some (some (.pt k)) => some (.pt k)
  | _ => none := rfl
@[simp] theorem argAll_nil : argAll e [] = some [] := rfl
@[simp] theorem argAll_cons (r : Rs) (rs : List Rs) : argAll e (r :: rs) = match argS e r, argAll e rs with
  | some s, some ss => some (s :: ss)
  | _, _ => none := rfl
/-- what a call leaves -/
def cal (F : Fn) (ss : List Sl) (e : En) : Option (Rs × En) := match F ss e.μ with
  | some (.fz d, μ') => some (.fz d, { e with μ := μ' })
  | some (.fr d, μ') => some (.fr d, { e with μ := μ' })
  | _ => none
def calR (F : Fn) (rs : List Rs) : M Rs := fun e => (argAll e rs).bind fun ss => cal F ss e
@[simp] theorem calR_ap (F : Fn) (rs : List Rs) : calR F rs e = (argAll e rs).bind fun ss => cal F ss e := rfl
@[simp] theorem callM_ap (F : Fn) (fs : M (List Rs)) : callM F fs e = bnd fs (calR F) e := by
  unfold callM bnd calR cal
  split
  · rename_i a e1 h
    show (match argAll e1 a with
      | some ss => (match F ss e1.μ with
        | some (Rs.fz d, μ1) => some (Rs.fz d, ({ ρ := e1.ρ, μ := μ1 } : En))
        | some (Rs.fr d, μ1) => some (Rs.fr d, ({ ρ := e1.ρ, μ := μ1 } : En))
        | x => none)
      | none => none) = _
    cases argAll e1 a <;> rfl
  · rfl
theorem cal_fz {F : Fn} {ss : List Sl} {e : En} {d : D} {μ' : List (Int × Int)} (h : F ss e.μ = some (.fz d, μ')) : cal F ss e = some (.fz d, { e with μ := μ' }) := by unfold cal; rw [h]
theorem cal_fr {F : Fn} {ss : List Sl} {e : En} {d : D} {μ' : List (Int × Int)} (h : F ss e.μ = some (.fr d, μ')) : cal F ss e = some (.fr d, { e with μ := μ' }) := by unfold cal; rw [h]
@[simp] theorem callKM_ap (n m : Nat) (ix : List Nat) (F : Fn) (fs fk : M (List Rs)) : callKM n m ix F fs fk e = bnd (bnd fs fun rs => bnd fk fun ks => if rs.length = n ∧ ks.length = m then DV.ret (pick ix (rs ++ ks)) else noM) (calR F) e := callM_ap e F _
@[simp] theorem tst1_bool (b : Bool) : tst1 (.fz (.bool b)) e = some (b, e) := rfl
@[simp] theorem tstM_ap (f : M Rs) : tstM f e = bnd f tst1 e := rfl
@[simp] theorem andM_ap (a b : M Bool) : andM a b e = iteM a b (DV.ret false) e := rfl
@[simp] theorem orM_ap (a b : M Bool) : orM a b e = iteM a (DV.ret true) b e := rfl
@[simp] theorem notM_ap (a : M Bool) : notM a e = bnd a (fun b => DV.ret !b) e := rfl
@[simp] theorem blM_ap (a : M Bool) : blM a e = bnd a (fun b => DV.ret (.fz (.bool b))) e := rfl
@[simp] theorem andV_ap (f g : M Rs) : andV f g e = bnd (tstM f) (fun b => if b = true then g else DV.ret (.fz (.bool false))) e := rfl
@[simp] theorem orV_ap (f g : M Rs) : orV f g e = bnd (tstM f) (fun b => if b = true then DV.ret (.fz (.bool true)) else g) e := rfl
@[simp] theorem part1_int (i : Int) : part1 (.int i) e = some (some i, e) := rfl
@[simp] theorem partM_ap (f : M Rs) : partM f e = bnd f (fun r => bnd (rdM r) part1) e := rfl
@[simp] theorem tgN_ap (i : Nat) (d : D) : tgN i d e = asg i (.fz d) e := rfl
@[simp] theorem tgNil_ap : tgNil [] e = some ((), e) := rfl
@[simp] theorem tgCons_ap (t : D → M Unit) (ts : List D → M Unit) (d : D) (ds : List D) : tgCons t ts (d :: ds) e = bnd (t d) (fun _ => ts ds) e := rfl
@[simp] theorem tgT_ap (n : Nat) (ts : List D → M Unit) (ds : List D) : tgT n ts (.tuple ds) e = (if ds.length = n then ts ds else noM) e := rfl
@[simp] theorem asgM_ap (f : M Rs) (tg : D → M Unit) : asgM f tg e = bnd f (fun r => bnd (als r) fun d => bnd (tg d) fun _ => DV.ret .nx) e := rfl
@[simp] theorem rcvM_ap (T : String) (i : Nat) : rcvM T i e = match e.ρ[i]? with
  | some (some (.ow d)) => if isTy T d = true then some ((), e) else none
  | _ => none := rfl
@[simp] theorem chgM_ap (i : Nat) (g : D → List D → Option (D × D)) (ds : List D) : chgM i g ds e = match e.ρ[i]? with
  | some (some (.ow d)) => (g d ds).map fun p => (.fz p.1, e.st i (some (.ow p.2)))
  | _ => none := rfl
@[simp] theorem mtM_ap (T : String) (i : Nat) (g : D → List D → Option (D × D)) (fs : M (List D)) : mtM T i g fs e = bnd (rcvM T i) (fun _ => bnd fs (chgM i g)) e := rfl
@[simp] theorem fnOf_ap (np n : Nat) (b : M Fl) (ss : List Sl) (μ : List (Int × Int)) : fnOf np n b ss μ = if ss.length = np ∧ ss.all (fun s => !s.isOw) = true then fnOut μ.length (b ⟨ss.map some ++ List.replicate (n - np) none, μ⟩) else none := rfl
@[simp] theorem isOw_fz (d : D) : (Sl.fz d).isOw = false := rfl
@[simp] theorem isOw_bo (d : D) : (Sl.bo d).isOw = false := rfl
@[simp] theorem isOw_pt (k : Nat) : (Sl.pt k).isOw = false := rfl
@[simp] theorem fnOut_fz (m : Nat) (d : D) : fnOut m (some (.rt (.fz d), e)) = some (.fz d, e.μ.take m) := rfl
@[simp] theorem fnOut_fr (m : Nat) (d : D) : fnOut m (some (.rt (.fr d), e)) = some (.fr d, e.μ.take m) := rfl
@[simp] theorem fnOut_nx (m : Nat) : fnOut m (some (.nx, e)) = some (.fz .none, e.μ.take m) := rfl
@[simp] theorem isTy_list (ds : List D) : isTy "list" (.list ds) = true := rfl
@[simp] theorem isTy_dict (kvs : List (D × D)) : isTy "dict" (.dict kvs) = smpK kvs := rfl
@[simp] theorem smpK_nil : smpK [] = true := rfl
@[simp] theorem nstK_nil : nstK [] = true := rfl
@[simp] theorem boolR_eq (b : Bool) : boolR b = some (.fz (.bool b)) := rfl
@[simp] theorem intR_eq (b : Int) : intR b = some (.fz (.int b)) := rfl
@[simp] theorem strR_eq (b : Str) : strR b = some (.fz (.str b)) := rfl
@[simp] theorem g1_one (g : D → Option Rs) (d : D) : g1 g [d] = g d := rfl
@[simp] theorem g2_two (g : D → D → Option Rs) (d c : D) : g2 g [d, c] = g d c := rfl
end
end DV
end
section
set_option Elab.async false
set_option linter.all false
set_option maxRecDepth 100000
namespace DV
open PySem PySem.Spec PyProof.Rows L2
/-! ### loops run -/
section
/-- one turn of a comprehension -/
def lcW (own : List Nat) (t : D → M Unit) (c : M Bool) (el : M Rs) (d : D) : M (Option D) := fun e => (bnd (t d) (fun _ => bnd c fun b => if b = true then bnd el fun r => bnd (als r) fun y => DV.ret (some y) else DV.ret none) e).map fun p => (p.1, wipeE own p.2)
@[simp] theorem lcW_ap (own : List Nat) (t : D → M Unit) (c : M Bool) (el : M Rs) (d : D) (e : En) : lcW own t c el d e = (bnd (t d) (fun _ => bnd c fun b => if b = true then bnd el fun r => bnd (als r) fun y => DV.ret (some y) else DV.ret none) e).map fun p => (p.1, wipeE own p.2) := rfl
def lcR (own : List Nat) (t : D → M Unit) (c : M Bool) (el : M Rs) (p : List D × Option Nat) : M Rs := fun e =>
  if lockable p.2 e = true ∧ plainO own (lock1 p.2 e) = true then (lcL own t c el p.1 (wipeE own (lock1 p.2 e))).map fun q => (.fr (.list q.1), unlock1 p.2 { q.2 with ρ := backR (lock1 p.2 e).ρ q.2.ρ own }) else none
@[simp] theorem lcM_ap (own : List Nat) (src : Src) (t : D → M Unit) (c : M Bool) (el : M Rs) (e : En) : lcM own src t c el e = bnd src (lcR own t c el) e := by
  unfold lcM bnd lcR
  split
  · rename_i a e1 h
    show (if lockable a.2 e1 = true ∧ plainO own (lock1 a.2 e1) = true then (match lcL own t c el a.1 (wipeE own (lock1 a.2 e1)) with
      | some (xs, e') => some (Rs.fr (.list xs), unlock1 a.2 ({ e' with ρ := backR (lock1 a.2 e1).ρ e'.ρ own } : En))
      | none => none) else none) = _
    split
    · cases lcL own t c el a.1 (wipeE own (lock1 a.2 e1)) <;> rfl
    · rfl
  · rfl
variable {own : List Nat} {t : D → M Unit} {c : M Bool} {el : M Rs}
theorem lcL_cons {d : D} {ds : List D} {e : En} : lcL own t c el (d :: ds) e = (lcW own t c el d e).bind fun p => match p.1 with
    | some y => (lcL own t c el ds p.2).map fun q => (y :: q.1, q.2)
    | none => lcL own t c el ds p.2 := by
  show bnd (t d) _ e = _
  simp only [lcW_ap, bnd_ap]
  cases t d e with
  | none => rfl
  | some p =>
    obtain ⟨u, e1⟩ := p
    simp only
    cases c e1 with
    | none => rfl
    | some p =>
      obtain ⟨b, e2⟩ := p
      simp only
      cases b with
      | false => rfl
      | true =>
        simp only [if_true, bnd_ap]
        cases el e2 with
        | none => rfl
        | some p =>
          obtain ⟨r, e3⟩ := p
          simp only
          cases als r e3 with
          | none => rfl
          | some p =>
            obtain ⟨y, e4⟩ := p
            simp only [ret_ap, Option.map_some, Option.bind_some]
            cases lcL own t c el ds (wipeE own e4) <;> rfl
/-- nothing changes: the items are those that g gives -/
theorem lcL_pure (g : D → Option D) {e : En} : ∀ ds : List D, (∀ d ∈ ds, lcW own t c el d e = some (g d, e)) → lcL own t c el ds e = some (ds.filterMap g, e)
  | [], _ => rfl
  | d :: ds, h => by
    rw [lcL_cons, h d (List.mem_cons_self ..)]
    have ih := lcL_pure g ds fun x hx => h x (List.mem_cons_of_mem _ hx)
    simp only [Option.bind_some, List.filterMap_cons]
    cases g d with
    | none => exact ih
    | some y => simp only; rw [ih]; rfl
/-- the cells change -/
theorem lcL_rel {ρw : List (Option Sl)} (Ok : List (Int × Int) → Prop) (Pd : D → D → Prop) : ∀ (ds : List D) (μ : List (Int × Int)), Ok μ → (∀ d ∈ ds, ∀ μ, Ok μ → ∃ o μ', lcW own t c el d ⟨ρw, μ⟩ = some (some o, ⟨ρw, μ'⟩) ∧ Ok μ' ∧ Pd d o) →
    ∃ xs μ', lcL own t c el ds ⟨ρw, μ⟩ = some (xs, ⟨ρw, μ'⟩) ∧ Ok μ' ∧ All2 Pd ds xs
  | [], μ, ok, _ => ⟨[], μ, rfl, ok, .nil⟩
  | d :: ds, μ, ok, h => by
    obtain ⟨o, μ1, h1, ok1, p1⟩ := h d (List.mem_cons_self ..) μ ok
    obtain ⟨xs, μ2, h2, ok2, p2⟩ := lcL_rel Ok Pd ds μ1 ok1 fun x hx => h x (List.mem_cons_of_mem _ hx)
    exact ⟨o :: xs, μ2, by rw [lcL_cons, h1]; simp only [Option.bind_some]; rw [h2]; rfl, ok2, .cons p1 p2⟩
theorem backR_wipe {ρ : List (Option Sl)} : ∀ own : List Nat, backR ρ (wipeR ρ own) own = ρ := fun own => by
  refine List.ext_getElem? fun j => ?_
  by_cases h : j ∈ own
  · have key : ∀ (ρ' : List (Option Sl)) (vs : List Nat), ρ'.length = ρ.length → j ∈ vs → (backR ρ ρ' vs)[j]? = ρ[j]? := fun ρ' vs hl => by
      induction vs with
      | nil => intro h; cases h
      | cons v vs ih =>
        intro h
        unfold backR
        cases hv : ρ[v]? with
        | none =>
          simp only
          by_cases e : j = v
          · subst e
            rw [hv, List.getElem?_eq_none]
            rw [backR_len, hl]
            exact List.getElem?_eq_none_iff.mp hv
          · exact ih ((List.mem_cons.mp h).resolve_left e)
        | some s =>
          simp only
          by_cases e : j = v
          · subst e
            rw [List.getElem?_set_self (by rw [backR_len, hl]; exact (List.getElem?_eq_some_iff.mp hv).1), hv]
          · rw [List.getElem?_set_ne (Ne.symm e)]
            exact ih ((List.mem_cons.mp h).resolve_left e)
    exact key _ own (wipeR_len ρ own) h
  · rw [backR_out h, wipeR_out h]
theorem unlock_lock {lk : Option Nat} {ρ : List (Option Sl)} {μ μ' : List (Int × Int)} (h : lockable lk ⟨ρ, μ⟩ = true) : unlock1 lk ⟨(lock1 lk ⟨ρ, μ⟩).ρ, μ'⟩ = ⟨ρ, μ'⟩ := by
  rcases lock_cases h with rfl | ⟨i, d, rfl, hi, el⟩
  · rfl
  · rw [el]
    have hl := (List.getElem?_eq_some_iff.mp hi).1
    have eu : unlock1 (some i) (⟨(ρ.set i (some (.bo d))), μ'⟩ : En) = (⟨ρ.set i (some (.bo d)), μ'⟩ : En).st i (some (.ow d)) := by
      unfold unlock1
      simp only
      rw [List.getElem?_set_self hl]
    refine eu.trans ?_
    show (⟨(ρ.set i (some (.bo d))).set i (some (.ow d)), μ'⟩ : En) = _
    rw [List.set_set]
    congr 1
    refine List.ext_getElem? fun j => ?_
    by_cases e : j = i
    · subst e; rw [List.getElem?_set_self hl]; exact hi.symm
    · rw [List.getElem?_set_ne (Ne.symm e)]
theorem lock_mu {lk : Option Nat} {e : En} : (lock1 lk e).μ = e.μ := by
  unfold lock1
  split
  · rfl
  · split <;> rfl
theorem lcR_pure (g : D → Option D) {ds : List D} {lk : Option Nat} {ρ : List (Option Sl)} {μ : List (Int × Int)} (hl : lockable lk ⟨ρ, μ⟩ = true) (hp : plainO own (lock1 lk ⟨ρ, μ⟩) = true)
    (hb : ∀ d ∈ ds, lcW own t c el d (wipeE own (lock1 lk ⟨ρ, μ⟩)) = some (g d, wipeE own (lock1 lk ⟨ρ, μ⟩))) : lcR own t c el (ds, lk) ⟨ρ, μ⟩ = some (.fr (.list (ds.filterMap g)), ⟨ρ, μ⟩) := by
  unfold lcR
  rw [if_pos ⟨hl, hp⟩, lcL_pure g ds hb]
  simp only [Option.map_some]
  rw [backR_wipe]
  have e : (lock1 lk ⟨ρ, μ⟩).μ = μ := lock_mu
  have e2 := unlock_lock (μ' := (lock1 lk ⟨ρ, μ⟩).μ) hl
  rw [e] at e2
  refine congrArg some (Prod.ext rfl ?_)
  show unlock1 lk ⟨(lock1 lk ⟨ρ, μ⟩).ρ, (lock1 lk ⟨ρ, μ⟩).μ⟩ = _
  rw [e]
  exact e2
theorem lcR_map (f : D → D) {ds : List D} {lk : Option Nat} {ρ : List (Option Sl)} {μ : List (Int × Int)} (hl : lockable lk ⟨ρ, μ⟩ = true) (hp : plainO own (lock1 lk ⟨ρ, μ⟩) = true)
    (hb : ∀ d ∈ ds, lcW own t c el d (wipeE own (lock1 lk ⟨ρ, μ⟩)) = some (some (f d), wipeE own (lock1 lk ⟨ρ, μ⟩))) : lcR own t c el (ds, lk) ⟨ρ, μ⟩ = some (.fr (.list (ds.map f)), ⟨ρ, μ⟩) := by
  rw [lcR_pure (fun d => some (f d)) hl hp hb]
  have : ds.filterMap (fun d => some (f d)) = ds.map f := by
    induction ds with
    | nil => rfl
    | cons d ds ih => rw [List.filterMap_cons, List.map_cons, ih fun x hx => hb x (List.mem_cons_of_mem _ hx)]
  rw [this]
theorem lcR_rel (Ok : List (Int × Int) → Prop) (Pd : D → D → Prop) {ds : List D} {ρ : List (Option Sl)} {μ : List (Int × Int)} (hp : plainO own ⟨ρ, μ⟩ = true) (ok : Ok μ)
    (hb : ∀ d ∈ ds, ∀ μ, Ok μ → ∃ o μ', lcW own t c el d ⟨wipeR ρ own, μ⟩ = some (some o, ⟨wipeR ρ own, μ'⟩) ∧ Ok μ' ∧ Pd d o) : ∃ xs μ', lcR own t c el (ds, none) ⟨ρ, μ⟩ = some (.fr (.list xs), ⟨ρ, μ'⟩) ∧ Ok μ' ∧ All2 Pd ds xs := by
  obtain ⟨xs, μ', h1, ok1, p1⟩ := lcL_rel Ok Pd ds μ ok hb
  refine ⟨xs, μ', ?_, ok1, p1⟩
  unfold lcR
  rw [if_pos ⟨rfl, hp⟩]
  show (lcL own t c el ds ⟨wipeR ρ own, μ⟩).map _ = _
  rw [h1]
  simp only [Option.map_some]
  show some (Rs.fr (.list xs), (⟨backR ρ (wipeR ρ own) own, μ'⟩ : En)) = _
  rw [backR_wipe]
/-! for -/
def forR (t : D → M Unit) (b : M Fl) (p : List D × Option Nat) : M Fl := fun e => if lockable p.2 e = true then (forL t b p.1 (lock1 p.2 e)).map fun q => (q.1, unlock1 p.2 q.2) else none
@[simp] theorem forS_ap (src : Src) (t : D → M Unit) (b : M Fl) (e : En) : forS src t b e = bnd src (forR t b) e := by
  unfold forS bnd forR
  split
  · rename_i a e1 h
    show (if lockable a.2 e1 = true then (match forL t b a.1 (lock1 a.2 e1) with
      | some (fl, e') => some (fl, unlock1 a.2 e')
      | none => none) else none) = _
    split
    · cases forL t b a.1 (lock1 a.2 e1) <;> rfl
    · rfl
  · rfl
theorem forR_ap (t : D → M Unit) (b : M Fl) (p : List D × Option Nat) (e : En) : forR t b p e = if lockable p.2 e = true then (forL t b p.1 (lock1 p.2 e)).map fun q => (q.1, unlock1 p.2 q.2) else none := rfl
theorem forR_none {b : M Fl} {ds : List D} {e : En} : forR t b (ds, none) e = forL t b ds e := by
  show (if true = true then (forL t b ds e).map (fun q => (q.1, q.2)) else none) = _
  rw [if_pos rfl]
  cases forL t b ds e <;> rfl
theorem forL_nil {b : M Fl} {e : En} : forL t b [] e = some (.nx, e) := rfl
/-- a turn that goes on -/
theorem forL_next {b : M Fl} {d : D} {ds : List D} {e e2 : En} (h : bnd (t d) (fun _ => b) e = some (.nx, e2)) : forL t b (d :: ds) e = forL t b ds e2 := by
  obtain ⟨u, e1, h1, h2⟩ := bnd_eq h
  show (match t d e with
    | some (_, e1) => match b e1 with
      | some (.nx, e2) => forL t b ds e2
      | some (.ct, e2) => forL t b ds e2
      | some (.bk, e2) => some (.nx, e2)
      | some (.rt r, e2) => some (.rt r, e2)
      | none => none
    | none => none) = _
  rw [h1]
  simp only
  rw [h2]
/-- an invariant by what is left -/
theorem forL_inv {b : M Fl} (I : List D → En → Prop) : ∀ (ds : List D) (e : En), I ds e → (∀ d ds e, I (d :: ds) e → ∃ e2, bnd (t d) (fun _ => b) e = some (.nx, e2) ∧ I ds e2) → ∃ e2, forL t b ds e = some (.nx, e2) ∧ I [] e2
  | [], e, h, _ => ⟨e, rfl, h⟩
  | d :: ds, e, h, k => by
    obtain ⟨e1, h1, h2⟩ := k d ds e h
    obtain ⟨e2, h3, h4⟩ := forL_inv I ds e1 h2 k
    exact ⟨e2, by rw [forL_next h1]; exact h3, h4⟩
end
@[simp] theorem st_mk (ρ : List (Option Sl)) (μ : List (Int × Int)) (i : Nat) (s : Option Sl) : (⟨ρ, μ⟩ : En).st i s = ⟨ρ.set i s, μ⟩ := rfl
section
variable (e : En)
@[simp] theorem seqS1_fzl (ds : List D) : seqS1 (.fz (.list ds)) e = some ((ds, none), e) := rfl
@[simp] theorem seqS1_fzt (ds : List D) : seqS1 (.fz (.tuple ds)) e = some ((ds, none), e) := rfl
@[simp] theorem seqS1_str (x : Str) : seqS1 (.fz (.str x)) e = if x.length ≤ 1000 then some ((signs x, none), e) else none := rfl
@[simp] theorem seqS1_fr (ds : List D) : seqS1 (.fr (.list ds)) e = some ((ds, none), e) := rfl
@[simp] theorem seqS1_sl (i : Nat) : seqS1 (.sl i) e = match e.ρ[i]? with
    | some (some (.ow (.list ds))) => some ((ds, some i), e)
    | some (some (.bo (.list ds))) => some ((ds, none), e)
    | _ => none := rfl
@[simp] theorem seqS_ap (f : M Rs) : seqS f e = bnd f seqS1 e := rfl
theorem rng1_ap (fs : M (List Rs)) (e1 : En) (rs : List Rs) (j : Int) (h : fs e = some (rs, e1)) (hl : rs.length = 1) (hj : rdAll e1 rs = some [.int j]) (h0 : 0 ≤ j) (h1 : j ≤ 1000000) : rng1M fs e = some ((rngL 0 j.toNat, none), e1) := by
  unfold rng1M rngS
  simp only [bnd_ap, h, hl, if_true, ret_ap, hj]
  rw [if_pos ⟨by omega, h1⟩]
@[simp] theorem noSl_fz (d : D) : noSl (.fz d) e = some ((), e) := rfl
@[simp] theorem noSl_fr (d : D) : noSl (.fr d) e = some ((), e) := rfl
@[simp] theorem parM_ap (i j : Nat) (fa fb : M Rs) : parM i j fa fb e = bnd fa (fun a => bnd (noSl a) fun _ => bnd fb fun b => bnd (asgF i a) fun _ => bnd (asgF j b) fun _ => DV.ret .nx) e := rfl
@[simp] theorem asgF_ap (i : Nat) (r : Rs) : asgF i r e = match e.ρ[i]? with
  | none => none
  | some (some (.bo _)) => none
  | _ => match r with
    | .fz d => some ((), e.st i (some (.fz d)))
    | .fr d => some ((), e.st i (some (.ow d)))
    | .sl _ => none := rfl
@[simp] theorem slcM_ap (fa : M Rs) (fl fh : M (Option Int)) : slcM fa fl fh e = bnd fa (fun a => bnd fl fun lo => bnd fh fun hi => bnd (rdM a) fun x => opt (slG x lo hi)) e := rfl
@[simp] theorem extM_fr (i : Nat) (f : M Rs) : extM i f e = bnd (rcvM "list" i) (fun _ => bnd f fun r => fun e => match r, e.ρ[i]? with
  | .fr (.list ys), some (some (.ow (.list xs))) => if xs.length + ys.length ≤ 100000 then some (.fz .none, e.st i (some (.ow (.list (xs ++ ys))))) else none
  | _, _ => none) e := rfl
@[simp] theorem putM_ap (i : Nat) (fk fv : M Rs) : putM i fk fv e = bnd fv (fun r => bnd (als r) fun v => bnd (owdM i) fun _ => bnd fk fun rk => bnd (rdM rk) fun kd => fun e => match e.ρ[i]? with
  | some (some (.ow (.dict kvs))) => match dKey kd with
    | some k => if kvs.length < 100000 ∧ smpK kvs = true then some (.nx, e.st i (some (.ow (.dict (putD k v kvs))))) else none
    | none => match tkOf kd with
      | some n => if kvs.length < 100000 ∧ nstK kvs = true then some (.nx, e.st i (some (.ow (.dict (putT n kd v kvs))))) else none
      | none => none
  | _ => none) e := rfl
@[simp] theorem owdM_ap (i : Nat) : owdM i e = match e.ρ[i]? with
  | some (some (.ow (.dict _))) => some ((), e)
  | _ => none := rfl
@[simp] theorem par3M_ap (i j l : Nat) (fs : M (List D)) : par3M i j l fs e = bnd fs (st3 i j l) e := rfl
@[simp] theorem st3_ap (i j l : Nat) (a b c : D) : st3 i j l [a, b, c] e = bnd (asg i (.fz a)) (fun _ => bnd (asg j (.fz b)) fun _ => bnd (asg l (.fz c)) fun _ => DV.ret .nx) e := rfl
@[simp] theorem repM_ap (fa fb : M Rs) : repM fa fb e = bnd fa (fun a => bnd fb fun b => bnd (rdM b) fun y => match a, y with
  | .fr (.list xs), .int k => if xs.length * k.toNat ≤ 100000 ∧ -1000000 ≤ k ∧ k ≤ 1000000 then DV.ret (.fr (.list (repD k.toNat xs))) else noM
  | _, _ => noM) e := rfl
@[simp] theorem potM_ap (i : Nat) (f : M Rs) : potM i f e = bnd f (fun r => bnd (asgP i r) fun _ => DV.ret .nx) e := rfl
@[simp] theorem asgP_ap (i : Nat) (x y : Int) : asgP i (.fr (.list [.int x, .int y])) e = if i < e.ρ.length then match e.ρ[i]? with
      | some (some (.bo _)) => none
      | _ => some ((), { ρ := e.ρ.set i (some (.pt e.μ.length)), μ := e.μ ++ [(x, y)] })
      else none := rfl
@[simp] theorem celM_ap (i c : Nat) (v : Int) : celM i c v e = match e.ρ[i]? with
  | some (some (.pt k)) => match e.μ[k]? with
    | some (x, y) => if c = 0 then some ((), { e with μ := e.μ.set k (v, y) }) else if c = 1 then some ((), { e with μ := e.μ.set k (x, v) }) else none
    | none => none
  | _ => none := rfl
def stcR (i c : Nat) (d : D) : M Fl := match d with
  | .int v => bnd (celM i c v) fun _ => DV.ret .nx
  | _ => noM
@[simp] theorem stcM_ap (i c : Nat) (f : M Rs) : stcM i c f e = bnd f (fun r => bnd (rdM r) (stcR i c)) e := rfl
@[simp] theorem stcR_int (i c : Nat) (v : Int) : stcR i c (.int v) e = bnd (celM i c v) (fun _ => DV.ret .nx) e := rfl
def drwR (i j : Nat) (d : D) : M Fl := match d with
  | .tuple [.int a, .int b] => bnd (celM i 0 a) fun _ => bnd (asg j (.fz (.int b))) fun _ => DV.ret .nx
  | _ => noM
@[simp] theorem drwM_ap (i j : Nat) (f : M Rs) : drwM i j f e = bnd f (fun r => bnd (als r) (drwR i j)) e := rfl
@[simp] theorem drwR_two (i j : Nat) (a b : Int) : drwR i j (.tuple [.int a, .int b]) e = bnd (celM i 0 a) (fun _ => bnd (asg j (.fz (.int b))) fun _ => DV.ret .nx) e := rfl
@[simp] theorem chnM_ap (g g' : D → D → Option Rs) (fa fb fc : M Rs) : chnM g g' fa fb fc e = bnd fa (fun x => bnd fb fun y => bnd (rdM x) fun dx => bnd (rdM y) fun dy => bnd (opt (g dx dy)) fun r => bnd (tst1 r) fun t =>
  if t = true then bnd fc fun z => bnd (rdM y) fun dy => bnd (rdM z) fun dz => opt (g' dy dz) else DV.ret (.fz (.bool false))) e := rfl
end
end DV
end
section
set_option Elab.async false
set_option linter.all false
set_option maxRecDepth 100000
set_option maxHeartbeats 4000000
namespace DV
open PySem PySem.Spec PyProof.Rows L2 PpSet
/-! ### {elt for ..} of keys, and how many they are -/
section
variable {P : Program} {w : World} {A : Around} {E : Value → Shared → Prop} {s : Shared} {a : Addr} {S : List L2.Key} {n : Nat}
/-- one key more, by the method -/
theorem setM_put {k : L2.Key} {u : Value} {Q : Value → Shared → Prop} (R : SetM w s.heap a S n) (rk : RelV (kV k) u) (room : n + 1 < scanBound)
    (q : ∀ h', Heap.SameBut a s.heap h' → SetM w h' a (S ++ [k]) (n + 1) → Q .none { s with heap := h', toks := s.toks + 1 }) : wpAny (model P w) A (call (.builtin "set.add") [.ref a, u]) Q E s := by
  have ty : s.TypeIs (.ref a) "set" := by
    obtain ⟨o, _, _, _, ho, hx, _⟩ := R
    exact ⟨o, ho, hx.1⟩
  refine wpAny_call_entry F.slot_set_add ty F.entry_set_add ?_ (F.args_set_add_2 _ _)
  unfold Builtin.«set.add» Builtin.Frozenset.oneOther
  simp only [List.isEmpty_nil, bind_assoc]
  unfold Builtin.Frozenset.addrOf setAdd
  refine wpAny_bind (wpAny_pure (wpAny_bind (wpAny_pure (wpAny_bind (wpAny_holding (wpAny_bind ((mixKind P w).pyHash (kV_is rk) ?_)))))))
  exact setM_add (s := { s with toks := s.toks + 1 }) R rk room fun h' b sb R' => wpAny_pure ⟨_, rfl, q h' sb R'⟩
theorem setMO_put {X : Cx} {pins : List (Addr × Obj)} {σ : L2.St} {H : Hp} {s : Shared} {E : Value → Shared → Prop} {D : Addr} {S : List L2.Key} {n : Nat} {k : L2.Key} {u : Value} {Q : Value → Shared → Prop} (I : Inv X pins σ H s) (hD : H D = some (SetMO X.w D S n)) (rk : RelV (kV k) u) (room : n + 1 < scanBound)
    (q : ∀ s', Inv X pins σ (upd H D (SetMO X.w D (S ++ [k]) (n + 1))) s' → Q .none s') : wpAny (model X.prog X.w) X.A (call (.builtin "set.add") [.ref D, u]) Q E s := by
  have R : SetM X.w s.heap D S n := (I.hok D _ hD).1
  refine setM_put R rk room fun h' sb R' => q _ ?_
  have ex : ∃ o, h'.get? D = some o := by
    obtain ⟨o, _, _, _, ho, _⟩ := R'
    exact ⟨o, ho⟩
  exact I.write (e := D) (t' := s.toks + 1) (by rw [hD]; trivial) (.inl rfl) (fun b u hb hu => (sb.2 b hb).trans hu) ex (setMO_new R')
end
section
variable {X : Cx}
def tSk (w : World) (wi : TI) (g : TG) (tt : TT) (te : TE) (vs : List Nat) : TE := fun σ H Q => wi σ H fun J H1 => ∀ D, H1 D = none →
  ∃ W : Nat → Nat → Hp → Prop, (∃ m, W 0 m (upd H1 D (SetMO w D [] 0))) ∧ ∀ i m H, W i m H → (J.stop i H ∧ Q (.ref D) H) ∨ (J.go i H ∧
    ∃ Nx : Hp → Prop, (∀ H', Nx H' → ∃ m', m' < m ∧ W (i + 1) m' H') ∧ ∀ x H', J.yld i H x H' → g x (L2.wipe σ vs) H' fun σ2 H2 => L2.wipe σ2 vs = L2.wipe σ vs ∧ tt σ2 H2 fun b H3 =>
      if b = true then te σ2 H3 fun y H4 => ∃ (k : L2.Key) (S : List L2.Key) (n : Nat), y = kV k ∧ H4 D = some (SetMO w D S n) ∧ n + 1 < scanBound ∧ Nx (upd H4 D (SetMO w D (S ++ [k]) (n + 1))) else Nx H3)
theorem pe_sk {elt tg iter : Expr} {ifs : List Expr} {scope : Scope} {own : List (PySem.Str × Nat)} {pos : Pos} {wi : TI} {g : TG} {tt : TT} {te : TE} (calm : X.calm = true) (nd : X.N.Nodup) (pi : PI X tg iter wi) (bk : BlkOk X.N X.env.scope scope own)
    (pg : ∀ (s : Shared) (H : Hp) (C : Addr) (cl : List (PySem.Str × Addr)) (fp : List Addr), PG (X.blk s H scope (compEnvC scope cl C X.env) fp) tg g)
    (pt : ∀ (s : Shared) (H : Hp) (C : Addr) (cl : List (PySem.Str × Addr)) (fp : List Addr), PTs (X.blk s H scope (compEnvC scope cl C X.env) fp) ifs tt)
    (pe : ∀ (s : Shared) (H : Hp) (C : Addr) (cl : List (PySem.Str × Addr)) (fp : List Addr), PE (X.blk s H scope (compEnvC scope cl C X.env) fp) elt te) (fold : ∀ x, foldedSetIterable iter X.env x = pure x := by intro _; rfl) :
    PE X (.SetComp elt [⟨tg, iter, ifs, 0⟩] scope pos) (tSk X.w wi g tt te (own.map (·.2))) := by
  refine ⟨fun pins s σ H Q I h => ?_⟩
  rw [eval_SetComp]
  -- names from outside stand
  have outer : ∀ y ∈ scope.names, y.2 = .free → ∃ c, X.env.cells.lookup y.1 = some c := by
    intro y hy e
    exact (bk.free y hy e).elim (fun k => I.ok.has _ (.inl k)) fun k => I.ok.has _ (.inr k)
  refine wpAny_comprehension_free rfl fold (closure_ok outer) bk.kind (fun y hy e => by rw [bk.uniq y hy, e]) ?_
  refine thn (pi.run pins s σ H _ I h) fun xv sA hA => thn hA fun itv sB hB => ?_
  obtain ⟨it, fp, tn, J, HB, rfl, IB, TB, stB, fB, qB⟩ := hB
  refine newSet_ok (newEnv_comp ?_)
  -- the set
  obtain ⟨D, hD⟩ : ∃ D, D = sB.heap.objs.size := ⟨_, rfl⟩
  rw [← hD]
  have freeD : HB D = none := IB.hok.fresh (Nat.le_of_eq hD.symm)
  obtain ⟨W, ⟨m0, w0⟩, step⟩ := qB D freeD
  obtain ⟨sC, hsC⟩ : ∃ sC : Shared, sC = { sB with heap := sB.heap.push (newS X.w) } := ⟨_, rfl⟩
  obtain ⟨HC, hHC⟩ : ∃ HC, HC = upd HB D (SetMO X.w D [] 0) := ⟨_, rfl⟩
  rw [← hHC] at w0
  have heapC : sC.heap = sB.heap.push (newS X.w) := by rw [hsC]
  have IC : Inv X pins σ HC sC := by
    rw [hsC, hHC]
    refine IB.laid (t' := sB.toks) (fun b o e => Heap.get?_push_of_some _ e) (Nat.le_of_eq hD.symm) ?_
    rw [hD]
    exact setMO_new (setM_new (Heap.get?_push_size _ rfl))
  have small : ∀ b ∈ fp, b < sB.heap.objs.size := fun b hb => let ⟨_, e, _⟩ := TB.obj _ _ stB b hb; Heap.lt_size e
  have fC : ∀ b ∈ fp, FpOk X pins HC b ∧ b < sC.heap.objs.size := by
    intro b hb
    have lt := small b hb
    refine ⟨⟨?_, (fB b hb).2⟩, ?_⟩
    · rw [hHC, upd_ne (by rw [hD]; exact Nat.ne_of_lt lt)]; exact (fB b hb).1
    · rw [heapC, Heap.size_push]; exact Nat.lt_succ_of_lt lt
  have stC : tn 0 sC.heap := TB.keep _ _ _ stB fun b _ o e => by rw [heapC]; exact Heap.get?_push_of_some _ e
  have Ib := block_start IC bk nd fC
  obtain ⟨cl, hcl⟩ : ∃ cl, cl = cellsFrom (sC.heap.objs.size + 1) scope.names (cloFrom X.env.cells scope.names []) := ⟨_, rfl⟩
  have pg := pg sC HC sC.heap.objs.size cl fp
  have pt := pt sC HC sC.heap.objs.size cl fp
  have pe := pe sC HC sC.heap.objs.size cl fp
  rw [← hcl] at Ib
  have goal : codeAny (model X.prog X.w) X.A (.compStart (.SetComp elt [⟨tg, iter, ifs, 0⟩] scope pos) 0 (.ref it) (.ref D) (compEnvC scope cl sC.heap.objs.size X.env)) (compPost (model X.prog X.w) X.A X.xe none (fun u s' => ∃ x H', Inv X pins σ H' s' ∧ RelV x u ∧ Q x H') (.ref D) sC.heap.objs.size) { sC with heap := pushCells (sC.heap.push { cls := .type "dict", data := .dict #[] }) scope.names } := by
    have nfp : ∀ b ∈ fp, HC b = none := fun b hb => (fC b hb).1.1
    obtain ⟨ce, hce⟩ : ∃ ce, ce = compEnvC scope cl sC.heap.objs.size X.env := ⟨_, rfl⟩
    rw [← hce] at Ib pg pt pe ⊢
    have loc : ce.locals = sC.heap.objs.size := by rw [hce]; rfl
    obtain ⟨sD, hsD⟩ : ∃ sD : Shared, sD = { sC with heap := pushCells (sC.heap.push { cls := .type "dict", data := .dict #[] }) scope.names } := ⟨_, rfl⟩
    rw [← hsD] at Ib ⊢
    have stD : tn 0 sD.heap := by
      refine TB.keep _ _ _ stC fun b _ o e => ?_
      rw [hsD]
      exact pushCells_keeps _ _ _ _ (Heap.get?_push_of_some _ e)
    have foot : ∀ {σ' : L2.St} {H' : Hp} {s' : Shared}, Inv (X.blk sC HC scope ce fp) [] σ' H' s' → (∀ b ∈ fp, H' b = none) → ∀ b ∈ fp, FpOk (X.blk sC HC scope ce fp) [] H' b := by
      intro σ' H' s' I' free b hb
      exact ⟨free b hb, (I'.ok.exf b hb).1, I'.ok.exfs b hb, .inl hb, fun x c e => (I'.ok.exf b hb).2 x c e, fun p hp => absurd (show p ∈ ([] : List (Addr × Obj)) ++ [] from hp) (by simp)⟩
    have run : codeAny (model X.prog X.w) X.A (.compLoop (.SetComp elt [⟨tg, iter, ifs, 0⟩] scope pos) 0 (.ref it) (.ref D) ce) (compPost (model X.prog X.w) X.A X.xe none (EP X pins σ Q) (.ref D) sC.heap.objs.size) sD := by
      refine compLoopS_any (fun n s' => ∃ i H', Inv (X.blk sC HC scope ce fp) [] (L2.wipe σ (own.map (·.2))) H' s' ∧ tn i s'.heap ∧ (∀ b ∈ fp, H' b = none) ∧ W i n H') ?_ m0 ⟨0, HC, Ib, stD, nfp, w0⟩
      rintro n s5 ⟨i, H5, I5, st5, n5, w5⟩
      rcases step i n H5 w5 with ⟨stop, fin⟩ | ⟨go, Nx, dec, next⟩
      · refine thnF (TB.done (X.blk sC HC scope ce fp) rfl rfl rfl calm i [] s5 _ H5 (fun _ _ => False) I5 (foot I5 n5) st5 stop) fun r s6 ⟨hr, I6⟩ => ?_
        subst hr
        have I7 : Inv X pins σ H5 s6 := IC.call' (ch := fp) I6.os I6.base I6.hok I6.bare fun b hb => let z := (fC b hb).1.2.2; ⟨z.2.1, (fC b hb).1.2.1, z.2.2.1, z.2.2.2⟩
        have nL : H5 sC.heap.objs.size = none := by rw [← loc]; exact I6.free
        obtain ⟨m, hn, _⟩ := I6.loc
        have hn : s6.heap.Ns sC.heap.objs.size m := by rw [← loc]; exact hn
        obtain ⟨f0, f1, f2, f3, f4, f5⟩ := IC.fpOk (Nat.le_refl _) nL
        exact ⟨m, hn, fun h'' sb => ⟨.ref D, H5, I7.turned (t' := s6.toks) (fun b o hb e => (sb.2 b hb).trans e) f0 f1 f3 f4 f5, rfl, fin⟩⟩
      · refine thnF (TB.item (X.blk sC HC scope ce fp) rfl rfl rfl calm i [] s5 _ H5 (fun _ _ => False) I5 (foot I5 n5) st5 go) fun r s6 ⟨u, hr, h6⟩ => ?_
        subst hr
        refine thnF h6 fun _ s7 ⟨x, H7, I7, r7, y7, st7, n7⟩ => ?_
        refine thnF (pg.run _ s7 _ H7 x u _ (I7.pinned (foot I7 n7) (TB.obj _ _ st7)) r7 (next x H7 y7)) fun _ s8 ⟨σ8, H8, I8, hw8, q8⟩ => ?_
        refine thnF (pt.run _ s8 σ8 H8 _ I8 q8) fun b s9 ⟨H9, I9, q9⟩ => ?_
        have over : ∀ {s' : Shared} {H' : Hp}, Inv (X.blk sC HC scope ce fp) ([] ++ pinsAt fp s7.heap) σ8 H' s' → Nx H' → ∃ m, m < n ∧ ∃ i H', Inv (X.blk sC HC scope ce fp) [] (L2.wipe σ (own.map (·.2))) H' s' ∧ tn i s'.heap ∧ (∀ b ∈ fp, H' b = none) ∧ W i m H' := by
          intro s' H' I' nx
          obtain ⟨m', hm, w'⟩ := dec H' nx
          have held : ∀ b ∈ fp, ∀ o, s7.heap.get? b = some o → s'.heap.get? b = some o ∧ H' b = none := fun b hb o e =>
            have z := I'.pin (b, o) (List.mem_append_right _ (List.mem_append_right _ (mem_pinsAt hb e)))
            ⟨z.1, z.2.1⟩
          have len8 : (L2.wipe σ (own.map (·.2))).length = σ8.length := by rw [← hw8, L2.wipe_length]
          refine ⟨m', hm, i + 1, H', (I'.unpinned (pins := [])).weak len8 (fun j v e => ?_), TB.keep _ _ _ st7 fun b hb o e => (held b hb o e).1, fun b hb => ?_, w'⟩
          · rw [← hw8] at e; exact (wipe_some e).1
          · obtain ⟨o, e, _⟩ := TB.obj _ _ st7 b hb
            exact (held b hb o e).2
        cases b with
        | false =>
          simp only [Bool.false_eq_true, if_false] at q9 ⊢
          exact over I9 q9
        | true =>
          simp only [if_true] at q9 ⊢
          refine thnF (pe.run _ s9 σ8 H9 _ I9 q9) fun z s10 ⟨yv, H10, I10, r10, k, S0, n0, ey, hD10, room, nx⟩ => ?_
          subst ey
          exact setMO_put (X := X.blk sC HC scope ce fp) I10 hD10 r10 room fun s11 I11 => over I11 nx
    exact codeAny_compStart_set run (TB.self X.A 0 _ _ _ stD run)
  rw [hcl, hsC] at goal
  exact goal
end
end DV
end
section
set_option Elab.async false
set_option linter.all false
set_option maxRecDepth 100000
set_option maxHeartbeats 4000000
namespace DV
open PySem PySem.Spec PyProof.Rows L2
def kyD : D → Option L2.Key
  | .int i => some (.inl i)
  | .str x => some (.inr x)
  | _ => none
def kysL : List D → Option (List L2.Key)
  | [] => some []
  | d :: ds => (kyD d).bind fun k => (kysL ds).map (k :: ·)
def nubK : List L2.Key → List L2.Key
  | [] => []
  | k :: ks => if ks.any (fun z => decide (z = k)) = true then nubK ks else k :: nubK ks
def cntG (r : Rs) : Option Rs := match r with
  | .fr (.list ds) => (kysL ds).bind fun ks => if ks.length + 1 < scanBound then some (.fz (.int (nubK ks).length)) else none
  | _ => none
def rLenM (w : World) : List V → Hp → VK → Prop := fun vs H Q => ∃ (a : Addr) (ks : List L2.Key), vs = [.ref a] ∧ H a = some (SetMO w a ks ks.length) ∧ ks.length + 1 < scanBound ∧ Q (.int (nubK ks).length) H
def lscM (own : List Nat) (src : Src) (t : D → M Unit) (c : M Bool) (el : M Rs) : M Rs := bnd (lcM own src t c el) fun r => opt (cntG r)
theorem kysL_mid {a : List D} {y : D} {b : List D} {ka ks : List L2.Key} (h : kysL a = some ka) (k : kysL (a ++ y :: b) = some ks) : ∃ ky kr, kyD y = some ky ∧ ks = ka ++ ky :: kr := by
  induction a generalizing ka ks with
  | nil =>
    cases h
    obtain ⟨ky, h1, h2⟩ := Option.bind_eq_some_iff.mp (show (kyD y).bind _ = _ from k)
    obtain ⟨kr, h3, h4⟩ := Option.map_eq_some_iff.mp h2
    exact ⟨ky, kr, h1, h4.symm⟩
  | cons x a ih =>
    obtain ⟨kx, h1, h2⟩ := Option.bind_eq_some_iff.mp (show (kyD x).bind _ = _ from h)
    obtain ⟨kr, h3, rfl⟩ := Option.map_eq_some_iff.mp h2
    obtain ⟨kx2, g1, g2⟩ := Option.bind_eq_some_iff.mp (show (kyD x).bind _ = _ from k)
    obtain ⟨kr2, g3, rfl⟩ := Option.map_eq_some_iff.mp g2
    rw [h1] at g1; cases g1
    obtain ⟨ky, kr3, i1, rfl⟩ := ih h3 g3
    exact ⟨ky, kr3, i1, rfl⟩
theorem kysL_one {a : List D} {y : D} {ka : List L2.Key} {ky : L2.Key} (h : kysL a = some ka) (k : kyD y = some ky) : kysL (a ++ [y]) = some (ka ++ [ky]) := by
  induction a generalizing ka with
  | nil => cases h; show (kyD y).bind _ = _; rw [k]; rfl
  | cons x a ih =>
    obtain ⟨kx, h1, h2⟩ := Option.bind_eq_some_iff.mp (show (kyD x).bind _ = _ from h)
    obtain ⟨kr, h3, rfl⟩ := Option.map_eq_some_iff.mp h2
    show (kyD x).bind _ = _
    rw [h1]
    show (kysL (a ++ [y])).map (kx :: ·) = _
    rw [ih h3]; rfl
section
variable {X : Cx} {K : KW}
theorem rp_key {H : Hp} {O : Addr → Prop} {v : V} {y : D} {ky : L2.Key} (h : kyD y = some ky) (r : Rp K H O v y) : v = kV ky := by
  cases y with
  | int i => cases h; cases r; rfl
  | str x => cases h; cases r; rfl
  | _ => cases h
theorem tE_sk {w : World} {own : List Nat} {src : Src} {t : D → M Unit} {c : M Bool} {el : M Rs} {S : List Nat} (hS : ∀ j ∈ S, j ∈ own) : ∀ σ H Q, tE K (lscM own src t c el) σ H Q → tSk w (tI K src) (tG K S t) (tT K c) (tE K el) own σ H (fun v H' => rLenM w [v] H' Q) := by
  rintro σ H Q ⟨γ, e, Z, rr, ee, R, hh, k⟩
  obtain ⟨r, e', h, hcnt⟩ := bnd_eq hh
  obtain ⟨⟨ds, lk⟩, e1, h1, h2⟩ := bnd_eq h
  by_cases hlp : lockable lk e1 = true ∧ plainO own (lock1 lk e1) = true
  case neg => simp only [if_neg hlp] at h2; cases h2
  simp only [if_pos hlp] at h2
  obtain ⟨hl, pl⟩ := hlp
  cases q : lcL own t c el ds (wipeE own (lock1 lk e1)) with
  | none => rw [q] at h2; cases h2
  | some p =>
    obtain ⟨xs, eE⟩ := p
    rw [q] at h2
    cases h2
    obtain ⟨q9, eq9⟩ := opt_eq hcnt
    subst eq9
    obtain ⟨ks, hks, q9⟩ := Option.bind_eq_some_iff.mp (show (kysL xs).bind _ = _ from q9)
    by_cases room : ks.length + 1 < scanBound
    case neg => simp only [if_neg room] at q9; cases q9
    simp only [if_pos room] at q9
    cases q9
    refine ⟨γ, e, Z, ds, lk, e1, R, h1, hl, fun J H1 kp sh ⟨Z1, h01, hf, R1, need, P, W, p1, hn⟩ Da hD => ?_⟩
    have RL : Rep K γ (lock1 lk e1) σ H1 Z1 := R1.lock hl
    have pL : P H1 (Hid γ (lock1 lk e1).ρ σ Z1) := W.kp _ _ _ _ p1 (stay_refl fun a o _ z => z.imp (lock_mut hl a).mp id) (W.nd _ _ p1)
    let eL := lock1 lk e1
    let σw := L2.wipe σ own
    let ZD : Addr → Prop := fun a => Z1 a ∨ a = Da
    have tr1 : ∀ a o, H1 a = some o → a ≠ Da := fun a o ha z => by rw [z, hD] at ha; cases ha
    have nZD : ∀ a o, H1 a = some o → ZD a → Z1 a := fun a o ha z => z.resolve_right (tr1 a o ha)
    -- from the walk's start to a later point
    have later : ∀ {ei : En} {H' : Hp}, Kp γ (wipeE own eL).ρ σw H1 H' → Sh (wipeE own eL) ei → Stay H1 H' (Hid γ eL.ρ σ Z1) (Hid γ ei.ρ σw ZD) := fun {ei H'} kp2 sh2 a o ho n => by
      refine ⟨kp2.st a o ho (fun z => n (.inl (wipe_mut z.mu))) fun z => n (.inr (.inl z)), fun z => ?_⟩
      rcases z with z | z | z
      · exact n (.inl (wipe_mut (sh2.mu z)))
      · exact n (.inr (.inl z))
      · exact n (.inr (.inr (nZD a o ho z)))
    have atP : ∀ {ei : En} {H' : Hp}, Kp γ (wipeE own eL).ρ σw H1 H' → Sh (wipeE own eL) ei → P H' (Hid γ ei.ρ σw ZD) := fun {ei H'} kp2 sh2 =>
      W.kp _ _ _ _ pL (later kp2 sh2) fun p hp => kp2.st p.1 p.2 (W.nd _ _ pL p hp) (fun z => (hn p hp).2 (wipe_own z)) (hn p hp).1
    have smD : Same H1 (upd H1 Da (SetMO w Da [] 0)) := same_upd hD
    have RwD : Rep K γ (wipeE own eL) σw (upd H1 Da (SetMO w Da [] 0)) ZD := RL.wipe.grow smD fun a z => z.imp id fun z => by rw [z]; exact ⟨hD, _, upd_same⟩
    refine ⟨fun i m H' => m + i = ds.length ∧ ∃ ei accK accD rest, Kp γ (wipeE own eL).ρ σw H1 H' ∧ Sh (wipeE own eL) ei ∧ (∀ j ∈ own, ∀ s, ei.ρ[j]? ≠ some (some s)) ∧ Rep K γ ei σw H' ZD ∧ H' Da = some (SetMO w Da accK accK.length) ∧
      kysL accD = some accK ∧ accD.length ≤ i ∧ lcL own t c el (ds.drop i) ei = some (rest, eE) ∧ accD ++ rest = xs, ⟨ds.length, rfl, wipeE own eL, [], [], xs, Kp.of_same smD, Sh.refl _, fun j hj s z => (wipeR_in z).1 hj, RwD, upd_same, rfl, Nat.le_refl _, q, rfl⟩, ?_⟩
    rintro i m H' ⟨em, ei, accK, accD, rest, kp2, sh2, hw, R', hacc, racc, hlen, hq, hxs⟩
    by_cases hi : i < ds.length
    · rw [List.drop_eq_getElem_cons hi] at hq
      obtain ⟨u, ea, ht, hq1⟩ := bnd_eq hq
      obtain ⟨b, eb, hc, hq2⟩ := bnd_eq hq1
      refine .inr ⟨W.go i _ _ (atP kp2 sh2) hi, fun H' => ∃ ei accK accD rest, Kp γ (wipeE own eL).ρ σw H1 H' ∧ Sh (wipeE own eL) ei ∧ (∀ j ∈ own, ∀ s, ei.ρ[j]? ≠ some (some s)) ∧ Rep K γ ei σw H' ZD ∧ H' Da = some (SetMO w Da accK accK.length) ∧
        kysL accD = some accK ∧ accD.length ≤ i + 1 ∧ lcL own t c el (ds.drop (i + 1)) ei = some (rest, eE) ∧ accD ++ rest = xs, fun H2 hN => ⟨m - 1, by omega, by omega, hN⟩, fun x H2 hy => ?_⟩
      obtain ⟨sm, rp⟩ := W.yl i _ _ x H2 ds[i] (atP kp2 sh2) (fun a ha => Hid.tr R' ha) (List.getElem?_eq_getElem hi) hy
      have Rg : Rep K γ ei σw H2 ZD := R'.grow sm fun a z => .inl z
      refine ⟨γ, ei, ZD, ds[i], ea, Rg, rp, ht, fun σ2 R2 s2 o2 m2 => ?_⟩
      have l2 : σ2.length = σw.length := by rw [R2.len, R'.len, s2.ln]
      have eσ : L2.wipe σ2 own = σw := by
        have l3 : σw.length = σ.length := L2.wipe_length σ own
        refine wipe_eq (l2.trans l3) fun j hj => ?_
        rw [(o2 j fun z => hj (hS j z)).1, wipe_out' hj]
      refine ⟨eσ, γ, ea, ZD, b, eb, R2, hc, fun H3 kp3 sh3 R3 => ?_⟩
      -- what is not the block's own
      have oo : ∀ a, OwnA ea.ρ σ2 a → OwnA ei.ρ σw a := fun a ⟨j, x, h1, h2⟩ => by
        by_cases cj : j ∈ S
        · exact absurd (m2 j cj _ h1 rfl) (hw j (hS j cj) _)
        · obtain ⟨g1, g2⟩ := o2 j cj
          exact ⟨j, x, g2 ▸ h1, g1 ▸ h2⟩
      have kp03 : Kp γ (wipeE own eL).ρ σw H1 H3 := by
        refine kp2.trans sh2 ⟨fun a o ho n g => kp3.st a o (sm a o ho) (fun z => n (oo a z)) g, fun a o ho => kp3.th a o (sm a o ho)⟩
      have shT : ∀ {ez : En}, Sh ea ez → Sh (wipeE own eL) (wipeE own ez) := fun {ez} s => by
        refine sh2.trans ⟨fun j x h m => ?_, fun j d h => ?_, fun j d h => ?_, ?_⟩
        · obtain ⟨nj, h3⟩ := wipeR_in h
          obtain ⟨y, g1, g2, g3⟩ := s.m j x h3 m
          rw [(o2 j fun z => nj (hS j z)).2] at g1
          exact ⟨y, g1, g2, g3⟩
        · have nj : j ∉ own := fun z => hw j z _ h
          show (wipeR ez.ρ own)[j]? = _
          rw [wipeR_out nj]
          exact s.bo j d (by rw [(o2 j fun z => nj (hS j z)).2]; exact h)
        · obtain ⟨nj, h3⟩ := wipeR_in h
          have g := s.bb j d h3
          rw [(o2 j fun z => nj (hS j z)).2] at g
          exact g
        · show (wipeR ez.ρ own).length = _
          rw [wipeR_len, s.ln, s2.ln]
      have wipeN : ∀ (ez : En), ∀ j ∈ own, ∀ s, (wipeE own ez).ρ[j]? ≠ some (some s) := fun ez j hj s z => (wipeR_in z).1 hj
      -- the list so far
      have hD2 : H2 Da = some (SetMO w Da accK accK.length) := sm _ _ hacc
      have nD : ∀ {ez : En} {H9 : Hp} {σ9 : L2.St}, Rep K γ ez σ9 H9 ZD → ¬ OwnA ez.ρ σ9 Da ∧ Da ∉ γ := fun {ez H9 σ9} Rz => ⟨fun ⟨j, x, h1, h2⟩ => (Rz.mu j _ Da h1 rfl h2).1 (.inr rfl), fun z => Rz.cz Da z (.inr rfl)⟩
      have hD3 : H3 Da = some (SetMO w Da accK accK.length) := kp3.st _ _ hD2 (nD R2).1 (nD R2).2
      have stA : Stay H' H3 (Hid γ ei.ρ σw ZD) (Hid γ eb.ρ σ2 ZD) := fun a o ho n => by
        refine ⟨kp3.st a o (sm a o ho) (fun z => n (.inl (oo a z).mu)) fun z => n (.inr (.inl z)), fun z => ?_⟩
        rcases z with z | z | z
        · rcases s2.mu a (sh3.mu z) with z | z
          · exact n (.inl z)
          · rw [sm a o ho] at z; cases z
        · exact n (.inr (.inl z))
        · exact n (.inr (.inr z))
      cases b with
      | false =>
        refine iteF ?_
        have hq3 : lcL own t c el (ds.drop (i + 1)) (wipeE own eb) = some (rest, eE) := hq2
        have R4 : Rep K γ (wipeE own eb) (L2.wipe σ2 own) H3 ZD := R3.wipe
        rw [eσ] at R4
        exact ⟨wipeE own eb, accK, accD, rest, kp03, shT sh3, wipeN eb, R4, hD3, racc, Nat.le_succ_of_le hlen, hq3, hxs⟩
      | true =>
        refine iteT ?_
        have hq3 : bnd el (fun r => bnd (als r) fun y => fun e => (bnd (lcL own t c el (ds.drop (i + 1))) fun ys => ret (y :: ys)) (wipeE own e)) eb = some (rest, eE) := hq2
        obtain ⟨r, ec, he, hq4⟩ := bnd_eq hq3
        obtain ⟨y, ed, ha, hq5⟩ := bnd_eq hq4
        obtain ⟨ys, ef, hg, hq6⟩ := bnd_eq hq5
        cases hq6
        refine ⟨γ, eb, ZD, r, ec, R3, he, fun v H4 kp4 sh4 P4 => ?_⟩
        obtain ⟨Z4, h14, hf4, R4, A4⟩ := P4.one
        obtain ⟨Z5, h05, h54, R5, rpv, sh5⟩ := als_ok ha h14 R4 A4
        have R5' : Rep K γ ed σ2 H4 ZD := R5.down h05
        have hD4 : H4 Da = some (SetMO w Da accK accK.length) := kp4.st _ _ hD3 (nD R3).1 (nD R3).2
        have hks2 : kysL (accD ++ y :: ys) = some ks := by rw [← hks, ← hxs]
        obtain ⟨ky, kr, hky, ek⟩ := kysL_mid racc hks2
        have ev : v = kV ky := rp_key hky rpv
        have len9 : accK.length + 1 + kr.length = ks.length := by rw [ek]; simp only [List.length_append, List.length_cons]; omega
        refine ⟨ky, accK, accK.length, ev, hD4, by omega, ?_⟩
        have eln : accK.length + 1 = (accK ++ [ky]).length := by simp
        rw [eln]
        have R6 : Rep K γ ed σ2 (upd H4 Da (SetMO w Da (accK ++ [ky]) (accK ++ [ky]).length)) ZD := R5'.updZ (.inr rfl)
        have R7 : Rep K γ (wipeE own ed) (L2.wipe σ2 own) (upd H4 Da (SetMO w Da (accK ++ [ky]) (accK ++ [ky]).length)) ZD := R6.wipe
        rw [eσ] at R7
        refine ⟨wipeE own ed, accK ++ [ky], accD ++ [y], ys, ?_, shT (sh3.trans (sh4.trans sh5)), wipeN ed, R7, upd_same, kysL_one racc hky, by simp only [List.length_append, List.length_cons, List.length_nil]; omega, hg, by rw [← hxs, List.append_assoc]; rfl⟩
        refine ⟨fun a o ho n g => ?_, fun a o ho => ?_⟩
        · rw [upd_ne (tr1 a o ho)]
          obtain ⟨o3, ho3⟩ := kp03.th a o ho
          have e3 := kp03.st a o ho n g
          refine kp4.st a o e3 (fun z => ?_) g
          have z2 := oo a (sh3.own z)
          exact n (sh2.own z2)
        · by_cases ca : a = Da
          · exact ⟨_, by rw [ca]; exact upd_same⟩
          · rw [upd_ne ca]
            obtain ⟨o3, ho3⟩ := kp03.th a o ho
            exact kp4.th a o3 ho3
    · have e0 : i = ds.length := by omega
      subst e0
      rw [List.drop_length] at hq
      cases hq
      rw [List.append_nil] at hxs
      subst hxs
      rw [hks] at racc
      cases racc
      refine .inl ⟨W.st _ _ (atP kp2 sh2), Da, _, rfl, hacc, room, ?_⟩
      obtain ⟨RB, mB⟩ := Rep.backE RL pl R' hw (later kp2 sh2)
      have shB : Sh eL { eE with ρ := backR eL.ρ eE.ρ own } := by
        refine ⟨fun j x h m => ?_, fun j d h => ?_, fun j d h => ?_, ?_⟩
        · rcases backR_in h with ⟨_, h2⟩ | h2
          · exact ⟨x, h2, m, id⟩
          · obtain ⟨y, g1, g2, g3⟩ := sh2.m j x h2 m
            exact ⟨y, (wipeR_in g1).2, g2, g3⟩
        · have nj : j ∉ own := fun z => by
            obtain ⟨d', e'⟩ := plainO_in pl z h
            cases e'
          show (backR eL.ρ eE.ρ own)[j]? = _
          rw [backR_out nj]
          exact sh2.bo j d (by show (wipeR eL.ρ own)[j]? = _; rw [wipeR_out nj]; exact h)
        · rcases backR_in h with ⟨_, h2⟩ | h2
          · exact h2
          · exact (wipeR_in (sh2.bb j d h2)).2
        · show (backR eL.ρ eE.ρ own).length = _
          rw [backR_len, sh2.ln, wipeR_len]
      have kpB : Kp γ eL.ρ σ H1 H' := ⟨fun a o ho n g => kp2.st a o ho (fun z => n (wipe_own z)) g, kp2.th⟩
      have sB : Stp γ eL σ H1 γ { eE with ρ := backR eL.ρ eE.ρ own } σ H' := Stp.ev kpB shB
      have RU := Rep.unlock R1 hl sB RB
      have kpU : Kp γ e1.ρ σ H1 H' := ⟨fun a o ho n g => kpB.st a o ho (fun z => n (lock_own hl z)) g, kpB.th⟩
      have um := unlock_mut R1 hl sB
      refine k _ _ (kp.trans sh kpU) (sh.trans (Sh.unlock hl shB)) ⟨ZD, fun a z => .inl (h01 a z), fun a z => ?_, RU, .cons (.int _) .nil⟩
      rcases z with z | z
      · exact hf a z
      · rw [z]; exact .inr (kp.none hD)
end
end DV
end
section
set_option Elab.async false
set_option linter.all false
set_option maxRecDepth 100000
set_option maxHeartbeats 4000000
namespace DV
open PySem PySem.Spec PyProof.Rows L2
theorem mem_nubK {k : L2.Key} : ∀ {ks : List L2.Key}, k ∈ nubK ks ↔ k ∈ ks
  | [] => Iff.rfl
  | x :: ks => by
    have ih := mem_nubK (k := k) (ks := ks)
    unfold nubK
    split
    · rename_i c
      obtain ⟨z, hz, e⟩ := List.any_eq_true.mp c
      have : z = x := by simpa using e
      subst this
      rw [ih, List.mem_cons]
      exact ⟨.inr, fun h => h.elim (fun h => h ▸ hz) id⟩
    · rw [List.mem_cons, List.mem_cons, ih]
theorem nodup_nubK : ∀ ks : List L2.Key, (nubK ks).Nodup
  | [] => List.Pairwise.nil
  | x :: ks => by
    unfold nubK
    split
    · exact nodup_nubK ks
    · rename_i c
      refine List.nodup_cons.mpr ⟨fun h => c ?_, nodup_nubK ks⟩
      exact List.any_eq_true.mpr ⟨x, mem_nubK.mp h, by simp⟩
theorem len_of_same : ∀ {a b : List L2.Key}, a.Nodup → b.Nodup → (∀ k, k ∈ a ↔ k ∈ b) → a.length = b.length
  | [], [], _, _, _ => rfl
  | [], y :: b, _, _, h => absurd ((h y).mpr (List.mem_cons_self ..)) (by simp)
  | x :: a, b, ha, hb, h => by
    obtain ⟨n1, n2⟩ := List.nodup_cons.mp ha
    obtain ⟨p, q, e⟩ := List.append_of_mem ((h x).mp (List.mem_cons_self ..))
    subst e
    have pm : (p ++ x :: q).Perm (x :: (p ++ q)) := List.perm_middle
    obtain ⟨m1, m2⟩ := List.nodup_cons.mp (pm.nodup_iff.mp hb)
    have := len_of_same (a := a) (b := p ++ q) n2 m2 fun k => by
      constructor
      · intro hk
        have := (pm.mem_iff).mp ((h k).mp (List.mem_cons_of_mem _ hk))
        exact (List.mem_cons.mp this).resolve_left fun e => n1 (e ▸ hk)
      · intro hk
        have := (h k).mpr (pm.mem_iff.mpr (List.mem_cons_of_mem _ hk))
        exact (List.mem_cons.mp this).resolve_left fun e => m1 (e ▸ hk)
    simp only [List.length_cons, List.length_append] at this ⊢
    omega
section
variable {X : Cx} {K : KW}
theorem cr_lenM : CallR X (.builtin "len") (rLenM X.w) := by
  intro pins s σ H vs us Q I r h
  obtain ⟨a, ks, rfl, ha, room, q⟩ := h
  obtain ⟨u, rfl, rx⟩ := vals1 r
  cases rx
  obtain ⟨⟨o, es, ep, t, ho, hex, hd, ⟨g, nd, hm⟩, ⟨hb, hn⟩, ⟨hf, hr⟩, hl⟩, _, _⟩ := I.hok a _ ha
  have el : es.size = (nubK ks).length := by
    have := len_of_same nd (nodup_nubK ks) fun k => (hm k).trans mem_nubK.symm
    simpa using this
  refine call_len_set ho hex hd hf ?_ ⟨.int (nubK ks).length, H, I.tok _, ⟨_, by rw [el]⟩, q⟩
  have : scanBound < 2 ^ 62 := by decide
  omega
theorem de_lenSc {elt tg iter : Expr} {ifs : List Expr} {scope : Scope} {own : List (Str × Nat)} {p pos spos : Pos} {src : Src} {t : D → M Unit} {tc : M Bool} {el : M Rs} {S : List Nat} (hm : X.mg "len" = none) (hi : PI X tg iter (tI X.KW src)) (hN : X.N.Nodup) (ok : BlkOk X.N X.env.scope scope own)
    (hg : ∀ (s : Shared) (H : Hp) (C : Addr) (cl : List (Str × Addr)) (fp : List Addr), PG (X.blk s H scope (compEnvC scope cl C X.env) fp) tg (tG X.KW S t)) (ht : ∀ (s : Shared) (H : Hp) (C : Addr) (cl : List (Str × Addr)) (fp : List Addr), PTs (X.blk s H scope (compEnvC scope cl C X.env) fp) ifs (tT X.KW tc))
    (he : ∀ (s : Shared) (H : Hp) (C : Addr) (cl : List (Str × Addr)) (fp : List Addr), PE (X.blk s H scope (compEnvC scope cl C X.env) fp) elt (tE X.KW el)) (hS : ∀ j ∈ S, j ∈ own.map (·.2) := by decide) (hgl : Gl X "len" := by rfl) (hc : X.calm = true := by rfl) (hs : ∀ x, foldedSetIterable iter X.env x = pure x := by intro _; rfl)
    (h1 : starEach [.SetComp elt [⟨tg, iter, ifs, 0⟩] scope spos] X.env = (false, eval (.SetComp elt [⟨tg, iter, ifs, 0⟩] scope spos) X.env) :: starEach [] X.env := by rfl) (h3 : (backTo pos (starEach [] X.env)).any (·.1) = false := by rfl) :
    PE X (.Call (.Name "len" p) [.SetComp elt [⟨tg, iter, ifs, 0⟩] scope spos] [] pos) (tE X.KW (lscM (own.map (·.2)) src t tc el)) :=
  PE.weak (pe_callB cr_lenM hgl hm boot_len (pa_cons (pe_sk hc hN hi ok hg ht he hs) pa_nil h1) (by decide) (by decide) h1 h3) fun σ H Q h => tE_sk hS σ H Q h
/-! len(set(list of keys)) -/
def rSetOfK (K : KW) (w : World) : List V → Hp → VK → Prop := fun vs H Q => ∃ (a : Addr) (ks : List L2.Key), vs = [.ref a] ∧ SqL K H a (ks.map kV) ∧ ks.length + 1 < scanBound ∧ ∀ p, H p = none → Q (.ref p) (upd H p (SetMO w p ks ks.length))
theorem cr_setOfK (hc : X.calm = true) : CallR X (.type "set") (rSetOfK X.KW X.w) := by
  intro pins s σ H vs us Q I r h
  obtain ⟨a, ks, rfl, sq, hl, q⟩ := h
  obtain ⟨u, rfl, rx⟩ := vals1 r
  cases rx
  obtain ⟨its, rv, pl, hz⟩ := I.list sq
  have hlen := rv.length
  rw [List.length_map] at hlen
  refine setM_of ks (I.ok.hd hc) pl.isList (by simp [hlen]) (fun i v hv => ?_) hl fun h' tk R k => ?_
  · have hvi : its[i]? = some v := by rw [← Array.getElem?_toList] at hv; exact hv
    have hi : i < ks.length := by rw [hlen]; exact (List.getElem?_eq_some_iff.mp hvi).1
    have hx : (ks.map kV)[i]? = some (kV ks[i]) := by rw [List.getElem?_map, List.getElem?_eq_getElem hi]; rfl
    obtain ⟨v', hv', rw'⟩ := rv.get hx
    rw [hvi] at hv'
    cases hv'
    exact ⟨ks[i], List.getElem?_eq_getElem hi, rw'⟩
  · exact ⟨.ref _, upd H s.heap.objs.size (SetMO X.w s.heap.objs.size ks ks.length), I.laid (t' := tk) k (Nat.le_refl _) (setMO_new R), rfl, q _ (I.hok.fresh (Nat.le_refl _))⟩
theorem rp_keys {H : Hp} {O : Addr → Prop} : ∀ {vs : List V} {ds : List D} {ks : List L2.Key}, RpL K H O vs ds → kysL ds = some ks → vs = ks.map kV
  | _, _, _, .nil, h => by cases h; rfl
  | _, _, _, .cons r t, h => by
    obtain ⟨k, h1, h2⟩ := Option.bind_eq_some_iff.mp (show (kyD _).bind _ = _ from h)
    obtain ⟨kr, h3, rfl⟩ := Option.map_eq_some_iff.mp h2
    rw [rp_key h1 r, rp_keys t h3]; rfl
def lsetG (d : D) : Option Rs := match d with
  | .list ds => (kysL ds).bind fun ks => if ks.length + 1 < scanBound then some (.fz (.int (nubK ks).length)) else none
  | _ => none
theorem de_lenSet {f : M Rs} {p p2 pos pos2 : Pos} {e : Expr} (he : PE X e (tE X.KW f)) (hm : X.mg "len" = none) (hm2 : X.mg "set" = none) (hg : Gl X "len" := by rfl) (hg2 : Gl X "set" := by rfl) (hc : X.calm = true := by rfl)
    (h1 : starEach [e] X.env = (false, eval e X.env) :: starEach [] X.env := by rfl) (h2 : starEach [.Call (.Name "set" p2) [e] [] pos2] X.env = (false, eval (.Call (.Name "set" p2) [e] [] pos2) X.env) :: starEach [] X.env := by rfl)
    (h3 : (backTo pos2 (starEach [] X.env)).any (·.1) = false := by rfl) (h4 : (backTo pos (starEach [] X.env)).any (·.1) = false := by rfl) : PE X (.Call (.Name "len" p) [.Call (.Name "set" p2) [e] [] pos2] [] pos) (tE X.KW (op1 lsetG f)) :=
  PE.weak (pe_callB cr_lenM hg hm boot_len (pa_cons (pe_callTy (cr_setOfK hc) hg2 hm2 boot_set (pa_cons he pa_nil h1) (by decide) (by decide) h1 h3) pa_nil h2) (by decide) (by decide) h2 h4) (by
  rintro σ H Q ⟨γ, e, Z, res, e', R, h, k⟩
  obtain ⟨ra, e1, g1, ha⟩ := bnd_eq h
  obtain ⟨d, e2, g2, hb⟩ := bnd_eq ha
  obtain ⟨q1, rfl⟩ := rdM_eq g2
  obtain ⟨q2, rfl⟩ := opt_eq hb
  refine ⟨γ, e, Z, ra, e', R, g1, fun x H1 kp sh P => ?_⟩
  obtain ⟨Z1, h01, hf, R1, A1⟩ := P.one
  unfold lsetG at q2
  split at q2
  · obtain ⟨ks, hx, q3⟩ := Option.bind_eq_some_iff.mp q2
    split at q3
    · rename_i room
      cases q3
      obtain ⟨a, vs, rfl, sq, r⟩ := (A1.rd R1 q1).lst
      have ev := rp_keys r hx
      subst ev
      refine ⟨a, ks, rfl, sq, room, fun p1 hp1 => ⟨p1, ks, rfl, upd_same, room, ?_⟩⟩
      have sm := same_upd (o := SetMO X.w p1 ks ks.length) hp1
      have R2 : Rep X.KW γ e' σ (upd H1 p1 (SetMO X.w p1 ks ks.length)) Z1 := R1.grow sm fun a z => .inl z
      have kp2 : Kp γ e'.ρ σ H1 (upd H1 p1 (SetMO X.w p1 ks ks.length)) := Kp.of_same sm
      exact k _ _ (kp.trans sh kp2) sh ⟨Z1, h01, fun a z => hf a z, R2, .cons (.int _) .nil⟩
    · cases q3
  · cases q2)
end
end DV
end
section
set_option Elab.async false
set_option linter.all false
set_option maxRecDepth 100000
set_option maxHeartbeats 4000000
namespace DV
open PySem PySem.Spec PyProof.Rows L2
/-! ### sorted(list or tuple of ints) -/
def insI (x : Int) : List Int → List Int
  | [] => [x]
  | y :: r => if x ≤ y then x :: y :: r else y :: insI x r
def isort : List Int → List Int
  | [] => []
  | x :: r => insI x (isort r)
theorem insI_perm (x : Int) : ∀ l : List Int, (insI x l).Perm (x :: l)
  | [] => List.Perm.refl _
  | y :: r => by
    unfold insI
    split
    · exact List.Perm.refl _
    · exact ((insI_perm x r).cons y).trans (List.Perm.swap x y r)
theorem isort_perm : ∀ l : List Int, (isort l).Perm l
  | [] => List.Perm.refl _
  | x :: r => (insI_perm x _).trans ((isort_perm r).cons x)
theorem insI_up (x : Int) : ∀ {l : List Int}, l.Pairwise (· ≤ ·) → (insI x l).Pairwise (· ≤ ·)
  | [], _ => by simp [insI]
  | y :: r, h => by
    obtain ⟨h1, h2⟩ := List.pairwise_cons.mp h
    unfold insI
    split
    · rename_i c
      refine List.pairwise_cons.mpr ⟨fun z hz => ?_, h⟩
      rcases List.mem_cons.mp hz with rfl | hz
      · exact c
      · exact Int.le_trans c (h1 z hz)
    · rename_i c
      refine List.pairwise_cons.mpr ⟨fun z hz => ?_, insI_up x h2⟩
      rcases List.mem_cons.mp ((insI_perm x r).mem_iff.mp hz) with rfl | hz
      · omega
      · exact h1 z hz
theorem isort_up : ∀ l : List Int, (isort l).Pairwise (· ≤ ·)
  | [] => List.Pairwise.nil
  | x :: r => insI_up x (isort_up r)
theorem up_uniq : ∀ {a b : List Int}, a.Perm b → a.Pairwise (· ≤ ·) → b.Pairwise (· ≤ ·) → a = b
  | [], b, p, _, _ => p.nil_eq
  | x :: a, [], p, _, _ => absurd p.length_eq (by simp)
  | x :: a, y :: b, p, ha, hb => by
    obtain ⟨a1, a2⟩ := List.pairwise_cons.mp ha
    obtain ⟨b1, b2⟩ := List.pairwise_cons.mp hb
    have e : x = y := by
      have h1 : y ≤ x := by
        rcases List.mem_cons.mp (p.mem_iff.mp (List.mem_cons_self ..)) with e | h
        · omega
        · exact b1 x h
      have h2 : x ≤ y := by
        rcases List.mem_cons.mp (p.symm.mem_iff.mp (List.mem_cons_self ..)) with e | h
        · omega
        · exact a1 y h
      omega
    subst e
    rw [up_uniq p.cons_inv a2 b2]
section
variable {P : Program} {w : World} {A : Around} {E : Value → Shared → Prop} {s : Shared}
/-- all of a list or tuple, gathered in a new list -/
theorem gather {Q : List Value → Shared → Prop} {l : Addr} {T : String} {o : Obj} {items : Array Value} {n : Nat} (hT : T = "list" ∨ T = "tuple") (ho : s.heap.get? l = some o) (hc : o.cls = .type T) (hd : o.data = .seq items n) (hz : items.size ≤ sizeLine)
    (q : ∀ h', (∀ b u, s.heap.get? b = some u → h'.get? b = some u) → h'.objs.size = s.heap.objs.size + 1 → Q items.toList { s with heap := h' }) : wpAny (model P w) A (collect (.ref l)) Q E s := by
  let D := s.heap.objs.size
  let h1 := s.heap.push { cls := .type "list", data := .seq ([] : List Value).toArray }
  let h2 := h1.update D (Obj.mapSeq (· ++ items))
  have g1 : h1.get? D = some { cls := .type "list", data := .seq #[] 0 } := Heap.get?_push_size _ rfl
  have g2 := Heap.get?_update_self (Obj.mapSeq (· ++ items)) g1 rfl
  have old : ∀ b u, s.heap.get? b = some u → h2.get? b = some u := fun b u e => (Heap.get?_update_other _ _ (Nat.ne_of_gt (Heap.lt_size e))).trans (Heap.get?_push_of_some _ e)
  have last : wpAny (model P w) A (match Value.ref D with
      | Value.ref a => do
        match (← load a).data with
          | Data.seq xs _ => pure xs.toList
          | _ => unsupported "internal:collect"
      | _ => unsupported "internal:collect") Q E { s with heap := h2 } := by
    refine wpAny_bind (wpAny_load g2 (wpAny_pure ?_))
    have e : ((#[] : Array Value) ++ items).toList = items.toList := by simp
    show Q ((#[] : Array Value) ++ items).toList _
    rw [e]
    exact q h2 old (by show (h1.update D _).objs.size = _; rw [Heap.size_update, Heap.size_push])
  unfold collect
  refine wpAny_bind (wpAny_runValue (codeAny_builtin F.entry_proto_collect ?_))
  rw [Around.under_plainId F.plain_proto_collect _]
  refine wpAny_bind (wpAny_newObj_type (wpAny_pure ⟨plainId_quiet F.plain_list_iadd _, codeAny_builtin F.entry_list_iadd ?_⟩))
  rw [Around.under_plainId F.plain_list_iadd _]
  refine wpAny_mono (wpAny_extend_seq (hsz := hz) (A := A) (R := fun r s' => r = .ok (.ret (.ref D)) ∧ s' = { s with heap := h2 }) (s := { s with heap := h1 }) _ l _ 0 hT g1 (Heap.get?_push_of_some _ ho) hc hd ⟨rfl, rfl⟩) (fun fin s' z => ?_) fun e s' z => absurd z.1 (by simp)
  cases fin with
  | done f =>
    obtain ⟨e, rfl⟩ := z
    cases e
    exact last
  | again c' => exact ⟨z.1, codeAny_mono z.2 fun r s'' hr => by obtain ⟨rfl, rfl⟩ := hr; exact last⟩
theorem sorted_seqI {T : String} {l : Addr} {o : Obj} {items : Array Value} {n : Nat} {ns : List Int} {Q : Value → Shared → Prop} (hT : T = "list" ∨ T = "tuple") (ho : s.heap.get? l = some o) (hc : o.cls = .type T) (hd : o.data = .seq items n) (hi : IntsAre items.toList ns) (hz : items.size ≤ sizeLine)
    (h : ∀ (h' : Heap) (p : Addr) (out : List Value) (c : Nat), (∀ b u, s.heap.get? b = some u → h'.get? b = some u) → s.heap.objs.size ≤ p → h'.get? p = some (seqObj "list" out.toArray c) → IntsAre out (isort ns) → Q (.ref p) { s with heap := h' }) :
    wpAny (model P w) A (call (.builtin "sorted") [.ref l]) Q E s := by
  refine Calls.call_function_entry kind_sorted plain_sorted entry_sorted (args_sorted1 _) ?_
  unfold Builtin.«sorted»
  refine wpAny_bind (m := checkCount "sorted" 1 1 _) (wpAny_pure ?_)
  refine wpAny_bind (gather hT ho hc hd hz fun h' k hsz => ?_)
  refine wpAny_bind (wpAny_newList ?_ (by simpa using hz))
  have oL : (h'.push (seqObj "list" items.toList.toArray 0)).get? h'.objs.size = some (seqObj "list" items.toList.toArray 0) := Heap.get?_push_size _ rfl
  refine wpAny_bind (wpAny_holding (wpAny_call_entry PyProof.Rows.slot_list_sort ⟨_, oL, rfl⟩ PyProof.Rows.entry_list_sort
    (SrtO.list_sort_ord SrtO.swo_int (s := { s with heap := h'.push (seqObj "list" items.toList.toArray 0) }) oL (by simpa using hz) (fun h2 => SrtO.ints_sortable hi h2) fun out h1 h2 => ⟨_, rfl, ?_⟩) (PyProof.Rows.args_list_sort _)))
  obtain ⟨k1, k2, k3⟩ := SrtO.ints_out hi h1 h2
  obtain ⟨c, hcx⟩ := PyProof.Rows.sortedHeap_at (vs := items.toList) (out := out.toArray) oL
  have e : out.map SrtO.iv = isort ns := up_uniq (k2.trans (isort_perm ns).symm) k3 (isort_up ns)
  rw [e] at k1
  have szle : s.heap.objs.size ≤ h'.objs.size := by omega
  refine wpAny_pure ⟨_, rfl, h _ _ out c (fun b u q => ?_) szle hcx k1⟩
  have lt := Heap.lt_size (k b u q)
  rw [PyProof.Rows.sortedHeap_old (Nat.ne_of_lt lt) (by rw [size_push']; exact Nat.lt_succ_of_lt lt)]
  exact Heap.get?_push_of_some _ (k b u q)
end
end DV
end
section
set_option Elab.async false
set_option linter.all false
set_option maxRecDepth 100000
set_option maxHeartbeats 4000000
namespace DV
open PySem PySem.Spec PyProof.Rows L2
section
variable {X : Cx} {K : KW}
def rSortS (K : KW) : List V → Hp → VK → Prop := fun vs H Q => ∃ (a : Addr) (ns : List Int), vs = [.ref a] ∧ (SqL K H a (ns.map V.int) ∨ SqT K H a (ns.map V.int)) ∧ ∀ p, H p = none → Q (.ref p) (upd H p (.lst ((isort ns).map V.int)))
theorem cr_sortS : CallR X (.builtin "sorted") (rSortS X.KW) := by
  intro pins s σ H vs us Q I r h
  obtain ⟨a, ns, rfl, sq, q⟩ := h
  obtain ⟨u, rfl, rx⟩ := vals1 r
  cases rx
  have go : ∀ (T : String) (its : List Value) (o : Obj) (n : Nat), (T = "list" ∨ T = "tuple") → s.heap.get? a = some o → o.cls = .type T → o.data = .seq its.toArray n → Vals (ns.map V.int) its → (ns.map V.int).length ≤ sizeLine → wpAny (model X.prog X.w) X.A (call (.builtin "sorted") [.ref a]) (EP X pins σ Q) X.xe s := by
    intro T its o n hT ho hc hd rv hz
    have hi := rv.ints
    have hl := rv.length
    refine sorted_seqI (ns := ns) hT ho hc hd (by simpa using hi) (by simp only [List.size_toArray]; omega) fun h' p out c k le hp hS => ?_
    have hn : H p = none := I.hok.fresh le
    have hlen : ((isort ns).map V.int).length ≤ sizeLine := by
      rw [List.length_map, (isort_perm ns).length_eq]
      rwa [List.length_map] at hz
    exact ⟨.ref p, upd H p (.lst ((isort ns).map V.int)), I.laid (t' := s.toks) k le ⟨hlen, out, c, vals_of_ints hS, hp⟩, rfl, q p hn⟩
  rcases sq with sq | sq
  · obtain ⟨its, rv, pl, hz⟩ := I.list sq
    obtain ⟨o, ho, hc, n, hd⟩ := pl.isList
    exact go "list" its o n (.inl rfl) ho hc hd rv hz
  · obtain ⟨its, rv, ⟨o, ho, hc, n, hd⟩, hz⟩ := I.tuple sq
    exact go "tuple" its o n (.inr rfl) ho hc hd rv hz
def intL : List D → Option (List Int)
  | [] => some []
  | .int i :: r => (intL r).map (i :: ·)
  | _ => none
theorem intL_eq : ∀ {ds : List D} {is : List Int}, intL ds = some is → ds = is.map .int
  | [], is, h => by cases h; rfl
  | .int i :: r, is, h => by
    obtain ⟨cs, hc, rfl⟩ := Option.map_eq_some_iff.mp (show (intL r).map (i :: ·) = some is from h)
    rw [List.map_cons, ← intL_eq hc]
  | .none :: r, is, h => by cases h
  | .str _ :: r, is, h => by cases h
  | .bool _ :: r, is, h => by cases h
  | .list _ :: r, is, h => by cases h
  | .tuple _ :: r, is, h => by cases h
  | .dict _ :: r, is, h => by cases h
theorem rp_intsV {H : Hp} {O : Addr → Prop} : ∀ {vs : List V} {is : List Int}, RpL K H O vs (is.map .int) → vs = is.map V.int
  | _, [], h => by cases h; rfl
  | _, i :: is, h => by
    cases h with
    | cons r t => cases r; rw [rp_intsV t]; rfl
theorem rp_ints {H : Hp} {O : Addr → Prop} : ∀ is : List Int, RpL K H O (is.map V.int) (is.map .int)
  | [] => .nil
  | i :: is => .cons (.int i) (rp_ints is)
def sortG (d : D) : Option Rs := match d with
  | .list ds => (intL ds).map fun is => .fr (.list ((isort is).map .int))
  | .tuple ds => (intL ds).map fun is => .fr (.list ((isort is).map .int))
  | _ => none
theorem o_sortS : OpN K (rSortS K) (g1 sortG) := OpN.one fun H O x d res Q tr rx q k => by
  unfold sortG at q
  split at q
  · obtain ⟨is, hi, rfl⟩ := Option.map_eq_some_iff.mp q
    have := intL_eq hi
    subst this
    obtain ⟨a, xs, rfl, sq, r⟩ := rx.lst
    have := rp_intsV r
    subst this
    exact ⟨a, is, rfl, .inl sq, fun l hl => k _ _ (.lst (Same.refl H) hl (rp_ints _))⟩
  · obtain ⟨is, hi, rfl⟩ := Option.map_eq_some_iff.mp q
    have := intL_eq hi
    subst this
    obtain ⟨a, xs, rfl, sq, r⟩ := rx.tup
    have := rp_intsV r
    subst this
    exact ⟨a, is, rfl, .inr sq.sq, fun l hl => k _ _ (.lst (Same.refl H) hl (rp_ints _))⟩
  · cases q
end
end DV
end
section
set_option Elab.async false
set_option linter.all false
set_option maxRecDepth 100000
set_option maxHeartbeats 4000000
namespace DV
open PySem PySem.Spec PyProof.Rows L2
section
variable {X : Cx} {K : KW}
/-! ### list(range(a)), list(range(a, b)) -/
def lrR1 (d : D) : Option Rs := match d with
  | .int j => if -(2 ^ 62) ≤ j ∧ j ≤ 1000000 then some (.fr (.list (rngL 0 j.toNat))) else none
  | _ => none
def lrR2 (d c : D) : Option Rs := match d, c with
  | .int i, .int j => if (-(2 ^ 62) ≤ i ∧ i < 2 ^ 62 ∧ -(2 ^ 62) ≤ j ∧ j < 2 ^ 62) ∧ j - i ≤ 1000000 then some (.fr (.list (rngL i (j - i).toNat))) else none
  | _, _ => none
theorem rp_rng {H : Hp} {O : Addr → Prop} {i : Int} : ∀ l : List Nat, RpL K H O (l.map fun k : Nat => V.int (i + (k : Nat))) (l.map fun k : Nat => PyData.int (i + k))
  | [] => .nil
  | k :: l => .cons (.int _) (rp_rng l)
theorem de_lrg1 {f : M Rs} {p p2 pos pos2 : Pos} {a : Expr} (ha : PE X a (tE X.KW f)) (hm : X.mg "list" = none) (hm2 : X.mg "range" = none) (hg : Gl X "list" := by rfl) (hg2 : Gl X "range" := by rfl) (hc : X.calm = true := by rfl)
    (n1 : starEach [a] X.env = (false, eval a X.env) :: starEach [] X.env := by rfl) (n2 : starEach [.Call (.Name "range" p2) [a] [] pos2] X.env = (false, eval (.Call (.Name "range" p2) [a] [] pos2) X.env) :: starEach [] X.env := by rfl) :
    PE X (.Call (.Name "list" p) [.Call (.Name "range" p2) [a] [] pos2] [] pos) (tE X.KW (op1 lrR1 f)) :=
  PE.weak (pe_listRg hc hg hm (prg_1 hg2 hm2 ha n1) n2) (by
  rintro σ H Q ⟨γ, e, Z, res, e', R, h, k⟩
  obtain ⟨ra, e1, g1, hh⟩ := bnd_eq h
  obtain ⟨d, e2, g2, hb⟩ := bnd_eq hh
  obtain ⟨q1, rfl⟩ := rdM_eq g2
  obtain ⟨q2, rfl⟩ := opt_eq hb
  refine ⟨γ, e, Z, ra, e', R, g1, fun x H1 kp sh P => ?_⟩
  obtain ⟨Z1, h01, hf, R1, A1⟩ := P.one
  unfold lrR1 at q2
  split at q2
  · rename_i j
    split at q2
    · rename_i c
      cases q2
      have ex := (A1.rd R1 q1).int
      refine ⟨j, ex, ⟨by omega, by omega, by omega, by omega, by omega⟩, fun p1 hp1 => ?_⟩
      have e0 : (j - 0).toNat = j.toNat := by omega
      have rp : RpL X.KW H1 (Hid γ e'.ρ σ Z1) (rgV 0 j) (rngL 0 j.toNat) := by
        unfold rgV rngL
        rw [e0]
        exact rp_rng _
      obtain ⟨kp2, P2⟩ := (Gr.lst (K := X.KW) (O := Hid γ e'.ρ σ Z1) (Same.refl H1) hp1 rp).pst R1
      exact k _ _ (kp.trans sh kp2) sh (Pst.next (rs0 := []) (xs0 := []) kp h01 hf P2)
    · cases q2
  · cases q2)
def rLr2 : R2 := fun x y H Q => ∃ i j : Int, x = V.int i ∧ y = V.int j ∧ RgOk i j ∧ ∀ q, H q = none → Q (.ref q) (upd H q (.lst (rgV i j)))
theorem o_lrg2 : Op2 K rLr2 lrR2 := fun H O x y dx dy res Q tr rx ry q k => by
  unfold lrR2 at q
  split at q
  · rename_i i j
    split at q
    · rename_i c
      cases q
      refine ⟨i, j, rx.int, ry.int, ⟨c.1.1, c.1.2.1, c.1.2.2.1, c.1.2.2.2, by omega⟩, fun p hp => k _ _ (.lst (Same.refl H) hp ?_)⟩
      unfold rgV rngL
      exact rp_rng _
    · cases q
  · cases q
theorem de_lrg2 {f g : M Rs} {p p2 pos pos2 : Pos} {a b : Expr} (ha : PE X a (tE X.KW f)) (hb : PE X b (tE X.KW g)) (hm : X.mg "list" = none) (hm2 : X.mg "range" = none) (hg : Gl X "list" := by rfl) (hg2 : Gl X "range" := by rfl) (hc : X.calm = true := by rfl)
    (n1 : starEach [a, b] X.env = (false, eval a X.env) :: starEach [b] X.env := by rfl) (n2 : starEach [b] X.env = (false, eval b X.env) :: starEach [] X.env := by rfl) (n3 : (backTo pos2 (starEach [b] X.env)).any (·.1) = false := by rfl)
    (n4 : starEach [.Call (.Name "range" p2) [a, b] [] pos2] X.env = (false, eval (.Call (.Name "range" p2) [a, b] [] pos2) X.env) :: starEach [] X.env := by rfl) :
    PE X (.Call (.Name "list" p) [.Call (.Name "range" p2) [a, b] [] pos2] [] pos) (tE X.KW (op2 lrR2 f g)) :=
  PE.weak (pe_listRg hc hg hm (prg_2 hg2 hm2 ha hb n1 n2 n3) n4) fun σ H Q h => tE_op2 (o_lrg2 (K := X.KW)) σ H Q h
/-! ### xs[::-1] -/
def revG (d : D) : Option Rs := match d with
  | .list ds => some (.fr (.list ds.reverse))
  | _ => none
def rRev (K : KW) : V → Hp → VK → Prop := fun x H Q => ∃ a xs, x = V.ref a ∧ SqL K H a xs ∧ ∀ p, H p = none → Q (.ref p) (upd H p (.lst xs.reverse))
theorem rp_rev {H : Hp} {O : Addr → Prop} : ∀ {xs : List V} {ds : List D}, RpL K H O xs ds → RpL K H O xs.reverse ds.reverse
  | _, _, .nil => .nil
  | _, _, .cons r t => by
    rw [List.reverse_cons, List.reverse_cons]
    exact (rp_rev t).append (.cons r .nil)
theorem o_rev : Op1 K (rRev K) revG := fun H O x d res Q tr rx q k => by
  unfold revG at q
  split at q
  · cases q
    obtain ⟨a, xs, rfl, sq, r⟩ := rx.lst
    exact ⟨a, xs, rfl, sq, fun p hp => k _ _ (.lst (Same.refl H) hp (rp_rev r))⟩
  · cases q
theorem de_rev {f : M Rs} {e : Expr} {kk : Nat} {p1 p2 p3 pos : Pos} (he : PE X e (tE X.KW f)) : PE X (.Subscript e (.Slice none none (some (.UnaryOp .USub (.Constant (.int 1) kk p1) p2)) p3) pos) (tE X.KW (op1 revG f)) :=
  PE.weak (pe_revL he) fun σ H Q h => tE_op1 (o_rev (K := X.KW)) σ H Q h
end
end DV
end
section
set_option Elab.async false
set_option linter.all false
set_option maxRecDepth 100000
set_option maxHeartbeats 4000000
namespace DV
open PySem PySem.Spec PyProof.Rows L2
section
variable {X : Cx} {K : KW}
/-! ### a str in a tuple of strs -/
def inTB (x y : D) : Option Bool := match x, y with
  | .str i, .tuple ds => (strL ds).map fun xs => decide (i ∈ xs)
  | _, _ => none
def inTG (x y : D) : Option Rs := (inTB x y).bind boolR
def notInTG (x y : D) : Option Rs := (inTB x y).bind fun b => boolR !b
theorem inTB_cases {x y : D} {b : Bool} (h : inTB x y = some b) : ∃ (i : Str) (xs : List Str), x = .str i ∧ y = .tuple (xs.map .str) ∧ b = decide (i ∈ xs) := by
  unfold inTB at h
  split at h
  · obtain ⟨xs, h1, rfl⟩ := Option.map_eq_some_iff.mp h
    rw [strL_eq h1]
    exact ⟨_, xs, rfl, rfl, rfl⟩
  · cases h
theorem inV_strs (i : Str) : ∀ xs : List Str, inV (.str i) (xs.map V.str) = decide (i ∈ xs)
  | [] => by simp [inV]
  | x :: xs => by
    have ih := inV_strs i xs
    unfold inV at ih ⊢
    rw [List.map_cons, List.any_cons, ih]
    have e : eqV (.str x) (.str i) = decide (i = x) := by
      by_cases c : x = i
      · subst c; simp [eqV]
      · have c2 : ¬ i = x := fun z => c z.symm
        simp [eqV, c, c2]
    rw [e]
    by_cases c : i = x <;> simp [c]
theorem flat_strs (xs : List Str) : (xs.map V.str).all flatV = true := by
  rw [List.all_eq_true]
  intro v hv
  obtain ⟨x, _, rfl⟩ := List.mem_map.mp hv
  rfl
theorem o_inT : Op2 K (rIn K false) inTG := fun H O x y dx dy res Q tr rx ry q k => by
  obtain ⟨b, hb, q2⟩ := Option.bind_eq_some_iff.mp q
  cases q2
  obtain ⟨i, xs, rfl, rfl, rfl⟩ := inTB_cases hb
  obtain ⟨a, vs, rfl, sq, r⟩ := ry.tup
  have := r.strs
  subst this
  have ex := rx.str
  subst ex
  refine ⟨a, _, rfl, .inr sq.sq, rfl, flat_strs xs, ?_⟩
  show Q (.bl (inV (.str i) (xs.map V.str))) H
  rw [inV_strs]
  exact k _ H (.same (.bl _))
theorem o_notInT : Op2 K (rIn K true) notInTG := fun H O x y dx dy res Q tr rx ry q k => by
  obtain ⟨b, hb, q2⟩ := Option.bind_eq_some_iff.mp q
  cases q2
  obtain ⟨i, xs, rfl, rfl, rfl⟩ := inTB_cases hb
  obtain ⟨a, vs, rfl, sq, r⟩ := ry.tup
  have := r.strs
  subst this
  have ex := rx.str
  subst ex
  refine ⟨a, _, rfl, .inr sq.sq, rfl, flat_strs xs, ?_⟩
  show Q (.bl (!inV (.str i) (xs.map V.str))) H
  rw [inV_strs]
  exact k _ H (.same (.bl _))
end
end DV
end
section
set_option Elab.async false
set_option linter.all false
set_option maxRecDepth 100000
set_option maxHeartbeats 4000000
namespace DV
open PySem PySem.Spec PyProof.Rows L2
/-! ### slices of lists, tuples, strs -/
def slG2 (x : D) (lo hi : Option Int) : Option Rs := match x with
  | .list ds => some (.fr (.list (cutL ds lo hi)))
  | .tuple ds => some (.fz (.tuple (cutL ds lo hi)))
  | .str z => if z.length ≤ 100000 then some (.fz (.str (L2.cutS z lo hi))) else none
  | _ => none
def slcM2 (fa : M Rs) (fl fh : M (Option Int)) : M Rs := bnd fa fun a => bnd fl fun lo => bnd fh fun hi => bnd (rdM a) fun x => opt (slG2 x lo hi)
@[simp] theorem slcM2_ap (e : En) (fa : M Rs) (fl fh : M (Option Int)) : slcM2 fa fl fh e = bnd fa (fun a => bnd fl fun lo => bnd fh fun hi => bnd (rdM a) fun x => opt (slG2 x lo hi)) e := rfl
def rSlAll2 (K : KW) : V → Option Int → Option Int → Hp → VK → Prop := fun x lo hi H Q => rSlAll K x lo hi H Q ∨ rSlS x lo hi H Q
section
variable {X : Cx} {K : KW}
theorem tE_slc2 {fa : M Rs} {fl fh : M (Option Int)} : ∀ σ H Q, tE K (slcM2 fa fl fh) σ H Q → tSl (rSlAll2 K) (tE K fa) (tO K fl) (tO K fh) σ H Q := by
  rintro σ H Q ⟨γ, e, Z, res, e', R, h, k⟩
  obtain ⟨ra, e1, h1, ha⟩ := bnd_eq h
  obtain ⟨lo, e2, h2, hb⟩ := bnd_eq ha
  obtain ⟨hi, e3, h3, hc⟩ := bnd_eq hb
  obtain ⟨x, e4, h4, hd⟩ := bnd_eq hc
  obtain ⟨q1, rfl⟩ := rdM_eq h4
  obtain ⟨q2, rfl⟩ := opt_eq hd
  refine ⟨γ, e, Z, ra, e1, R, h1, fun v H1 kp sh P => ?_⟩
  obtain ⟨Z1, h01, hf, R1, A1⟩ := P.one
  refine ⟨γ, e1, Z1, lo, e2, R1, h2, fun H2 kp2 sh2 R2 => ⟨γ, e2, Z1, hi, _, R2, h3, fun H3 kp3 sh3 R3 => ?_⟩⟩
  have kp23 := kp2.trans sh2 kp3
  have sh23 := sh2.trans sh3
  have A3 := A1.keep R1 R3 kp23 sh23 (fun _ z => z) (fun _ z => .inl z)
  have rd := A3.rd R3 q1
  have fin : ∀ {r : Rs} {v : V} {H4 : Hp}, r = res → Gr K H3 (Hid γ e'.ρ σ Z1) r v H4 → Q v H4 := fun {r v H4} er g => by
    subst er
    obtain ⟨kp4, P4⟩ := g.pst R3
    exact k v H4 ((kp.trans sh kp23).trans (sh.trans sh23) kp4) (sh.trans sh23) (Pst.next (rs0 := []) (xs0 := []) (kp.trans sh kp23) h01 hf P4)
  cases x with
  | list ds =>
    cases q2
    obtain ⟨a, xs, rfl, sq, r⟩ := rd.lst
    exact .inl (.inl ⟨a, xs, rfl, sq, fun p hp => fin rfl (.lst (Same.refl H3) hp r.cut)⟩)
  | tuple ds =>
    cases q2
    obtain ⟨a, xs, rfl, sq, r⟩ := rd.tup
    refine .inl (.inr ⟨a, xs, rfl, sq.sq, fun hw => ?_, fun _ p o hp hd => fin rfl (.tup (Same.refl H3) hp hd r.cut)⟩)
    have e5 : cutL ds lo hi = ds := by
      unfold cutL
      rw [← r.length, hw.1, hw.2]
      simp [r.length]
    rw [e5] at fin
    exact fin rfl (.same (.tup sq r))
  | str z =>
    have q3 : (if z.length ≤ 100000 then some (Rs.fz (.str (L2.cutS z lo hi))) else none) = some res := q2
    split at q3
    · rename_i hz
      cases q3
      have ex := rd.str
      refine .inr ⟨z, ex, le100000 hz, fin rfl (.same (.str _))⟩
    · cases q3
  | _ => cases q2
theorem de_slc2 {e : Expr} {lo hi : Option Expr} {f : M Rs} {fl fh : M (Option Int)} {pos p2 : Pos} (he : PE X e (tE X.KW f)) (hl : PO X lo (tO X.KW fl)) (hh : PO X hi (tO X.KW fh)) : PE X (.Subscript e (.Slice lo hi none p2) pos) (tE X.KW (slcM2 f fl fh)) :=
  PE.weak (pe_slice ((sl_list.or sl_tupZ).or sl_str) he hl hh) tE_slc2
end
end DV
end
section
set_option Elab.async false
set_option linter.all false
set_option maxRecDepth 100000
set_option maxHeartbeats 4000000
namespace DV
open PySem PySem.Spec PyProof.Rows L2
/-! ### names forgotten behind a turn -/
def kill1 (i : Nat) (ρ : List (Option Sl)) : List (Option Sl) := match ρ[i]? with
  | some (some (.bo _)) => ρ
  | _ => ρ.set i none
def killR : List Nat → List (Option Sl) → List (Option Sl)
  | [], ρ => ρ
  | i :: is, ρ => killR is (kill1 i ρ)
def killE (is : List Nat) (e : En) : En := ⟨killR is e.ρ, e.μ⟩
def kilM (is : List Nat) (f : M Fl) : M Fl := fun e => match f e with
  | some (.nx, e1) => some (.nx, killE is e1)
  | some (.ct, e1) => some (.ct, killE is e1)
  | o => o
structure Less (a b : List (Option Sl)) : Prop where
  ln : a.length = b.length
  sl : ∀ (i : Nat) (s : Sl), a[i]? = some (some s) → b[i]? = some (some s)
  bo : ∀ (i : Nat) (d : D), b[i]? = some (some (Sl.bo d)) → a[i]? = some (some (Sl.bo d))
theorem Less.refl (a : List (Option Sl)) : Less a a := ⟨rfl, fun _ _ h => h, fun _ _ h => h⟩
theorem Less.trans {a b c : List (Option Sl)} (x : Less a b) (y : Less b c) : Less a c := ⟨x.ln.trans y.ln, fun i s h => y.sl i s (x.sl i s h), fun i d h => x.bo i d (y.bo i d h)⟩
theorem less1 (i : Nat) (ρ : List (Option Sl)) : Less (kill1 i ρ) ρ := by
  have key : (∀ d, ρ[i]? ≠ some (some (Sl.bo d))) → Less (ρ.set i none) ρ := fun nb => by
    refine ⟨by simp, fun j s h => ?_, fun j d h => ?_⟩
    · by_cases e : i = j
      · subst e
        rw [List.getElem?_set] at h
        simp at h
      · rwa [List.getElem?_set_ne e] at h
    · by_cases e : i = j
      · subst e; exact absurd h (nb d)
      · rwa [List.getElem?_set_ne e]
  unfold kill1
  split
  · exact Less.refl ρ
  · rename_i h
    exact key fun d z => h d z
theorem lessR : ∀ (is : List Nat) (ρ : List (Option Sl)), Less (killR is ρ) ρ
  | [], ρ => Less.refl ρ
  | i :: is, ρ => (lessR is _).trans (less1 i ρ)
section
variable {X : Cx} {K : KW} {γ γ' : List Addr} {e e0 : En} {σ σ' : L2.St} {H H' : Hp} {Z : Addr → Prop} {ρ' : List (Option Sl)}
theorem Less.mut {a b : List (Option Sl)} (l : Less a b) {x : Addr} (h : MutA a σ x) : MutA b σ x := let ⟨i, s, h1, m, h2⟩ := h; ⟨i, s, l.sl i s h1, m, h2⟩
theorem Less.own {a b : List (Option Sl)} (l : Less a b) {x : Addr} (h : OwnA a σ x) : OwnA b σ x := let ⟨i, s, h1, h2⟩ := h; ⟨i, s, l.sl i _ h1, h2⟩
theorem Rep.less (R : Rep K γ e σ H Z) (l : Less ρ' e.ρ) : Rep K γ ⟨ρ', e.μ⟩ σ H Z where
  len := R.len.trans l.ln.symm
  slot := fun i s h => by
    obtain ⟨v, hv, ok⟩ := R.slot i s (l.sl i s h)
    exact ⟨v, hv, ok.stay (stay_refl fun a o _ z => z.imp l.mut id) fun _ _ _ o ho => ho⟩
  mu := fun i s a h m h2 => R.mu i s a (l.sl i s h) m h2
  own := fun i d a h h2 j s h3 m h4 => R.own i d a (l.sl i _ h) h2 j s (l.sl j s h3) m h4
  cl := R.cl
  nd := R.nd
  cell := R.cell
  cz := R.cz
  zt := R.zt
theorem Stp.less (s : Stp γ e σ H γ' e0 σ' H') (l : Less ρ' e0.ρ) : Stp γ e σ H γ' ⟨ρ', e0.μ⟩ σ' H' where
  pre := s.pre
  nw := s.nw
  st := s.st
  th := s.th
  mu := fun a h => s.mu a (l.mut h)
  ow := fun a h => s.ow a (l.own h)
  bo := fun i d h => ⟨l.bo i d (s.bo i d h).1, (s.bo i d h).2⟩
  bb := fun i d h => s.bb i d (l.sl i _ h)
  ln := l.ln.trans s.ln
theorem tS_kil {is : List Nat} {f : M Fl} : ∀ D σ H, tS K (kilM is f) D σ H → tS K f D σ H := by
  rintro D σ H ⟨γ, e, Z, fl, e', R, h, k⟩
  have h' : (match f e with
    | some (.nx, e1) => some (Fl.nx, killE is e1)
    | some (.ct, e1) => some (.ct, killE is e1)
    | o => o) = some (fl, e') := h
  cases q : f e with
  | none => rw [q] at h'; cases h'
  | some p =>
    obtain ⟨fl1, e1⟩ := p
    rw [q] at h'
    cases fl1 with
    | nx =>
      cases h'
      exact ⟨γ, e, Z, .nx, e1, R, q, fun γ' σ' H' s R' => k γ' σ' H' (s.less (lessR is e1.ρ)) (R'.less (lessR is e1.ρ))⟩
    | ct =>
      cases h'
      exact ⟨γ, e, Z, .ct, e1, R, q, fun γ' σ' H' s R' => k γ' σ' H' (s.less (lessR is e1.ρ)) (R'.less (lessR is e1.ρ))⟩
    | bk => cases h'; exact ⟨γ, e, Z, .bk, e', R, q, k⟩
    | rt r => cases h'; exact ⟨γ, e, Z, .rt r, e', R, q, k⟩
theorem dss_kil {is : List Nat} {b : List Stmt} {f : M Fl} (h : PSs X b (tS X.KW f)) : PSs X b (tS X.KW (kilM is f)) := PSs.weak h tS_kil
end
end DV
end
section
set_option Elab.async false
set_option linter.all false
set_option maxRecDepth 100000
set_option maxHeartbeats 4000000
namespace DV
open PySem PySem.Spec PyProof.Rows L2
/-! ### repr of any datum without dicts -/
section
variable {X : Cx} {K : KW}
def rReprA (K : KW) : List V → Hp → VK → Prop := fun xs H Q => ∃ (v : V) (d : D), xs = [v] ∧ Dp K H v d ∧ d.layable0 = true ∧ d.intsShort 13 = true ∧ d.showable = true ∧ Q (.str d.shown) H
theorem cr_reprA (hg : X.A.guards = some []) (hu : X.A.units + 70 < cLine) : CallR X (.builtin "repr") (rReprA X.KW) := by
  intro pins s σ H xs us Q I r h
  obtain ⟨v, d, rfl, dp, hl, hi, hs, q⟩ := h
  obtain ⟨u, rfl, rx⟩ := vals1 r
  have hl' : (PyData.canLay0 d && decide (PyData.depth d ≤ 64) && decide (PyData.weight d ≤ 2 ^ 20)) = true := hl
  simp only [Bool.and_eq_true, decide_eq_true_eq] at hl'
  have h64 := hl'.1.2
  have hz : d.shown.length ≤ sizeLine := by have := shown_le13 hl hi; rw [sizeLine_eq]; omega
  have ref : ∀ a, v = .ref a → wpAny (model X.prog X.w) X.A (call (.builtin "repr") [u]) (EP X pins σ Q) X.xe s := fun a e => by
    subst e
    cases rx
    obtain ⟨as, rd⟩ := Dp.reads I d _ _ dp (show RelV (.ref a) (.ref a) from rfl)
    exact repr_of_reads' rd hs (PyData.noDict_hsm (PyData.hasDict_of_layable hl)) hg (by omega) (fun _ _ e => e) (fun h' u tk hk => ⟨.str d.shown, H, I.kept hk, ⟨_, rfl⟩, q⟩) hz
  cases dp with
  | non => cases rx; exact PySem.P.repr_of_none ⟨.str _, H, I.tok _, ⟨_, rfl⟩, q⟩
  | bl b => cases rx; exact PySem.P.repr_of_bool ⟨.str _, H, I.tok _, ⟨_, rfl⟩, by cases b <;> exact q⟩
  | int i =>
    obtain ⟨t, rfl⟩ := rx
    exact PySem.P.repr_of_int (by simpa [PyData.showable] using hs) ⟨.str _, H, I.tok _, ⟨_, rfl⟩, q⟩
  | str x =>
    obtain ⟨t, rfl⟩ := rx
    exact PySem.P.repr_of_str ⟨.str _, H, I.tok _, ⟨_, rfl⟩, q⟩ hz
  | lst => exact ref _ rfl
  | tup => exact ref _ rfl
def reprA (d : D) : Option Rs := if d.layable0 = true ∧ d.intsShort 13 = true ∧ d.showable = true then strR d.shown else none
theorem o_reprA : OpN K (rReprA K) (g1 reprA) := OpN.one fun H O x d res Q tr rx q k => by
  unfold reprA at q
  split at q
  · rename_i c
    cases q
    exact ⟨x, d, rfl, rx.dp (can_of_lay c.1), c.1, c.2.1, c.2.2, k _ H (.same (.str _))⟩
  · cases q
end
end DV
end
section
set_option Elab.async false
set_option linter.all false
set_option maxRecDepth 100000
set_option maxHeartbeats 4000000
namespace DV
open PySem PySem.Spec PyProof.Rows L2
abbrev Mu := List (Int × Int)
/-! ### what holds behind a word -/
def Wp {α : Type} (o : Option (α × En)) (Q : α → En → Prop) : Prop := ∃ a e, o = some (a, e) ∧ Q a e
theorem Wp_congr {α : Type} {o o' : Option (α × En)} {Q : α → En → Prop} (h : o = o') : Wp o Q = Wp o' Q := by rw [h]
section
variable {α β : Type} {e : En}
@[simp] theorem Wp_some {a : α} {Q : α → En → Prop} : Wp (some (a, e)) Q ↔ Q a e := ⟨fun ⟨_, _, h, q⟩ => by cases h; exact q, fun q => ⟨a, e, rfl, q⟩⟩
@[simp] theorem Wp_none {Q : α → En → Prop} : Wp none Q ↔ False := ⟨fun h => (by obtain ⟨_, _, h, _⟩ := h; cases h), fun q => q.elim⟩
@[simp] theorem Wp_bnd {f : M α} {g : α → M β} {Q : β → En → Prop} : Wp (bnd f g e) Q ↔ Wp (f e) (fun a e1 => Wp (g a e1) Q) := by
  constructor
  · rintro ⟨b, e2, h, q⟩
    obtain ⟨a, e1, h1, h2⟩ := bnd_eq h
    exact ⟨a, e1, h1, b, e2, h2, q⟩
  · rintro ⟨a, e1, h1, b, e2, h2, q⟩
    refine ⟨b, e2, ?_, q⟩
    unfold bnd; rw [h1]; exact h2
@[simp] theorem Wp_map {f : α × En → β × En} {o : Option (α × En)} {Q : β → En → Prop} : Wp (o.map f) Q ↔ Wp o (fun a e1 => Q (f (a, e1)).1 (f (a, e1)).2) := by
  constructor
  · rintro ⟨b, e2, h, q⟩
    obtain ⟨⟨a, e1⟩, h1, h2⟩ := Option.map_eq_some_iff.mp h
    exact ⟨a, e1, h1, by show Q (f (a, e1)).1 (f (a, e1)).2; rw [h2]; exact q⟩
  · rintro ⟨a, e1, rfl, q⟩
    exact ⟨_, _, rfl, q⟩
theorem Wp.imp {o : Option (α × En)} {Q R : α → En → Prop} (h : Wp o Q) (k : ∀ a e, Q a e → R a e) : Wp o R := let ⟨a, e, h1, h2⟩ := h; ⟨a, e, h1, k a e h2⟩
/-- behind a statement: on to the next one -/
def nxt (k : En → Prop) (Q : Fl → En → Prop) : Fl → En → Prop
  | .nx, e => k e
  | .bk, e => Q .bk e
  | .ct, e => Q .ct e
  | .rt r, e => Q (.rt r) e
@[simp] theorem nxt_nx {k : En → Prop} {Q : Fl → En → Prop} : nxt k Q .nx e = k e := rfl
@[simp] theorem nxt_bk {k : En → Prop} {Q : Fl → En → Prop} : nxt k Q .bk e = Q .bk e := rfl
@[simp] theorem nxt_ct {k : En → Prop} {Q : Fl → En → Prop} : nxt k Q .ct e = Q .ct e := rfl
@[simp] theorem nxt_rt {r : Rs} {k : En → Prop} {Q : Fl → En → Prop} : nxt k Q (.rt r) e = Q (.rt r) e := rfl
@[simp] theorem Wp_seqM {f g : M Fl} {Q : Fl → En → Prop} : Wp (seqM f g e) Q ↔ Wp (f e) (nxt (fun e1 => Wp (g e1) Q) Q) := by
  unfold seqM
  constructor
  · rintro ⟨fl, e2, h, q⟩
    cases c : f e with
    | none => rw [c] at h; cases h
    | some p =>
      obtain ⟨fl1, e1⟩ := p
      rw [c] at h
      cases fl1 with
      | nx => exact ⟨.nx, e1, rfl, fl, e2, h, q⟩
      | bk => cases h; exact ⟨_, _, rfl, q⟩
      | ct => cases h; exact ⟨_, _, rfl, q⟩
      | rt r => cases h; exact ⟨_, _, rfl, q⟩
  · rintro ⟨fl1, e1, h, q⟩
    rw [h]
    cases fl1 with
    | nx => obtain ⟨fl, e2, h2, q2⟩ := q; exact ⟨fl, e2, h2, q2⟩
    | bk => exact ⟨_, _, rfl, q⟩
    | ct => exact ⟨_, _, rfl, q⟩
    | rt r => exact ⟨_, _, rfl, q⟩
@[simp] theorem kilM_ap (is : List Nat) (f : M Fl) : kilM is f e = match f e with
  | some (.nx, e1) => some (.nx, killE is e1)
  | some (.ct, e1) => some (.ct, killE is e1)
  | o => o := rfl
@[simp] theorem killE_ap (is : List Nat) (ρ : List (Option Sl)) (μ : Mu) : killE is ⟨ρ, μ⟩ = ⟨killR is ρ, μ⟩ := rfl
@[simp] theorem killR_nil (ρ : List (Option Sl)) : killR [] ρ = ρ := rfl
@[simp] theorem killR_cons (i : Nat) (is : List Nat) (ρ : List (Option Sl)) : killR (i :: is) ρ = killR is (kill1 i ρ) := rfl
@[simp] theorem kill1_ap (i : Nat) (ρ : List (Option Sl)) : kill1 i ρ = match ρ[i]? with
  | some (some (.bo _)) => ρ
  | _ => ρ.set i none := rfl
def kfl (is : List Nat) (Q : Fl → En → Prop) : Fl → En → Prop
  | .nx, e => Q .nx (killE is e)
  | .bk, e => Q .bk e
  | .ct, e => Q .ct (killE is e)
  | .rt r, e => Q (.rt r) e
@[simp] theorem kfl_nx {is : List Nat} {Q : Fl → En → Prop} : kfl is Q .nx e = Q .nx (killE is e) := rfl
@[simp] theorem kfl_bk {is : List Nat} {Q : Fl → En → Prop} : kfl is Q .bk e = Q .bk e := rfl
@[simp] theorem kfl_ct {is : List Nat} {Q : Fl → En → Prop} : kfl is Q .ct e = Q .ct (killE is e) := rfl
@[simp] theorem kfl_rt {r : Rs} {is : List Nat} {Q : Fl → En → Prop} : kfl is Q (.rt r) e = Q (.rt r) e := rfl
theorem Wp_kilM {is : List Nat} {f : M Fl} {Q : Fl → En → Prop} : Wp (kilM is f e) Q ↔ Wp (f e) (kfl is Q) := by
  unfold kilM
  constructor
  · rintro ⟨fl, e2, h, q⟩
    cases c : f e with
    | none => rw [c] at h; cases h
    | some p =>
      obtain ⟨fl1, e1⟩ := p
      rw [c] at h
      cases fl1 with
      | nx => cases h; exact ⟨.nx, e1, rfl, q⟩
      | bk => cases h; exact ⟨_, _, rfl, q⟩
      | ct => cases h; exact ⟨_, _, rfl, q⟩
      | rt r => cases h; exact ⟨_, _, rfl, q⟩
  · rintro ⟨fl1, e1, h, q⟩
    rw [h]
    cases fl1 with
    | nx => exact ⟨_, _, rfl, q⟩
    | bk => exact ⟨_, _, rfl, q⟩
    | ct => exact ⟨_, _, rfl, q⟩
    | rt r => exact ⟨_, _, rfl, q⟩
/-! loops -/
/-- one turn, by what is left -/
def turn (I : En → Prop) (Q : Fl → En → Prop) : Fl → En → Prop
  | .nx, e => I e
  | .ct, e => I e
  | .bk, e => Q .nx e
  | .rt r, e => Q (.rt r) e
@[simp] theorem turn_nx {I : En → Prop} {Q : Fl → En → Prop} : turn I Q .nx e = I e := rfl
@[simp] theorem turn_ct {I : En → Prop} {Q : Fl → En → Prop} : turn I Q .ct e = I e := rfl
@[simp] theorem turn_bk {I : En → Prop} {Q : Fl → En → Prop} : turn I Q .bk e = Q .nx e := rfl
@[simp] theorem turn_rt {r : Rs} {I : En → Prop} {Q : Fl → En → Prop} : turn I Q (.rt r) e = Q (.rt r) e := rfl
theorem Wp_forL_cons {t : D → M Unit} {b : M Fl} {d : D} {ds : List D} {Q : Fl → En → Prop} (h : Wp (bnd (t d) (fun _ => b) e) (turn (fun e1 => Wp (forL t b ds e1) Q) Q)) : Wp (forL t b (d :: ds) e) Q := by
  obtain ⟨fl, e2, h, q⟩ := h
  obtain ⟨u, e1, h1, h2⟩ := bnd_eq h
  have key : forL t b (d :: ds) e = match b e1 with
      | some (.nx, e2) => forL t b ds e2
      | some (.ct, e2) => forL t b ds e2
      | some (.bk, e2) => some (.nx, e2)
      | some (.rt r, e2) => some (.rt r, e2)
      | none => none := by
    show (match t d e with
    | some (_, e1) => match b e1 with
      | some (.nx, e2) => forL t b ds e2
      | some (.ct, e2) => forL t b ds e2
      | some (.bk, e2) => some (.nx, e2)
      | some (.rt r, e2) => some (.rt r, e2)
      | none => none
    | none => none) = _
    rw [h1]
  rw [key, h2]
  cases fl with
  | nx => exact q
  | ct => exact q
  | bk => exact ⟨_, _, rfl, q⟩
  | rt r => exact ⟨_, _, rfl, q⟩
@[simp] theorem forL_nil' {t : D → M Unit} {b : M Fl} : forL t b [] e = some (.nx, e) := rfl
theorem Wp_forL {t : D → M Unit} {b : M Fl} {Q : Fl → En → Prop} (I : List D → En → Prop) : ∀ (ds : List D) (e : En), I ds e → (∀ d ds e, I (d :: ds) e → Wp (bnd (t d) (fun _ => b) e) (turn (I ds) Q)) → (∀ e, I [] e → Q .nx e) → Wp (forL t b ds e) Q
  | [], e, h, _, z => ⟨_, _, rfl, z e h⟩
  | d :: ds, e, h, k, z => Wp_forL_cons ((k d ds e h).imp fun fl e1 q => by
      cases fl with
      | nx => exact Wp_forL I ds e1 q k z
      | ct => exact Wp_forL I ds e1 q k z
      | bk => exact q
      | rt r => exact q)
/-- a loop that is a fold -/
theorem forL_fold {t : D → M Unit} {b : M Fl} {β γ : Type} (f : γ → D) (G : β → γ → β) (E : β → En) (J : β → List γ → Prop) (h : ∀ s x xs, J s (x :: xs) → bnd (t (f x)) (fun _ => b) (E s) = some (.nx, E (G s x)) ∧ J (G s x) xs) :
    ∀ (xs : List γ) (s : β), J s xs → forL t b (xs.map f) (E s) = some (.nx, E (xs.foldl G s))
  | [], s, _ => rfl
  | x :: xs, s, j => by
    obtain ⟨h1, h2⟩ := h s x xs j
    rw [List.map_cons, forL_next h1, forL_fold f G E J h xs _ h2]; rfl
/-- a loop that looks for a bad item -/
theorem forL_all {t : D → M Unit} {b : M Fl} {γ : Type} (f : γ → D) (p : γ → Bool) (r : Rs) (hn : ∀ x, p x = true → bnd (t (f x)) (fun _ => b) e = some (.nx, e)) (e2 : En) (hb : ∀ x, p x = false → bnd (t (f x)) (fun _ => b) e = some (.rt r, e2)) :
    ∀ xs : List γ, forL t b (xs.map f) e = if xs.all p = true then some (.nx, e) else some (.rt r, e2)
  | [] => rfl
  | x :: xs => by
    cases c : p x with
    | true => rw [List.map_cons, forL_next (hn x c), forL_all f p r hn e2 hb xs]; simp [c]
    | false =>
      have h := hb x c
      obtain ⟨u, e1, h1, h2⟩ := bnd_eq h
      rw [List.map_cons]
      show (match t (f x) e with
        | some (_, e1) => match b e1 with
          | some (.nx, e2) => forL t b (xs.map f) e2
          | some (.ct, e2) => forL t b (xs.map f) e2
          | some (.bk, e2) => some (.nx, e2)
          | some (.rt r, e2) => some (.rt r, e2)
          | none => none
        | none => none) = _
      rw [h1]
      simp only
      rw [h2]
      simp [c]
end
/-! comprehensions, relational -/
theorem Wp_lcR {own : List Nat} {t : D → M Unit} {c : M Bool} {el : M Rs} {ds : List D} {lk : Option Nat} {ρ : List (Option Sl)} {μ : Mu} {Q : Rs → En → Prop} (I : Mu → Prop) (Pd : D → D → Prop) (hl : lockable lk ⟨ρ, μ⟩ = true) (hp : plainO own (lock1 lk ⟨ρ, μ⟩) = true) (ok : I μ)
    (hb : ∀ d ∈ ds, ∀ μ1, I μ1 → Wp (lcW own t c el d ⟨wipeR (lock1 lk ⟨ρ, μ⟩).ρ own, μ1⟩) (fun o e => ∃ y μ2, o = some y ∧ e = ⟨wipeR (lock1 lk ⟨ρ, μ⟩).ρ own, μ2⟩ ∧ I μ2 ∧ Pd d y))
    (k : ∀ xs μ', I μ' → All2 Pd ds xs → Q (.fr (.list xs)) ⟨ρ, μ'⟩) : Wp (lcR own t c el (ds, lk) ⟨ρ, μ⟩) Q := by
  obtain ⟨xs, μ', h1, ok1, p1⟩ := lcL_rel (ρw := wipeR (lock1 lk ⟨ρ, μ⟩).ρ own) (own := own) (t := t) (c := c) (el := el) I Pd ds μ ok (fun d hd μ1 i1 => by
    obtain ⟨o, e, h, y, μ2, rfl, rfl, i2, p⟩ := hb d hd μ1 i1
    exact ⟨y, μ2, h, i2, p⟩)
  refine ⟨_, _, ?_, k xs μ' ok1 p1⟩
  unfold lcR
  rw [if_pos ⟨hl, hp⟩]
  have em : (lock1 lk ⟨ρ, μ⟩).μ = μ := lock_mu
  have e1 : wipeE own (lock1 lk ⟨ρ, μ⟩) = ⟨wipeR (lock1 lk ⟨ρ, μ⟩).ρ own, μ⟩ := by show (⟨_, (lock1 lk ⟨ρ, μ⟩).μ⟩ : En) = _; rw [em]
  show (lcL own t c el ds (wipeE own (lock1 lk ⟨ρ, μ⟩))).map _ = _
  rw [e1, h1]
  simp only [Option.map_some]
  show some (Rs.fr (.list xs), unlock1 lk (⟨backR (lock1 lk ⟨ρ, μ⟩).ρ (wipeR (lock1 lk ⟨ρ, μ⟩).ρ own) own, μ'⟩ : En)) = _
  rw [backR_wipe, unlock_lock hl]
/-! functions -/
def Sp (o : Option (Rs × Mu)) (Q : Rs → Mu → Prop) : Prop := ∃ r μ, o = some (r, μ) ∧ Q r μ
def outQ (m : Nat) (Q : Rs → Mu → Prop) : Fl → En → Prop
  | .rt (.fz d), e => Q (.fz d) (e.μ.take m)
  | .rt (.fr d), e => Q (.fr d) (e.μ.take m)
  | .nx, e => Q (.fz .none) (e.μ.take m)
  | _, _ => False
@[simp] theorem outQ_fz {m : Nat} {Q : Rs → Mu → Prop} {d : D} {e : En} : outQ m Q (.rt (.fz d)) e = Q (.fz d) (e.μ.take m) := rfl
@[simp] theorem outQ_fr {m : Nat} {Q : Rs → Mu → Prop} {d : D} {e : En} : outQ m Q (.rt (.fr d)) e = Q (.fr d) (e.μ.take m) := rfl
@[simp] theorem outQ_nx {m : Nat} {Q : Rs → Mu → Prop} {e : En} : outQ m Q .nx e = Q (.fz .none) (e.μ.take m) := rfl
theorem Sp_fn {np n : Nat} {b : M Fl} {ss : List Sl} {μ : Mu} {Q : Rs → Mu → Prop} (h1 : ss.length = np) (h2 : ss.all (fun s => !s.isOw) = true) (h : Wp (b ⟨ss.map some ++ List.replicate (n - np) none, μ⟩) (outQ μ.length Q)) : Sp (fnOf np n b ss μ) Q := by
  obtain ⟨fl, e, h, q⟩ := h
  rw [fnOf_ap, if_pos ⟨h1, h2⟩, h]
  cases fl with
  | nx => exact ⟨_, _, rfl, q⟩
  | bk => exact q.elim
  | ct => exact q.elim
  | rt r =>
    cases r with
    | fz d => exact ⟨_, _, rfl, q⟩
    | fr d => exact ⟨_, _, rfl, q⟩
    | sl i => exact q.elim
theorem Sp.fz {F : Fn} {ss : List Sl} {ρ : List (Option Sl)} {μ : Mu} {P : D → Mu → Prop} {Q : Rs → En → Prop} (h : Sp (F ss μ) (fun r μ' => ∃ d, r = .fz d ∧ P d μ')) (k : ∀ d μ', P d μ' → Q (.fz d) ⟨ρ, μ'⟩) : Wp (cal F ss ⟨ρ, μ⟩) Q := by
  obtain ⟨r, μ', h1, d, rfl, h2⟩ := h
  exact ⟨_, _, cal_fz h1, k d μ' h2⟩
theorem Sp.fr {F : Fn} {ss : List Sl} {ρ : List (Option Sl)} {μ : Mu} {P : D → Mu → Prop} {Q : Rs → En → Prop} (h : Sp (F ss μ) (fun r μ' => ∃ d, r = .fr d ∧ P d μ')) (k : ∀ d μ', P d μ' → Q (.fr d) ⟨ρ, μ'⟩) : Wp (cal F ss ⟨ρ, μ⟩) Q := by
  obtain ⟨r, μ', h1, d, rfl, h2⟩ := h
  exact ⟨_, _, cal_fr h1, k d μ' h2⟩
theorem Sp.imp {o : Option (Rs × Mu)} {Q R : Rs → Mu → Prop} (h : Sp o Q) (k : ∀ r μ, Q r μ → R r μ) : Sp o R := let ⟨a, e, h1, h2⟩ := h; ⟨a, e, h1, k a e h2⟩
theorem Sp.eq {o : Option (Rs × Mu)} {r : Rs} {μ : Mu} (h : Sp o (fun r' μ' => r' = r ∧ μ' = μ)) : o = some (r, μ) := by obtain ⟨r', μ', h, rfl, rfl⟩ := h; exact h
theorem tkμ {μ μ' : Mu} (h : μ'.length = μ.length) : μ'.take μ.length = μ' := List.take_of_length_le (by omega)
end DV
end
section
set_option Elab.async false
set_option linter.all false
set_option maxRecDepth 100000
set_option maxHeartbeats 1000000
namespace DV
open PySem PySem.Spec PyProof.Rows L2
/-! ### enumerate(x), zip(x, y): lists and tuples; the pairs bear no dict of their own -/
/-- k: is it a tuple? -/
def SqK (K : PySem.W.Frag) (k : Bool) (H : Hp) (a : Addr) (xs : List V) : Prop := match k with
  | true => SqT K H a xs
  | false => SqL K H a xs
def StK (k : Bool) (h : Heap) (a : Addr) (us : Array Value) : Prop := match k with
  | true => h.IsTuple a us
  | false => h.IsList a us
def ItK (k : Bool) (h : Heap) (it a : Addr) (i : Nat) : Prop := match k with
  | true => h.IsTupleIter it a i
  | false => h.IsListIter it a i
def itO (k : Bool) (a : Addr) : Obj := match k with
  | true => { cls := .type "tuple_iterator", data := .fields #[.ref a, .int 0 0] }
  | false => { cls := .type "list_iterator", data := .fields #[.ref a, .int 0 0] }
section
variable {X : Cx} {pins : List (Addr × Obj)} {σ : L2.St} {H : Hp} {s : Shared} {k : Bool} {a it : Addr} {xs ys : List V} {h h' : Heap} {i : Nat}
theorem SqK.inv (I : Inv X pins σ H s) (q : SqK X.K k H a xs) : ∃ us : List Value, Vals xs us ∧ StK k s.heap a us.toArray ∧ xs.length ≤ sizeLine := by
  cases k with
  | true => obtain ⟨us, rel, st, room⟩ := I.tuple q; exact ⟨us, rel, st, room⟩
  | false => obtain ⟨us, rel, st, room⟩ := I.list q; exact ⟨us, rel, st.isList, room⟩
theorem SqK.inj (I : Inv X pins σ H s) (q : SqK X.K k H a xs) (q' : SqK X.K k H a ys) : xs = ys := by
  cases k with
  | true => exact I.tuple_inj q q'
  | false => exact I.list_inj q q'
theorem drawsK {prog : Program} {w : World} {A : Around} (calm : A.handled = none) (k : Bool) (it a : Addr) (ne : a ≠ it) (us : Array Value) :
    Draws prog w A it [it, a] us.size (fun i v => us[i]? = some v) (fun i h => ItK k h it a i ∧ StK k h a us) := by
  cases k with
  | true => exact Draws.tuple calm it a ne us
  | false => exact Draws.list calm it a ne us
theorem beginsK (k : Bool) (a : Addr) (us : Array Value) : Begins (.ref a) (itO k a) fun h => StK k h a us := by
  cases k with
  | true => exact begins_tuple a us
  | false => exact begins_list a us
theorem ItK.first (e : h.get? it = some (itO k a)) : ItK k h it a 0 := by
  cases k with
  | true => exact ⟨_, e, rfl, rfl⟩
  | false => exact ⟨_, e, rfl, rfl⟩
theorem ItK.live (q : ItK k h it a i) : ∃ o, h.get? it = some o ∧ ∀ v, o.data ≠ .cell v := by
  cases k with
  | true => obtain ⟨o, e, _, d⟩ := q; exact ⟨o, e, fun v z => by rw [d] at z; cases z⟩
  | false => obtain ⟨o, e, _, d⟩ := q; exact ⟨o, e, fun v z => by rw [d] at z; cases z⟩
theorem ItK.over (q : ItK k h it a i) (st : ∀ o, h.get? it = some o → h'.get? it = some o) : ItK k h' it a i := by
  cases k with
  | true => exact Heap.IsTupleIter.at q st
  | false => exact Heap.IsListIter.at q st
theorem StK.some (q : StK k h a us) : ∃ o, h.get? a = some o := by
  cases k with
  | true => obtain ⟨o, e, _⟩ := q; exact ⟨o, e⟩
  | false => obtain ⟨o, e, _⟩ := q; exact ⟨o, e⟩
end
/-- the walk: the number of the turn and the item that stands there -/
def ItE (K : PySem.W.Frag) (k : Bool) (a : Addr) : It where
  go i H := ∃ (xs : List V) (x : V), SqK K k H a xs ∧ xs[i]? = some x
  yld i H v H' := ∃ (T : Addr) (o : Obj) (x : V), v = .ref T ∧ H T = none ∧ o.dict = none ∧ H' = upd H T (.frz o (.tup [.int (i : Nat), x])) ∧ ∀ xs, SqK K k H a xs → xs[i]? = some x
  stop i H := ∃ xs : List V, SqK K k H a xs ∧ xs.length = i
/-- two things side by side -/
def ItZ (K : PySem.W.Frag) (k l : Bool) (a b : Addr) : It where
  go i H := ∃ (xs ys : List V) (x y : V), SqK K k H a xs ∧ SqK K l H b ys ∧ xs[i]? = some x ∧ ys[i]? = some y
  yld i H v H' := ∃ (T : Addr) (o : Obj) (x y : V), v = .ref T ∧ H T = none ∧ o.dict = none ∧ H' = upd H T (.frz o (.tup [x, y])) ∧ (∀ xs, SqK K k H a xs → xs[i]? = some x) ∧ ∀ ys, SqK K l H b ys → ys[i]? = some y
  stop i H := ∃ xs ys : List V, SqK K k H a xs ∧ SqK K l H b ys ∧ i = min xs.length ys.length
section
variable {P : Program} {w : World} {K : PySem.W.Frag} {elts : List Expr} {kk : Nat} {tpos : Pos}
/-- a new pair is laid while own cells have turned -/
theorem pairNew {X : Cx} {pins : List (Addr × Obj)} {σ : L2.St} {H : Hp} {s : Shared} {h : Heap} {tk : Nat} {ch : List Addr} {x y : V} {u v : Value} (I : Inv X pins σ H s)
    (kept : ∀ b o, b ∉ ch → s.heap.get? b = some o → h.get? b = some o) (hf : ∀ b ∈ ch, FpOk X pins H b) (rx : RelV x u) (ry : RelV y v)
    (at_ : h.get? s.heap.objs.size = some { cls := .type "tuple", data := .seq #[u, v] }) :
    Inv X pins σ (upd H s.heap.objs.size (.frz { cls := .type "tuple", data := .seq #[u, v] } (.tup [x, y]))) { s with heap := h, toks := tk } :=
  I.turnedNew (ch := ch) kept hf (Nat.le_refl _) ⟨at_, (by show 2 ≤ sizeLine; decide), [u, v], .cons rx (.cons ry .nil), ⟨_, at_, rfl, _, rfl⟩⟩
theorem turn_enumK (k : Bool) (a e it : Addr) (ei : e ≠ it) (ai : a ≠ it) (ae : e ≠ a) :
    Turn P w K (.Tuple elts kk tpos) (ItE K k a) [e, it] e (fun i h => (∃ old, IsEnum h e it ((i : Nat) : Int) old) ∧ ItK k h it a i) where
  mem := List.mem_cons_self ..
  obj := fun i h ⟨⟨_, he⟩, hi⟩ b hb => by
    rcases List.mem_cons.mp hb with z | z
    · subst z; exact ⟨_, he, fun v q => nomatch q⟩
    · rw [List.mem_singleton.mp z]; exact hi.live
  keep := fun i h h' ⟨⟨old, he⟩, hi⟩ keeps => ⟨⟨old, keeps e (by simp) _ he⟩, hi.over (keeps it (by simp))⟩
  item := by
    intro X eP ew eK calm i pins s σ H E I hf st hg
    subst eP ew eK
    obtain ⟨⟨old, he⟩, hi⟩ := st
    obtain ⟨xs, x, hq, hx⟩ := hg
    obtain ⟨us, rel, hs, _⟩ := hq.inv I
    obtain ⟨u, hu, ru⟩ := rel.get hx
    have lt : i < us.toArray.size := by
      rcases Nat.lt_or_ge i us.length with c | c
      · simpa using c
      · rw [List.getElem?_eq_none c] at hu; cases hu
    have old_e : e < s.heap.objs.size := Heap.lt_size he
    have old_i : it < s.heap.objs.size := by obtain ⟨_, q, _⟩ := hi.live; exact Heap.lt_size q
    refine wpAny_pyNext_enum_itemD (drawsK (A := X.A.in1) (I.ok.hd calm) k it a ai us.toArray) he ⟨hi, hs⟩ lt ei (by simp [ei, ae]) fun v h1 tk hv out hi1 pair size keeps => ?_
    have ev : v = u := by
      have hv' : us[i]? = some v := by simpa using hv
      rw [hu] at hv'; exact (Option.some.inj hv').symm
    subst ev
    refine ⟨_, rfl, wpAny_letOwnedTupleGo_enum (s := { s with heap := h1, toks := tk + 1 }) out fun h2 he2 same => ?_⟩
    have at2 := (same.2 _ (Nat.ne_of_gt old_e)).trans pair
    have I2 := pairNew (tk := tk + 1) (ch := [e, it]) (x := .int (i : Nat)) I (fun b o hb q => (same.2 b fun z => hb (by simp [z])).trans (keeps b o (fun z => hb (by simp [z])) (fun z => hb (by simp [z])) q)) hf ⟨_, rfl⟩ ru at2
    refine ⟨.ref s.heap.objs.size, _, I2, rfl, ⟨_, _, x, rfl, I.hok.fresh (Nat.le_refl _), rfl, rfl, fun zs hz => by rw [hz.inj I hq]; exact hx⟩, ⟨⟨v, by simpa using he2⟩, hi1.1.over fun o q => (same.2 it (Ne.symm ei)).trans q⟩, fun b hb => ?_⟩
    have young : b < s.heap.objs.size := by
      rcases List.mem_cons.mp hb with z | z
      · rw [z]; exact old_e
      · rw [List.mem_singleton.mp z]; exact old_i
    rw [upd_ne (Nat.ne_of_lt young)]
    exact (hf b hb).1
  done := by
    intro X eP ew eK calm i pins s σ H E I hf st hg
    subst eP ew eK
    obtain ⟨⟨old, he⟩, hi⟩ := st
    obtain ⟨xs, hq, rfl⟩ := hg
    obtain ⟨us, rel, hs, _⟩ := hq.inv I
    obtain ⟨f0, f1, f2, f3, f4, f5⟩ := hf it (by simp)
    have n : xs.length = us.toArray.size := by simp [rel.length]
    rw [n] at hi
    exact wpAny_pyNext_enum_endD (drawsK (A := X.A.in1) (I.ok.hd calm) k it a ai us.toArray) he ⟨hi, hs⟩ fun h' eb => ⟨rfl, I.turned (t' := s.toks) (fun b o hb q => eb b o hb q) f0 f1 f3 f4 f5⟩
  self := fun A i s Q E ⟨⟨_, he⟩, _⟩ q => wpAny_pyIter_enum he q
theorem turn_zipK (k l : Bool) (a b z TI TO i1 i2 : Addr) (S : ZipSep2 z TI TO i1 i2 [i1, a] [i2, b]) (na : a ≠ i1) (nb : b ≠ i2) :
    Turn P w K (.Tuple elts kk tpos) (ItZ K k l a b) [z, TI, TO, i1, i2] z
      (fun i h => IsZip h z TI TO .none ∧ IsTupOf2 h TI (.ref i1) (.ref i2) ∧ (∃ x y, IsTupOf2 h TO x y) ∧ ItK k h i1 a i ∧ ItK l h i2 b i) where
  mem := List.mem_cons_self ..
  obj := fun i h ⟨hz, hI, ⟨_, _, hO⟩, h1, h2⟩ c hc => by
    have which : c = z ∨ c = TI ∨ c = TO ∨ c = i1 ∨ c = i2 := by simpa using hc
    rcases which with rfl | rfl | rfl | rfl | rfl
    · exact ⟨_, hz, fun v q => nomatch q⟩
    · exact ⟨_, hI, fun v q => nomatch q⟩
    · exact ⟨_, hO, fun v q => nomatch q⟩
    · exact h1.live
    · exact h2.live
  keep := fun i h h' ⟨hz, hI, ⟨x, y, hO⟩, h1, h2⟩ keeps =>
    ⟨keeps z (by simp) _ hz, keeps TI (by simp) _ hI, ⟨x, y, keeps TO (by simp) _ hO⟩, h1.over (keeps i1 (by simp)), h2.over (keeps i2 (by simp))⟩
  item := by
    intro X eP ew eK calm i pins s σ H E I hf st hg
    subst eP ew eK
    obtain ⟨hz, hI, ⟨x0, y0, hO⟩, h1, h2⟩ := st
    obtain ⟨xs, ys, x, y, qx, qy, hx, hy⟩ := hg
    obtain ⟨us, rel, hs, _⟩ := qx.inv I
    obtain ⟨vs, rel', hs', _⟩ := qy.inv I
    obtain ⟨u, hu, ru⟩ := rel.get hx
    obtain ⟨v, hv, rv⟩ := rel'.get hy
    have lt : i < us.toArray.size := by
      rcases Nat.lt_or_ge i us.length with c | c
      · simpa using c
      · rw [List.getElem?_eq_none c] at hu; cases hu
    have lt' : i < vs.toArray.size := by
      rcases Nat.lt_or_ge i vs.length with c | c
      · simpa using c
      · rw [List.getElem?_eq_none c] at hv; cases hv
    have old_z : z < s.heap.objs.size := Heap.lt_size hz
    refine wpAny_pyNext_zipD2_item S (drawsK (A := X.A.in1) (I.ok.hd calm) k i1 a na us.toArray) (drawsK (A := X.A.in1) (I.ok.hd calm) l i2 b nb vs.toArray) hz hI hO ⟨h1, hs⟩ ⟨h2, hs'⟩ lt lt' fun v1 v2 h3 tk e1 e2 z3 O3 s1 s2 pair size keeps => ?_
    have ev : v1 = u := by
      have e1' : us[i]? = some v1 := by simpa using e1
      rw [hu] at e1'; exact (Option.some.inj e1').symm
    have ew : v2 = v := by
      have e2' : vs[i]? = some v2 := by simpa using e2
      rw [hv] at e2'; exact (Option.some.inj e2').symm
    subst ev ew
    refine ⟨_, rfl, wpAny_letOwnedTupleGo_zip (s := { s with heap := h3, toks := tk }) z3 fun h4 z4 same => ?_⟩
    have at2 := (same.2 _ (Nat.ne_of_gt old_z)).trans pair
    have I2 := pairNew (tk := tk) (ch := [z, TI, TO, i1, i2]) I (fun c o hb q => (same.2 c fun e => hb (by simp [e])).trans (keeps c o (fun e => hb (by simp [e])) (fun e => hb (by simp [e])) (fun e => hb (by simp [e])) (fun e => hb (by simp [e])) q)) hf ru rv at2
    refine ⟨.ref s.heap.objs.size, _, I2, rfl, ⟨_, _, x, y, rfl, I.hok.fresh (Nat.le_refl _), rfl, rfl, fun l1 hl => by rw [hl.inj I qx]; exact hx, fun l1 hl => by rw [hl.inj I qy]; exact hy⟩, ⟨z4, ?_, ⟨v1, v2, ?_⟩, ?_, ?_⟩, fun c hc => ?_⟩
    · exact (same.2 _ S.TIz).trans (keeps _ _ S.TIz S.TITO S.TIi1 S.TIi2 hI)
    · exact (same.2 _ S.TOz).trans O3
    · exact s1.1.over fun o q => (same.2 _ (Ne.symm S.zi1)).trans q
    · exact s2.1.over fun o q => (same.2 _ (Ne.symm S.zi2)).trans q
    · have young : c < s.heap.objs.size := by
        have which : c = z ∨ c = TI ∨ c = TO ∨ c = i1 ∨ c = i2 := by simpa using hc
        rcases which with rfl | rfl | rfl | rfl | rfl
        · exact old_z
        · exact Heap.lt_size hI
        · exact Heap.lt_size hO
        · obtain ⟨_, q, _⟩ := h1.live; exact Heap.lt_size q
        · obtain ⟨_, q, _⟩ := h2.live; exact Heap.lt_size q
      rw [upd_ne (Nat.ne_of_lt young)]
      exact (hf c hc).1
  done := by
    intro X eP ew eK calm i pins s σ H E I hf st hg
    subst eP ew eK
    obtain ⟨hz, hI, ⟨x0, y0, hO⟩, h1, h2⟩ := st
    obtain ⟨xs, ys, qx, qy, ei⟩ := hg
    obtain ⟨us, rel, hs, _⟩ := qx.inv I
    obtain ⟨vs, rel', hs', _⟩ := qy.inv I
    have n := rel.length
    have n' := rel'.length
    refine wpAny_pyNext_zipD2_end S (drawsK (A := X.A.in1) (I.ok.hd calm) k i1 a na us.toArray) (drawsK (A := X.A.in1) (I.ok.hd calm) l i2 b nb vs.toArray) hz hI hO ⟨h1, hs⟩ ⟨h2, hs'⟩
      (by simp only [List.size_toArray]; omega) (by simp only [List.size_toArray]; omega) (by simp only [List.size_toArray]; omega) fun h' tk keeps => ⟨rfl, ?_⟩
    exact I.turnedL (t' := tk) (ch := [z, TI, TO, i1, i2]) (fun c o hb q => keeps c o (fun e => hb (by simp [e])) (fun e => hb (by simp [e])) (fun e => hb (by simp [e])) (fun e => hb (by simp [e])) q) hf
  self := fun A i s Q E ⟨hz, _⟩ q => wpAny_pyIter_zip hz q
end
/-! ### as sources -/
/-- each item with its number -/
def enumL (n : Nat) : List D → List D
  | [] => []
  | d :: ds => .tuple [.int (n : Nat), d] :: enumL (n + 1) ds
/-- items side by side, as long as both last -/
def zipL : List D → List D → List D
  | a :: as, b :: bs => .tuple [a, b] :: zipL as bs
  | _, _ => []
theorem enumL_len : ∀ (n : Nat) (ds : List D), (enumL n ds).length = ds.length
  | _, [] => rfl
  | n, d :: ds => by simp [enumL, enumL_len (n + 1) ds]
theorem enumL_get : ∀ (n : Nat) (ds : List D) (i : Nat) {d : D}, (enumL n ds)[i]? = some d → ∃ c, ds[i]? = some c ∧ d = .tuple [.int ((n + i : Nat) : Int), c]
  | _, [], i, d, h => by simp [enumL] at h
  | n, c :: ds, 0, d, h => by simp [enumL] at h; exact ⟨c, rfl, h.symm⟩
  | n, c :: ds, i + 1, d, h => by
    obtain ⟨x, hx, e⟩ := enumL_get (n + 1) ds i (d := d) (by simpa [enumL] using h)
    have n1 : n + 1 + i = n + (i + 1) := by omega
    exact ⟨x, by simpa using hx, by rw [e, n1]⟩
theorem zipL_len : ∀ (ds es : List D), (zipL ds es).length = min ds.length es.length
  | [], es => by simp [zipL]
  | _ :: _, [] => by simp [zipL]
  | _ :: ds, _ :: es => by simp only [zipL, List.length_cons, zipL_len ds es]; omega
theorem zipL_get : ∀ (ds es : List D) (i : Nat) {d : D}, (zipL ds es)[i]? = some d → ∃ a b, ds[i]? = some a ∧ es[i]? = some b ∧ d = .tuple [a, b]
  | [], _, _, _, h => by simp [zipL] at h
  | _ :: _, [], _, _, h => by simp [zipL] at h
  | a :: _, b :: _, 0, d, h => by simp [zipL] at h; exact ⟨a, b, rfl, rfl, h.symm⟩
  | _ :: ds, _ :: es, i + 1, d, h => by
    obtain ⟨a, b, ha, hb, e⟩ := zipL_get ds es i (d := d) (by simpa [zipL] using h)
    exact ⟨a, b, by simpa using ha, by simpa using hb, e⟩
def lstOf : D → Option (List D)
  | .list ds => some ds
  | .tuple ds => some ds
  | _ => none
def enumS (fs : M (List D)) : Src := bnd fs fun ds => match ds with
  | [d] => match lstOf d with
    | some xs => ret (enumL 0 xs, none)
    | none => noM
  | _ => noM
def zipS (fs : M (List D)) : Src := bnd fs fun ds => match ds with
  | [d, c] => match lstOf d, lstOf c with
    | some xs, some ys => ret (zipL xs ys, none)
    | _, _ => noM
  | _ => noM
def SqKo (K : KW) (k : Bool) (H : Hp) (O : Addr → Prop) (a : Addr) (xs : List V) : Prop := match k with
  | true => SqTo K H O a xs
  | false => SqLo K H O a xs
section
variable {K : KW} {H H' : Hp} {O O' : Addr → Prop} {a b : Addr} {k l : Bool} {xs ys : List V} {ds es : List D}
theorem SqKo.sq (h : SqKo K k H O a xs) : SqK K k H a xs := by
  cases k with
  | true => exact SqTo.sq h
  | false => exact SqLo.sq h
theorem SqKo.stay (s : Stay H H' O O') (h : SqKo K k H O a xs) : SqKo K k H' O' a xs := by
  cases k with
  | true => exact SqTo.stay s h
  | false => exact SqLo.stay s h
theorem seqK {v : V} {d : D} (h : Rp K H O v d) (e : lstOf d = some ds) : ∃ a k xs, v = .ref a ∧ SqKo K k H O a xs ∧ RpL K H O xs ds := by
  cases d with
  | list zs => cases e; cases h with | lst q r => exact ⟨_, false, _, rfl, q, r⟩
  | tuple zs => cases e; cases h with | tup q r => exact ⟨_, true, _, rfl, q, r⟩
  | _ => cases e
theorem stay_new {T : Addr} {o : HO} (new : H T = none) : Stay H (upd H T o) O O := fun b x e n => ⟨same_upd new b x e, n⟩
theorem pairOk {T : Addr} {o : Obj} {x y : V} {c d : D} (tr : ∀ a, O a → ∃ o, H a = some o) (new : H T = none) (nd : o.dict = none) (rx : Rp K H O x c) (ry : Rp K H O y d) :
    Rp K (upd H T (.frz o (.tup [x, y]))) O (.ref T) (.tuple [c, d]) := by
  refine .tup (.inl ⟨⟨o, upd_same, nd⟩, fun z => ?_⟩) (.cons (Rp.stay (stay_new new) c rx) (.cons (Rp.stay (stay_new new) d ry) .nil))
  obtain ⟨u, e⟩ := tr T z
  rw [new] at e; cases e
theorem wk_enum (room : ds.length ≤ sizeLine) : Wk K (ItE K k a) (enumL 0 ds) [] fun H O => SqKo K k H O a xs ∧ RpL K H O xs ds where
  go := fun i H O p hi => ⟨xs, xs[i]'(by rw [p.2.length]; simpa [enumL_len] using hi), p.1.sq, List.getElem?_eq_getElem _⟩
  yl := fun i H O v H' d p tr hd ⟨T, o, x, ev, new, nd, e, hx⟩ => by
    obtain ⟨c, hc, rfl⟩ := enumL_get 0 ds i hd
    subst ev e
    refine ⟨same_upd new, pairOk tr new nd ?_ (p.2.yl hc (hx xs p.1.sq))⟩
    rw [Nat.zero_add]; exact .int _
  st := fun H O p => ⟨xs, p.1.sq, by rw [enumL_len]; exact p.2.length⟩
  kp := fun H H' O O' p s _ => ⟨p.1.stay s, p.2.stay s⟩
  nd := fun _ _ _ p hp => by cases hp
  ln := by rw [enumL_len]; exact room
theorem wk_zip (room : ds.length ≤ sizeLine) : Wk K (ItZ K k l a b) (zipL ds es) [] fun H O => (SqKo K k H O a xs ∧ RpL K H O xs ds) ∧ SqKo K l H O b ys ∧ RpL K H O ys es where
  go := fun i H O p hi => by
    rw [zipL_len] at hi
    exact ⟨xs, ys, xs[i]'(by rw [p.1.2.length]; omega), ys[i]'(by rw [p.2.2.length]; omega), p.1.1.sq, p.2.1.sq, List.getElem?_eq_getElem _, List.getElem?_eq_getElem _⟩
  yl := fun i H O v H' d p tr hd ⟨T, o, x, y, ev, new, nd, e, hx, hy⟩ => by
    obtain ⟨c, c', hc, hc', rfl⟩ := zipL_get ds es i hd
    subst ev e
    exact ⟨same_upd new, pairOk tr new nd (p.1.2.yl hc (hx xs p.1.1.sq)) (p.2.2.yl hc' (hy ys p.2.1.sq))⟩
  st := fun H O p => ⟨xs, ys, p.1.1.sq, p.2.1.sq, by rw [zipL_len, p.1.2.length, p.2.2.length]⟩
  kp := fun H H' O O' p s _ => ⟨⟨p.1.1.stay s, p.1.2.stay s⟩, p.2.1.stay s, p.2.2.stay s⟩
  nd := fun _ _ _ p hp => by cases hp
  ln := by rw [zipL_len]; omega
end
/-- what enumerate(t) lays, t a tuple -/
abbrev enH1 (h : Heap) (a : Addr) : Heap := h.push (itO true a)
abbrev enH2 (h : Heap) (a : Addr) : Heap := (enH1 h a).push { cls := .type "enumerate", data := .fields #[.none, .bool false, .ref h.objs.size, rawInt 0, .none, .none] }
open AutoSeq1 (wpAny_loadPart') in
theorem enum_new_tup (a : Addr) (us : Array Value) (n : Nat) (dct : Option Addr) (sl : Array (Option Value)) :
    Meets (Builtin.«enumerate.__new__» ⟨[.type "enumerate", .ref a], []⟩) (fun _ R s => s.heap.get? a = some { cls := .type "tuple", dict := dct, data := .seq us n, slots := sl } ∧
      R (.ok (.ret (.ref (enH1 s.heap a).objs.size))) { s with heap := enH2 s.heap a }) := by
  refine .of_wp fun prog w A R s given => ?_
  cases s
  rename_i hp gens drawn tk os
  obtain ⟨ha, goal⟩ := given
  have known := sub_enumerate
  have asTuple : Heap.IsTuple (Shared.heap ⟨hp, gens, drawn, tk, os⟩) a us := ⟨_, ha, rfl, n, rfl⟩
  wp_walk using wpAny_loadPart' ha
  refine wpAny_stack_any fun st => wpAny_pure ?_
  split
  next c _ _ _ _ _ =>
    cases (c == Value.type "enumerate") <;>
      (wp_walk using wpAny_loadPart' ha, wpAny_pyIter_tuple asTuple
       exact ⟨_, rfl, goal⟩)
  next =>
    wp_walk using wpAny_loadPart' ha, wpAny_pyIter_tuple asTuple
    exact ⟨_, rfl, goal⟩
theorem enum_call {prog : Program} {w : World} {A : Around} {E : Value → Shared → Prop} {s : Shared} {k : Bool} {a : Addr} {us : Array Value} {Q : Value → Shared → Prop} (hs : StK k s.heap a us)
    (cont : ∀ h', IsEnum h' (s.heap.objs.size + 1) s.heap.objs.size 0 .none → ItK k h' s.heap.objs.size a 0 → h'.objs.size = s.heap.objs.size + 2 →
      (∀ b o, s.heap.get? b = some o → h'.get? b = some o) → Q (.ref (s.heap.objs.size + 1)) { s with heap := h' }) :
    wpAny (model prog w) A (call (.type "enumerate") [.ref a]) Q E s := by
  cases k with
  | false => exact call_enumerate_list hs cont
  | true =>
    obtain ⟨⟨c, dct, dt, sl⟩, ha, c1, n, c2⟩ := hs
    obtain rfl : c = .type "tuple" := c1
    obtain rfl : dt = .seq us n := c2
    refine callType_new F.called_enumerate (by decide) (F.typeCall_enumerate_1 _) (F.newCall_enumerate_1 _) (fun obj => F.args_object_init_2 obj _) F.entry_enumerate_new (enum_new_tup a us n dct sl) ⟨ha, ?_⟩
    have size1 : (enH1 s.heap a).objs.size = s.heap.objs.size + 1 := Heap.size_push ..
    have last := Heap.get?_push_size (enH1 s.heap a) (o := { cls := .type "enumerate", data := .fields #[.none, .bool false, .ref s.heap.objs.size, rawInt 0, .none, .none] }) rfl
    show _ ∧ _
    rw [size1] at last ⊢
    exact ⟨⟨_, last, rfl⟩, cont _ last (.first (Heap.get?_push_of_some _ (Heap.get?_push_size _ rfl))) (by rw [Heap.size_push, size1]) fun b o q => Heap.get?_push_of_some _ (Heap.get?_push_of_some _ q)⟩
section
variable {X : Cx} {elts : List Expr} {kk : Nat} {tpos : Pos}
theorem di_enum {a : Expr} {fs : M (List D)} {p pos : Pos} (hm : X.mg "enumerate" = none) (ha : PA X [a] (tF X.KW fs)) (hg : Gl X "enumerate" := by rfl) (hs : starEach [a] X.env = [(false, eval a X.env)] := by rfl) :
    PI X (.Tuple elts kk tpos) (.Call (.Name "enumerate" p) [a] [] pos) (tI X.KW (enumS fs)) := by
  refine ⟨fun pins s σ H R I want => ?_⟩
  obtain ⟨γ, e, Z, ds, lk, e', Rr, hq, hlk, cont⟩ := want
  obtain ⟨cs, e1, h1, h2⟩ := bnd_eq hq
  have shape : ∃ d xs, cs = [d] ∧ lstOf d = some xs ∧ ds = enumL 0 xs ∧ lk = none ∧ e' = e1 := by
    match cs, h2 with
    | [d], h2 =>
      cases q : lstOf d with
      | none => simp only [q] at h2; cases h2
      | some xs => simp only [q] at h2; cases h2; exact ⟨d, xs, rfl, q, rfl, rfl, rfl⟩
    | [], h2 => cases h2
    | _ :: _ :: _, h2 => cases h2
  obtain ⟨d, es, rfl, hd, rfl, rfl, rfl⟩ := shape
  refine Call_ (ld_blt I hg hm boot_enumerate (PyProof.Rows.callWith_type1 (thn (ha.run pos pins s σ H
    (fun vs H1 => Kp γ e.ρ σ H H1 ∧ Sh e e' ∧ ∃ Z' : Addr → Prop, (∀ a, Z a → Z' a) ∧ (∀ a, Z' a → Z a ∨ H a = none) ∧ Rep X.KW γ e' σ H1 Z' ∧ RpL X.KW H1 (Hid γ e'.ρ σ Z') vs [d]) I ?_) fun us s1 ⟨vs, H1, I1, r1, q1⟩ => ?_) hs rfl))
  · exact ⟨γ, e, Z, [d], e', Rr, h1, fun vs H1 kp sh P => ⟨kp, sh, P⟩⟩
  · obtain ⟨kp, sh, Z1, h01, hf, R1, rl⟩ := q1
    cases rl with
    | cons rp rn =>
      cases rn
      obtain ⟨a0, k, xs, rfl, sq, items⟩ := seqK rp hd
      cases r1 with
      | cons r rr =>
        cases rr
        cases r
        obtain ⟨us, rel, hst, room⟩ := sq.sq.inv I1
        obtain ⟨oa, hoa⟩ := hst.some
        have old_a : a0 < s1.heap.objs.size := Heap.lt_size hoa
        refine enum_call hst fun h' he hit size keeps => wpAny_pyIter_enum he ?_
        have I2 : Inv X pins σ H1 { s1 with heap := h' } := I1.kept (t' := s1.toks) keeps
        refine ⟨s1.heap.objs.size + 1, [s1.heap.objs.size + 1, s1.heap.objs.size], _, _, H1, rfl, I2, turn_enumK k a0 (s1.heap.objs.size + 1) s1.heap.objs.size (Nat.succ_ne_self _) (Nat.ne_of_lt old_a) (Nat.ne_of_gt (Nat.lt_succ_of_lt old_a)), ⟨⟨.none, he⟩, hit⟩, fun b hb => ?_, ?_⟩
        · have hge : s1.heap.objs.size ≤ b := by
            rcases List.mem_cons.mp hb with z | z
            · rw [z]; exact Nat.le_succ _
            · rw [List.mem_singleton.mp z]; exact Nat.le_refl _
          exact I1.fpOk hge (I1.hok.fresh hge)
        · exact cont _ H1 kp sh ⟨Z1, h01, hf, R1, [], _, wk_enum (by rw [← items.length]; exact room), ⟨sq, items⟩, fun p hp => by cases hp⟩
theorem di_zip {a b : Expr} {fs : M (List D)} {p pos : Pos} (hm : X.mg "zip" = none) (ha : PA X [a, b] (tF X.KW fs)) (hg : Gl X "zip" := by rfl) (hs : starEach [a, b] X.env = (false, eval a X.env) :: starEach [b] X.env := by rfl) (hp : (backTo pos (starEach [b] X.env)).any (·.1) = false := by rfl) :
    PI X (.Tuple elts kk tpos) (.Call (.Name "zip" p) [a, b] [] pos) (tI X.KW (zipS fs)) := by
  refine ⟨fun pins s σ H R I want => ?_⟩
  obtain ⟨γ, e, Z, ds, lk, e', Rr, hq, hlk, cont⟩ := want
  obtain ⟨cs, e1, h1, h2⟩ := bnd_eq hq
  have shape : ∃ d c xs ys, cs = [d, c] ∧ lstOf d = some xs ∧ lstOf c = some ys ∧ ds = zipL xs ys ∧ lk = none ∧ e' = e1 := by
    match cs, h2 with
    | [d, c], h2 =>
      cases q : lstOf d with
      | none => simp only [q] at h2; cases h2
      | some xs =>
        cases q' : lstOf c with
        | none => simp only [q, q'] at h2; cases h2
        | some ys => simp only [q, q'] at h2; cases h2; exact ⟨d, c, xs, ys, rfl, q, q', rfl, rfl, rfl⟩
    | [], h2 => cases h2
    | [_], h2 => cases h2
    | _ :: _ :: _ :: _, h2 => cases h2
  obtain ⟨d, c, es, fs', rfl, hd, hc, rfl, rfl, rfl⟩ := shape
  refine Call_ (ld_blt I hg hm boot_zip (PyProof.Rows.callWith_type1 (thn (ha.run pos pins s σ H
    (fun vs H1 => Kp γ e.ρ σ H H1 ∧ Sh e e' ∧ ∃ Z' : Addr → Prop, (∀ a, Z a → Z' a) ∧ (∀ a, Z' a → Z a ∨ H a = none) ∧ Rep X.KW γ e' σ H1 Z' ∧ RpL X.KW H1 (Hid γ e'.ρ σ Z') vs [d, c]) I ?_) fun us s1 ⟨vs, H1, I1, r1, q1⟩ => ?_) hs hp))
  · exact ⟨γ, e, Z, [d, c], e', Rr, h1, fun vs H1 kp sh P => ⟨kp, sh, P⟩⟩
  · obtain ⟨kp, sh, Z1, h01, hf, R1, rl⟩ := q1
    cases rl with
    | cons rp rn =>
      cases rn with
      | cons rp' rn =>
        cases rn
        obtain ⟨a0, k, xs, rfl, sq, items⟩ := seqK rp hd
        obtain ⟨b0, l, ys, rfl, sq', items'⟩ := seqK rp' hc
        cases r1 with
        | cons r rr =>
          cases rr with
          | cons r' rr =>
            cases rr
            cases r; cases r'
            obtain ⟨us, rel, hst, room⟩ := sq.sq.inv I1
            obtain ⟨vs, rel', hst', room'⟩ := sq'.sq.inv I1
            obtain ⟨oa, hoa⟩ := hst.some
            obtain ⟨ob, hob⟩ := hst'.some
            have old_a : a0 < s1.heap.objs.size := Heap.lt_size hoa
            have old_b : b0 < s1.heap.objs.size := Heap.lt_size hob
            refine zip_begins2 (beginsK k a0 us.toArray) (beginsK l b0 vs.toArray) hst hst' fun h' hz hI hO it1 it2 size keeps => wpAny_pyIter_zip hz ?_
            have I2 : Inv X pins σ H1 { s1 with heap := h' } := I1.kept (t' := s1.toks) keeps
            have S : ZipSep2 (s1.heap.objs.size + 4) (s1.heap.objs.size + 2) (s1.heap.objs.size + 3) s1.heap.objs.size (s1.heap.objs.size + 1) [s1.heap.objs.size, a0] [s1.heap.objs.size + 1, b0] :=
              zip_sep2 (fp1 := [a0]) (fp2 := [b0]) (fun x hx => by rw [List.mem_singleton.mp hx]; exact old_a) (fun x hx => by rw [List.mem_singleton.mp hx]; exact old_b)
            refine ⟨s1.heap.objs.size + 4, [s1.heap.objs.size + 4, s1.heap.objs.size + 2, s1.heap.objs.size + 3, s1.heap.objs.size, s1.heap.objs.size + 1], _, _, H1, rfl, I2,
              turn_zipK k l a0 b0 _ _ _ _ _ S (Nat.ne_of_lt old_a) (Nat.ne_of_lt (Nat.lt_succ_of_lt old_b)), ⟨hz, hI, ⟨_, _, hO⟩, .first it1, .first it2⟩, fun x hx => ?_, ?_⟩
            · have hge : s1.heap.objs.size ≤ x := by
                have which : x = s1.heap.objs.size + 4 ∨ x = s1.heap.objs.size + 2 ∨ x = s1.heap.objs.size + 3 ∨ x = s1.heap.objs.size ∨ x = s1.heap.objs.size + 1 := by simpa using hx
                rcases which with e | e | e | e | e <;> rw [e] <;> first | exact Nat.le_refl _ | exact Nat.le_add_right _ _
              exact I1.fpOk hge (I1.hok.fresh hge)
            · exact cont _ H1 kp sh ⟨Z1, h01, hf, R1, [], _, wk_zip (by rw [← items.length]; exact room), ⟨⟨sq, items⟩, sq', items'⟩, fun p hp => by cases hp⟩
end
/-! ### running them -/
section
variable {fs : M (List D)} {e e1 : En}
@[simp] theorem lstOf_list (ds : List D) : lstOf (.list ds) = some ds := rfl
@[simp] theorem lstOf_tuple (ds : List D) : lstOf (.tuple ds) = some ds := rfl
@[simp] theorem enumS_ap : enumS fs e = bnd fs (fun ds => match ds with
  | [d] => match lstOf d with
    | some xs => ret (enumL 0 xs, none)
    | none => noM
  | _ => noM) e := rfl
@[simp] theorem zipS_ap : zipS fs e = bnd fs (fun ds => match ds with
  | [d, c] => match lstOf d, lstOf c with
    | some xs, some ys => ret (zipL xs ys, none)
    | _, _ => noM
  | _ => noM) e := rfl
end
end DV
end
section
set_option Elab.async false
set_option linter.all false
set_option maxRecDepth 100000
namespace DV
open PySem PySem.Spec PyProof.Rows L2
/-! ### x is True, x is not True (or False) -/
/-- is it this truth value? -/
def isB (d : D) (b : Bool) : Bool := match d with
  | .bool c => c == b
  | _ => false
def isBG (x y : D) : Option Rs := match y with
  | .bool b => boolR (isB x b)
  | _ => none
def isntBG (x y : D) : Option Rs := match y with
  | .bool b => boolR (!isB x b)
  | _ => none
section
variable {X : Cx} {K : KW}
theorem RpR.isB {H : Hp} {O : Addr → Prop} {v : V} {d : D} (h : RpR K H O v d) (b : Bool) : decide (v = .bl b) = DV.isB d b := by
  rcases h with h | ⟨a, rfl, ⟨_, _, e, _⟩ | ⟨_, _, e, _⟩ | ⟨_, _, e, _⟩⟩
  · cases h <;> first | rfl | (rename_i c; cases c <;> cases b <;> rfl)
  · subst e; rfl
  · subst e; rfl
  · subst e; rfl
theorem RpR.bool {H : Hp} {O : Addr → Prop} {v : V} {b : Bool} (h : RpR K H O v (.bool b)) : v = .bl b := by
  rcases h with h | ⟨a, _, ⟨_, _, e, _⟩ | ⟨_, _, e, _⟩ | ⟨_, _, e, _⟩⟩
  · cases h; rfl
  · cases e
  · cases e
  · cases e
theorem op_isB : OpR X (compareOp .Is) (fun x y H Q => ∃ b, y = .bl b ∧ Q (.bl (decide (x = .bl b))) H) := by
  rintro pins s σ H x y v u Q I rx ry ⟨b, rfl, q⟩
  cases ry
  show wpAny _ _ ((isSame v (Value.bool b)) >>= fun z => pure (Value.bool z)) _ _ s
  have go : ∀ t, plainIs v (.bool b) = true → (v == Value.bool b) = t → decide (x = .bl b) = t → wpAny (model X.prog X.w) X.A (isSame v (.bool b) >>= fun z => pure (Value.bool z)) (EP X pins σ Q) X.xe s := fun t p e e' =>
    wpAny_bind (wpAny_isSame_plain p (by rw [e]; exact wpAny_pure (fin_bl I q e')))
  cases x with
  | ref a => cases rx; exact go false rfl rfl (by simp)
  | non => cases rx; exact go false rfl rfl (by simp)
  | bl c => cases rx; exact go (c == b) rfl (by cases c <;> cases b <;> rfl) (by cases c <;> cases b <;> simp)
  | int i => obtain ⟨t, rfl⟩ := rx; exact go false rfl rfl (by simp)
  | str x => obtain ⟨t, rfl⟩ := rx; exact go false rfl rfl (by simp)
  | byt x => obtain ⟨t, rfl⟩ := rx; exact go false rfl rfl (by simp)
  | flt x => obtain ⟨t, rfl⟩ := rx; exact go false rfl rfl (by simp)
  | ty n => cases rx; exact go false rfl rfl (by simp)
theorem op_isntB : OpR X (compareOp .IsNot) (fun x y H Q => ∃ b, y = .bl b ∧ Q (.bl (!decide (x = .bl b))) H) := by
  rintro pins s σ H x y v u Q I rx ry ⟨b, rfl, q⟩
  cases ry
  show wpAny _ _ ((isSame v (Value.bool b)) >>= fun z => pure (Value.bool (!z))) _ _ s
  have go : ∀ t, plainIs v (.bool b) = true → (v == Value.bool b) = t → decide (x = .bl b) = t → wpAny (model X.prog X.w) X.A (isSame v (.bool b) >>= fun z => pure (Value.bool (!z))) (EP X pins σ Q) X.xe s := fun t p e e' =>
    wpAny_bind (wpAny_isSame_plain p (by rw [e]; exact wpAny_pure (fin_bl I q (by rw [e']))))
  cases x with
  | ref a => cases rx; exact go false rfl rfl (by simp)
  | non => cases rx; exact go false rfl rfl (by simp)
  | bl c => cases rx; exact go (c == b) rfl (by cases c <;> cases b <;> rfl) (by cases c <;> cases b <;> simp)
  | int i => obtain ⟨t, rfl⟩ := rx; exact go false rfl rfl (by simp)
  | str x => obtain ⟨t, rfl⟩ := rx; exact go false rfl rfl (by simp)
  | byt x => obtain ⟨t, rfl⟩ := rx; exact go false rfl rfl (by simp)
  | flt x => obtain ⟨t, rfl⟩ := rx; exact go false rfl rfl (by simp)
  | ty n => cases rx; exact go false rfl rfl (by simp)
theorem o_isB : Op2 K (fun x y H Q => ∃ b, y = .bl b ∧ Q (.bl (decide (x = .bl b))) H) isBG := fun H O x y dx dy res Q tr rx ry q k => by
  unfold isBG at q
  split at q
  · cases q
    exact ⟨_, ry.bool, by rw [rx.isB]; exact k _ H (.same (.bl _))⟩
  · cases q
theorem o_isntB : Op2 K (fun x y H Q => ∃ b, y = .bl b ∧ Q (.bl (!decide (x = .bl b))) H) isntBG := fun H O x y dx dy res Q tr rx ry q k => by
  unfold isntBG at q
  split at q
  · cases q
    exact ⟨_, ry.bool, by rw [rx.isB]; exact k _ H (.same (.bl _))⟩
  · cases q
end
@[simp] theorem isBG_ap (x : D) (b : Bool) : isBG x (.bool b) = some (.fz (.bool (isB x b))) := rfl
@[simp] theorem isntBG_ap (x : D) (b : Bool) : isntBG x (.bool b) = some (.fz (.bool (!isB x b))) := rfl
@[simp] theorem isB_bool (c b : Bool) : isB (.bool c) b = (c == b) := rfl
end DV
end
section
set_option Elab.async false
set_option linter.all false
set_option maxRecDepth 100000
set_option maxHeartbeats 1000000
namespace DV
open PySem PySem.Spec PyProof.Rows L2
/-! ### list(d) -/
def listA (d : D) : Option Rs := match d with
  | .dict kvs => if smpK kvs = true ∨ nstK kvs = true then some (.fr (.list (kvs.map (·.1)))) else none
  | d => listG d
def rListN (K : KW) : List V → Hp → VK → Prop := fun vs H Q => ∃ a xs, vs = [.ref a] ∧ NAt K H a xs ∧ ∀ p, H p = none → Q (.ref p) (upd H p (.lst (xs.map fun x => V.ref x.2.1)))
def rListA (K : KW) : List V → Hp → VK → Prop := fun vs H Q => (∃ p ys, vs = [.ref p] ∧ (SqL K H p ys ∨ SqT K H p ys) ∧ ∀ l, H l = none → Q (.ref l) (upd H l (.lst ys))) ∨ rListD vs H Q ∨ rListN K vs H Q
section
variable {X : Cx} {K : KW} {H : Hp} {O : Addr → Prop}
theorem refs_ok {α : Type} (f : α → Addr) : ∀ xs : List α, Vals (xs.map fun x => V.ref (f x)) (xs.map fun x => Value.ref (f x))
  | [] => .nil
  | _ :: xs => .cons rfl (refs_ok f xs)
theorem cr_listN (hc : X.calm = true) : CallR X (.type "list") (rListN X.KW) := by
  rintro pins s σ H vs us Q I r ⟨a, xs, rfl, at_, q⟩
  obtain ⟨u, rfl, rx⟩ := r.one
  cases rx
  obtain ⟨⟨o, es, ep, ho, hx, hd, he, hk, nd⟩, room, ns⟩ := at_.dict I
  have n1 : es.size = xs.length := by rw [← Array.length_toList, he, List.length_map]
  refine PySem.W.kdl_call (kdl_raw ns hx hd) (I.ok.hd hc) ho (by omega) fun h' tk acc c keeps laid items => ?_
  have all : acc.toList = xs.map fun x => Value.ref x.2.1 := by
    refine List.ext_getElem? fun j => ?_
    rw [List.getElem?_map, Array.getElem?_toList]
    cases q1 : acc[j]? with
    | some v =>
      obtain ⟨en, g1, rfl⟩ := items.2 j v q1
      have g2 := entry_at he j
      rw [g1] at g2
      cases q2 : xs[j]? with
      | none => rw [q2] at g2; cases g2
      | some x => rw [q2] at g2; cases g2; rfl
    | none =>
      have := items.1
      have := Array.getElem?_eq_none_iff.mp q1
      rw [List.getElem?_eq_none (by omega)]; rfl
  refine ⟨.ref s.heap.objs.size, _, I.laid (t' := tk) (o := .lst (xs.map fun x => V.ref x.2.1)) keeps (Nat.le_refl _) ⟨by simpa using room, acc.toList, c, by rw [all]; exact refs_ok _ xs, by rw [Array.toArray_toList]; exact laid⟩, rfl, q _ (I.hok.fresh (Nat.le_refl _))⟩
theorem cr_listA (hc : X.calm = true) : CallR X (.type "list") (rListA X.KW) := by
  intro pins s σ H vs us Q I r h
  rcases h with h | h | h
  · exact call_list_of pins s σ H vs us Q I r h
  · exact call_list_dK hc pins s σ H vs us Q I r h
  · exact cr_listN hc pins s σ H vs us Q I r h
theorem RpE.fst : ∀ {ks : List (Key × V)} {kvs : List (D × D)}, RpE K H O ks kvs → RpL K H O (ks.map fun kv => kV kv.1) (kvs.map (·.1))
  | _, _, .nil => .nil
  | _, _, .cons (k := k) _ t => by
    refine .cons ?_ t.fst
    cases k with
    | inl i => exact .int i
    | inr x => exact .str x
theorem RpN.fst : ∀ {xs : List (NestedKey × Addr × Value)} {kvs : List (D × D)}, RpN K H O xs kvs → RpL K H O (xs.map fun x => V.ref x.2.1) (kvs.map (·.1))
  | _, _, .nil => .nil
  | _, _, .cons _ r _ _ t => .cons r t.fst
theorem o_listA : OpN K (rListA K) (g1 listA) := OpN.one fun H O x d res Q tr rx q k => by
  unfold listA at q
  split at q
  · rename_i kvs
    split at q
    · rename_i c
      cases q
      by_cases c1 : smpK kvs = true
      · obtain ⟨a, ks, rfl, e, r⟩ := rx.dct c1
        exact .inr (.inl ⟨a, ks, rfl, e, fun p hp => k _ _ (.lst (Same.refl H) hp r.fst)⟩)
      · obtain ⟨a, xs, rfl, at_, r⟩ := rx.nat (c.resolve_left c1)
        exact .inr (.inr ⟨a, xs, rfl, at_, fun p hp => k _ _ (.lst (Same.refl H) hp r.fst)⟩)
    · cases q
  · rename_i d _
    unfold listG at q
    split at q
    · cases q
      obtain ⟨a, xs, rfl, sq, r⟩ := rx.lst
      exact .inl ⟨a, xs, rfl, .inl sq, fun l hl => k _ _ (.lst (Same.refl H) hl r)⟩
    · cases q
      obtain ⟨a, xs, rfl, sq, r⟩ := rx.tup
      exact .inl ⟨a, xs, rfl, .inr sq.sq, fun l hl => k _ _ (.lst (Same.refl H) hl r)⟩
    · cases q
end
@[simp] theorem listA_list (ds : List D) : listA (.list ds) = some (.fr (.list ds)) := rfl
@[simp] theorem listA_tuple (ds : List D) : listA (.tuple ds) = some (.fr (.list ds)) := rfl
end DV
end
section
set_option Elab.async false
set_option linter.all false
set_option maxRecDepth 100000
set_option maxHeartbeats 1000000
namespace DV
open PySem PySem.Spec PyProof.Rows L2
/-! ### d.get(k), d.get(k, x) -/
/-- what it tells: the value under y, or z -/
def GetW (K : KW) (H : Hp) (a : Addr) (y z : V) (Q : VK) : Prop := (∃ o, DGet H a y o ∧ Q (o.getD z) H) ∨
  ∃ b xs n v, y = .ref b ∧ NAt K H a xs ∧ KeyAt K H n b ∧ ((atKey xs n = none ∧ v = z) ∨ ∃ p, atKey xs n = some p ∧ RelV v p.2) ∧ Q v H
def DctAt (K : KW) (H : Hp) (a : Addr) : Prop := IsD H a ∨ ∃ xs, NAt K H a xs
def tGet1 (K : KW) (td ty : TE) : TE := fun σ H Q => td σ H fun x H1 => ∃ a, x = .ref a ∧ DctAt K H1 a ∧ ty σ H1 fun y H2 => GetW K H2 a y .non Q
def tGet2 (K : KW) (td ty tx : TE) : TE := fun σ H Q => td σ H fun x H1 => ∃ a, x = .ref a ∧ DctAt K H1 a ∧ ty σ H1 fun y H2 => tx σ H2 fun z H3 => GetW K H3 a y z Q
section
variable {X : Cx} {o e f : Expr} {apos cpos : Pos} {td ty tx : TE}
theorem DctAt.at {pins : List (Addr × Obj)} {σ : L2.St} {H : Hp} {s : Shared} {a : Addr} (I : Inv X pins σ H s) (d : DctAt X.KW H a) :
    s.TypeIs (.ref a) "dict" ∧ ∀ b, Value.ref a = .ref b → ∃ ob, s.heap.get? b = some ob ∧ ob.dict = none := by
  rcases d with d | ⟨xs, d⟩
  · obtain ⟨h1, h2, _⟩ := isD_at I d; exact ⟨h1, h2⟩
  · obtain ⟨dd, _⟩ := d.dict I
    refine ⟨dd.typeIs, fun b q => ?_⟩
    cases q
    obtain ⟨ob, _, _, h1, h2, _⟩ := dd
    exact ⟨ob, h1, h2.2.1⟩
theorem got {xs : List (NestedKey × Addr × Value)} {n : NestedKey} {v z : V} {r : Value} (rz : RelV z r) (h : (atKey xs n = none ∧ v = z) ∨ ∃ p, atKey xs n = some p ∧ RelV v p.2) : RelV v (((atKey xs n).map (·.2)).getD r) := by
  rcases h with ⟨e, rfl⟩ | ⟨p, e, q⟩
  · rw [e]; exact rz
  · rw [e]; exact q
theorem g_get1 {pins : List (Addr × Obj)} {σ : L2.St} {H : Hp} {s : Shared} {a : Addr} {y : V} {u : Value} {A : Around} {E : Value → Shared → Prop} {W : VK} {Q : Value → Shared → Prop} (hu : A.units + 65 < cLine) (I : Inv X pins σ H s) (g : GetW X.KW H a y .non W) (ry : RelV y u)
    (h : ∀ v w' s', Inv X pins σ H s' → RelV v w' → W v H → Q w' s') : wpAny (model X.prog X.w) A (call (.builtin "dict.get") [.ref a, u]) Q E s := by
  rcases g with ⟨o, g, q⟩ | ⟨b, xs, n, v, rfl, at_, ky, hv, q⟩
  · exact d_get1 (by omega) I g ry fun w' s' I' r' => h _ w' s' I' r' q
  · obtain rfl : u = Value.ref b := ry
    obtain ⟨dd, room, ns⟩ := at_.dict I
    exact call_meetsIn PySem.F.slot_dict_get dd.typeIs PySem.F.entry_dict_get (PySem.F.args_dict_get_2 _ _) (meetsH_dict_get (nestedKind X.prog X.w) a b ns)
      ⟨show A.units + 1 + 8 < cLine by omega, n, xs, ky.is I, dd, h v _ _ (I.tok _) (got (z := .non) (show RelV .non Value.none from rfl) hv) q⟩
theorem g_get2 {pins : List (Addr × Obj)} {σ : L2.St} {H : Hp} {s : Shared} {a : Addr} {y z : V} {u r : Value} {A : Around} {E : Value → Shared → Prop} {W : VK} {Q : Value → Shared → Prop} (hu : A.units + 65 < cLine) (I : Inv X pins σ H s) (g : GetW X.KW H a y z W) (ry : RelV y u) (rz : RelV z r)
    (h : ∀ v w' s', Inv X pins σ H s' → RelV v w' → W v H → Q w' s') : wpAny (model X.prog X.w) A (call (.builtin "dict.get") [.ref a, u, r]) Q E s := by
  rcases g with ⟨o, g, q⟩ | ⟨b, xs, n, v, rfl, at_, ky, hv, q⟩
  · exact d_get2 (by omega) I g ry rz fun w' s' I' r' => h _ w' s' I' r' q
  · obtain rfl : u = Value.ref b := ry
    obtain ⟨dd, room, ns⟩ := at_.dict I
    exact call_meetsIn PySem.F.slot_dict_get dd.typeIs PySem.F.entry_dict_get (PySem.F.args_dict_get_3 _ _ _) (meetsH_dict_get_default (nestedKind X.prog X.w) a b ns r)
      ⟨show A.units + 1 + 8 < cLine by omega, n, xs, ky.is I, dd, h v _ _ (I.tok _) (got rz hv) q⟩
theorem pe_get1 (hu : X.A.units + 65 < cLine) (ho : PE X o td) (he : PE X e ty) (m : M1 X o "get" apos e cpos) : PE X (.Call (.Attribute o "get" apos) [e] [] cpos) (tGet1 X.KW td ty) where
  run pins s σ H Q I want := by
    refine wpAny_Call_method m.base m.few m.line PySem.F.plainAttrs_dict PySem.F.slot_dict_get PySem.F.type_dict_get (thn (ho.run pins s σ H _ I want) fun u s1 ⟨x, H1, I1, rx, a, ex, d, q1⟩ => ?_)
    subst ex
    obtain rfl : u = Value.ref a := rx
    obtain ⟨t1, t2⟩ := d.at I1
    refine ⟨t1, t2, ?_⟩
    rw [m.trees]
    refine Calls.callWith_builtin rfl (Calls.evalArgs_plain (Calls.spliced_cons (thn (he.run pins s1 σ H1 _ I1 q1) fun iv s2 ⟨y, H2, I2, ry, g⟩ => Calls.spliced_nil ?_)))
    exact g_get1 hu I2 g ry fun v w' s3 I3 rw' q2 => ⟨v, H2, I3, rw', q2⟩
theorem pe_get2 (hu : X.A.units + 65 < cLine) (ho : PE X o td) (he : PE X e ty) (hf : PE X f tx) (m : M2 X o "get" apos e f cpos) : PE X (.Call (.Attribute o "get" apos) [e, f] [] cpos) (tGet2 X.KW td ty tx) where
  run pins s σ H Q I want := by
    refine wpAny_Call_method m.base m.few m.line PySem.F.plainAttrs_dict PySem.F.slot_dict_get PySem.F.type_dict_get (thn (ho.run pins s σ H _ I want) fun u s1 ⟨x, H1, I1, rx, a, ex, d, q1⟩ => ?_)
    subst ex
    obtain rfl : u = Value.ref a := rx
    obtain ⟨t1, t2⟩ := d.at I1
    refine ⟨t1, t2, ?_⟩
    rw [m.trees]
    refine Calls.callWith_builtin rfl (Calls.evalArgs_plain (Calls.spliced_cons (thn (he.run pins s1 σ H1 _ I1 q1) fun iv s2 ⟨y, H2, I2, ry, q2⟩ =>
      Calls.spliced_cons (thn (hf.run pins s2 σ H2 _ I2 q2) fun fv s3 ⟨z, H3, I3, rz, g⟩ => Calls.spliced_nil ?_))))
    exact g_get2 hu I3 g ry rz fun v w' s4 I4 rw' q3 => ⟨v, H3, I4, rw', q3⟩
end
/-! on data -/
def getG (d k x : D) : Option D := match d with
  | .dict kvs => match dKey k with
    | some key => if smpK kvs = true then some ((getK key kvs).getD x) else none
    | none => match tkOf k with
      | some n => if nstK kvs = true then some ((getT n kvs).getD x) else none
      | none => none
  | _ => none
def dctM (r : Rs) : M Unit := fun e => match rdv e r with
  | some (.dict kvs) => if smpK kvs = true ∨ nstK kvs = true then some ((), e) else none
  | _ => none
def getM (f : M Rs) (fs : M (List D)) : M Rs := bnd f fun r => bnd (dctM r) fun _ => bnd fs fun ds => fun e => match rdv e r, ds with
  | some d, [k] => (getG d k .none).map fun y => (.fz y, e)
  | some d, [k, x] => (getG d k x).map fun y => (.fz y, e)
  | _, _ => none
section
variable {X : Cx} {K : KW} {γ : List Addr} {e e1 e2 : En} {σ : L2.St} {H H1 H2 : Hp} {Z Z1 : Addr → Prop} {O : Addr → Prop}
theorem dct_eq {r : Rs} {u : Unit} (h : dctM r e = some (u, e1)) : e1 = e ∧ ∃ kvs, rdv e r = some (.dict kvs) ∧ (smpK kvs = true ∨ nstK kvs = true) := by
  unfold dctM at h
  split at h
  · rename_i kvs q
    split at h
    · rename_i c; cases h; exact ⟨rfl, kvs, q, c⟩
    · cases h
  · cases h
theorem RpR.dctAt {v : V} {kvs : List (D × D)} (h : RpR K H O v (.dict kvs)) (c : smpK kvs = true ∨ nstK kvs = true) : ∃ a, v = .ref a ∧ DctAt K H a := by
  rcases c with c | c
  · obtain ⟨a, ks, rfl, e, _⟩ := h.dct c; exact ⟨a, rfl, .inl (.inl ⟨ks, .inl e⟩)⟩
  · obtain ⟨a, xs, rfl, e, _⟩ := h.nat c; exact ⟨a, rfl, .inr ⟨xs, e⟩⟩
/-- the look at the value -/
theorem getG_ok {a : Addr} {d k x g : D} {y z : V} {Q : VK} (h : RpR K H O (.ref a) d) (hk : Rp K H O y k) (hx : Rp K H O z x) (e : getG d k x = some g) (cont : ∀ v, Rp K H O v g → Q v H) : GetW K H a y z Q := by
  unfold getG at e
  split at e
  · rename_i kvs
    split at e
    · rename_i key hkey
      split at e
      · rename_i c
        cases e
        obtain ⟨a', ks, ea, eh, r⟩ := h.dct c
        cases ea
        have ky := (RpR.of_item hk).key hkey
        refine .inl ⟨valV ks key, .inl ⟨ks, key, .inl eh, ky, rfl⟩, cont _ ?_⟩
        rcases r.get key with ⟨h1, h2⟩ | ⟨v, d, h1, h2, h3⟩
        · rw [h1, h2]; exact hx
        · rw [h1, h2]; exact h3
      · cases e
    · split at e
      · rename_i n hn
        split at e
        · rename_i c
          cases e
          obtain ⟨a', xs, ea, at_, r⟩ := h.nat c
          cases ea
          obtain ⟨b, rfl, _, ky⟩ := (RpR.of_item hk).key_at hn
          rcases r.get n with ⟨h1, h2⟩ | ⟨b', u, v, d, h1, h2, h3, h4⟩
          · exact .inr ⟨b, xs, n, z, rfl, at_, ky, .inl ⟨h1, rfl⟩, cont _ (by rw [h2]; exact hx)⟩
          · exact .inr ⟨b, xs, n, v, rfl, at_, ky, .inr ⟨_, h1, h3⟩, cont _ (by rw [h2]; exact h4)⟩
        · cases e
      · cases e
  · cases e
theorem tE_get1 {f fk : M Rs} : ∀ σ H Q, tE K (getM f (consF fk (ret []))) σ H Q → tGet1 K (tE K f) (tE K fk) σ H Q := by
  rintro σ H Q ⟨γ, e, Z, res, e', R, h, k⟩
  obtain ⟨r, e1, h1, ha⟩ := bnd_eq h
  obtain ⟨u, e2, h2, hb⟩ := bnd_eq ha
  obtain ⟨ds, e3, h3, hc⟩ := bnd_eq hb
  obtain ⟨rfl, kvs, hr, cs⟩ := dct_eq h2
  refine ⟨γ, e, Z, r, e2, R, h1, fun x H1 kp sh P => ?_⟩
  obtain ⟨Z1, h01, hf, R1, A1⟩ := P.one
  obtain ⟨a, rfl, da⟩ := (A1.rd R1 hr).dctAt cs
  refine ⟨a, rfl, da, ?_⟩
  have t := tF_cons (K := K) (fa := fk) (fs := ret []) σ H1 (fun vs H2 => ∃ y, vs = [y] ∧ GetW K H2 a y .non Q) ⟨γ, e2, Z1, ds, e3, R1, h3, fun vs H2 kp2 sh2 P2 => ?_⟩
  · obtain ⟨γ3, e4, Z3, r3, e5, R3, h4, k3⟩ := t
    refine ⟨γ3, e4, Z3, r3, e5, R3, h4, fun y H3 kp3 sh3 P3 => ?_⟩
    obtain ⟨y1, e7, g⟩ := tF_nil (K := K) σ H3 _ (k3 y H3 kp3 sh3 P3)
    cases e7
    exact g
  · obtain ⟨Z2, h12, hf2, R2, rl⟩ := P2
    have A2 := A1.keep R1 R2 kp2 sh2 h12 hf2
    split at hc
    · rename_i d kd hd
      obtain ⟨g, hg, e6⟩ := Option.map_eq_some_iff.mp hc
      cases e6
      cases rl with
      | cons ry rn =>
        cases rn
        refine ⟨_, rfl, getG_ok (A2.rd R2 hd) ry .non hg fun v rv => ?_⟩
        refine k v H2 (kp.trans sh kp2) (sh.trans sh2) ⟨Z2, fun a z => h12 a (h01 a z), fun a z => ?_, R2, .cons rv .nil⟩
        rcases hf2 a z with z | z
        · exact hf a z
        · exact .inr (kp.none z)
    · rename_i d kd x hd
      obtain ⟨_, _, _, h5⟩ := bnd_eq h3
      obtain ⟨_, _, _, h6⟩ := bnd_eq h5
      obtain ⟨_, _, h7, h8⟩ := bnd_eq h6
      cases h7; cases h8
    · cases hc
theorem tE_get2 {f fk fx : M Rs} : ∀ σ H Q, tE K (getM f (consF fk (consF fx (ret [])))) σ H Q → tGet2 K (tE K f) (tE K fk) (tE K fx) σ H Q := by
  rintro σ H Q ⟨γ, e, Z, res, e', R, h, k⟩
  obtain ⟨r, e1, h1, ha⟩ := bnd_eq h
  obtain ⟨u, e2, h2, hb⟩ := bnd_eq ha
  obtain ⟨ds, e3, h3, hc⟩ := bnd_eq hb
  obtain ⟨rfl, kvs, hr, cs⟩ := dct_eq h2
  refine ⟨γ, e, Z, r, e2, R, h1, fun x H1 kp sh P => ?_⟩
  obtain ⟨Z1, h01, hf, R1, A1⟩ := P.one
  obtain ⟨a, rfl, da⟩ := (A1.rd R1 hr).dctAt cs
  refine ⟨a, rfl, da, ?_⟩
  have t := tF_cons (K := K) (fa := fk) (fs := consF fx (ret [])) σ H1 (fun vs H2 => ∃ y z, vs = [y, z] ∧ GetW K H2 a y z Q) ⟨γ, e2, Z1, ds, e3, R1, h3, fun vs H2 kp2 sh2 P2 => ?_⟩
  · obtain ⟨γ3, e4, Z3, r3, e5, R3, h4, k3⟩ := t
    refine ⟨γ3, e4, Z3, r3, e5, R3, h4, fun y H3 kp3 sh3 P3 => ?_⟩
    have t4 := tF_cons (K := K) (fa := fx) (fs := ret []) σ H3 _ (k3 y H3 kp3 sh3 P3)
    obtain ⟨γ5, e6, Z5, r5, e7, R5, h5, k5⟩ := t4
    refine ⟨γ5, e6, Z5, r5, e7, R5, h5, fun z H5 kp5 sh5 P5 => ?_⟩
    obtain ⟨y1, z1, e8, g⟩ := tF_nil (K := K) σ H5 _ (k5 z H5 kp5 sh5 P5)
    cases e8
    exact g
  · obtain ⟨Z2, h12, hf2, R2, rl⟩ := P2
    have A2 := A1.keep R1 R2 kp2 sh2 h12 hf2
    split at hc
    · rename_i d kd hd
      obtain ⟨_, _, _, h5⟩ := bnd_eq h3
      obtain ⟨_, _, _, h6⟩ := bnd_eq h5
      obtain ⟨_, _, h7, h8⟩ := bnd_eq h6
      obtain ⟨_, _, _, h9⟩ := bnd_eq h7
      obtain ⟨_, _, _, h10⟩ := bnd_eq h9
      obtain ⟨_, _, h11, h13⟩ := bnd_eq h10
      cases h11; cases h13; cases h8
    · rename_i d kd x hd
      obtain ⟨g, hg, e6⟩ := Option.map_eq_some_iff.mp hc
      cases e6
      cases rl with
      | cons ry rn =>
        cases rn with
        | cons rz rn =>
          cases rn
          refine ⟨_, _, rfl, getG_ok (A2.rd R2 hd) ry rz hg fun v rv => ?_⟩
          refine k v H2 (kp.trans sh kp2) (sh.trans sh2) ⟨Z2, fun a z => h12 a (h01 a z), fun a z => ?_, R2, .cons rv .nil⟩
          rcases hf2 a z with z | z
          · exact hf a z
          · exact .inr (kp.none z)
    · cases hc
theorem de_get1 {o a : Expr} {f fk : M Rs} {apos cpos : Pos} (hu : X.A.units + 65 < cLine) (ho : PE X o (tE X.KW f)) (ha : PE X a (tE X.KW fk)) (m : M1 X o "get" apos a cpos := by exact ⟨rfl, rfl, rfl, rfl⟩) :
    PE X (.Call (.Attribute o "get" apos) [a] [] cpos) (tE X.KW (getM f (consF fk (ret [])))) := PE.weak (pe_get1 hu ho ha m) tE_get1
theorem de_get2 {o a b : Expr} {f fk fx : M Rs} {apos cpos : Pos} (hu : X.A.units + 65 < cLine) (ho : PE X o (tE X.KW f)) (ha : PE X a (tE X.KW fk)) (hb : PE X b (tE X.KW fx)) (m : M2 X o "get" apos a b cpos := by exact ⟨rfl, rfl, rfl, rfl⟩) :
    PE X (.Call (.Attribute o "get" apos) [a, b] [] cpos) (tE X.KW (getM f (consF fk (consF fx (ret []))))) := PE.weak (pe_get2 hu ho ha hb m) tE_get2
end
@[simp] theorem getM_ap {f : M Rs} {fs : M (List D)} {e : En} : getM f fs e = bnd f (fun r => bnd (dctM r) fun _ => bnd fs fun ds => fun e => match rdv e r, ds with
  | some d, [k] => (getG d k .none).map fun y => (.fz y, e)
  | some d, [k, x] => (getG d k x).map fun y => (.fz y, e)
  | _, _ => none) e := rfl
@[simp] theorem dctM_ap {r : Rs} {e : En} : dctM r e = match rdv e r with
  | some (.dict kvs) => if smpK kvs = true ∨ nstK kvs = true then some ((), e) else none
  | _ => none := rfl
end DV
end
section
set_option Elab.async false
set_option linter.all false
set_option maxRecDepth 100000
set_option maxHeartbeats 1000000
namespace DV
open PySem PySem.Spec PyProof.Rows L2
/-! ### isinstance(x, (T, U)) -/
def isiG2 (T U : String) (d : D) : Option Rs := if tyKn d = true then (kitB (tyD d) T).bind fun b => if b = true then boolR true else (kitB (tyD d) U).bind boolR else none
section
variable {X : Cx} {K : KW}
theorem de_isi2 {T U : String} {x y : Str} {f : M Rs} {p p2 p3 pos tpos : Pos} {kk : Nat} {a : Expr} (ha : PE X a (tE X.KW f)) (hT : bootBuiltins x = some (.type T)) (hU : bootBuiltins y = some (.type U)) (hm : X.mg "isinstance" = none) (hmT : X.mg x = none) (hmU : X.mg y = none) (hg : Gl X "isinstance" := by rfl) (hgT : Gl X x := by rfl) (hgU : Gl X y := by rfl)
    (hn : x ≠ "__name__" := by decide) (hdb : (x == ("__debug__" : Str)) = false := by decide) (hn2 : y ≠ "__name__" := by decide) (hdb2 : (y == ("__debug__" : Str)) = false := by decide)
    (he : starEach [a, .Tuple [.Name x p2, .Name y p3] kk tpos] X.env = (false, eval a X.env) :: starEach [.Tuple [.Name x p2, .Name y p3] kk tpos] X.env := by rfl)
    (he2 : starEach [.Tuple [.Name x p2, .Name y p3] kk tpos] X.env = (false, eval (.Tuple [.Name x p2, .Name y p3] kk tpos) X.env) :: starEach [] X.env := by rfl)
    (he3 : starEach [.Name x p2, .Name y p3] X.env = (false, eval (.Name x p2) X.env) :: starEach [.Name y p3] X.env := by rfl)
    (he4 : starEach [.Name y p3] X.env = (false, eval (.Name y p3) X.env) :: starEach [] X.env := by rfl)
    (hpl : (backTo pos (starEach [.Tuple [.Name x p2, .Name y p3] kk tpos] X.env)).any (·.1) = false := by rfl) :
    PE X (.Call (.Name "isinstance" p) [a, .Tuple [.Name x p2, .Name y p3] kk tpos] [] pos) (tE X.KW (op1 (isiG2 T U) f)) :=
  PE.weak (pe_callB call_isiT hg hm boot_isinstance (pa_cons ha (pa_cons (pe_tup (pa_cons (pe_bltn (v := .ty T) hgT hmT hT rfl hn hdb) (pa_cons (pe_bltn (v := .ty U) hgU hmU hU rfl hn2 hdb2) pa_nil he4) he3)) pa_nil he2) he) (by decide) (by decide) he hpl) (by
  rintro σ H Q ⟨γ, e, Z, res, e', R, h, k⟩
  obtain ⟨ra, e1, h1, ha⟩ := bnd_eq h
  obtain ⟨d, e2, h2, hb⟩ := bnd_eq ha
  obtain ⟨q1, rfl⟩ := rdM_eq h2
  obtain ⟨q2, rfl⟩ := opt_eq hb
  refine ⟨γ, e, Z, ra, e', R, h1, fun v H1 kp sh P => ?_⟩
  obtain ⟨Z1, h01, hf, R1, A1⟩ := P.one
  by_cases kn : tyKn d = true
  case neg => simp only [isiG2, if_neg kn] at q2; cases q2
  simp only [isiG2, if_pos kn] at q2
  obtain ⟨b, hb2, q3⟩ := Option.bind_eq_some_iff.mp q2
  refine ⟨by show 2 ≤ sizeLine; decide, fun p hp => ?_⟩
  have sm : Same H1 (upd H1 p (.tup [.ty T, .ty U])) := same_upd hp
  have R2 : Rep X.KW γ e' σ (upd H1 p (.tup [.ty T, .ty U])) Z1 := R1.grow sm fun a z => .inl z
  have kp2 : Kp γ e'.ρ σ H1 (upd H1 p (.tup [.ty T, .ty U])) := Kp.of_same sm
  have A2 := A1.keep R1 R2 kp2 (Sh.refl e') (fun a z => z) (fun a z => .inl z)
  have fin : ∀ c, PySem.W.kitAny X.K (.type (tyD d)) [.type T, .type U] = some c → res = .fz (.bool c) → ∃ (x : V) (tp : Addr) (cs : List V) (t : Value) (us : List Value) (b : Bool), [v, V.ref p] = [x, .ref tp] ∧ upd H1 p (.tup [.ty T, .ty U]) tp = some (.tup cs) ∧ Paired ClsV cs us ∧ TyX X.K (upd H1 p (.tup [.ty T, .ty U])) x t ∧ PySem.W.kitAny X.K t us = some b ∧ Q (.bl b) (upd H1 p (.tup [.ty T, .ty U])) := fun c hc hr => by
    refine ⟨v, p, _, _, [.type T, .type U], c, rfl, upd_same, .cons (.ty T) (.cons (.ty U) .nil), (A2.rd R2 q1).ty kn, hc, ?_⟩
    subst hr
    obtain ⟨kp3, P3⟩ := (Gr.same (K := X.KW) (O := Hid γ e'.ρ σ Z1) (H := upd H1 p (.tup [.ty T, .ty U])) (.bl c)).pst R2
    exact k _ _ ((kp.trans sh kp2).trans sh kp3) sh (Pst.next (rs0 := []) (xs0 := []) (kp.trans sh kp2) h01 hf P3)
  cases b with
  | true =>
    simp only [if_true] at q3
    cases q3
    exact fin true (by show (match PySem.W.kitOne X.K _ _ with | some true => some true | some false => _ | none => none) = _; rw [kit_ty hb2]) rfl
  | false =>
    simp only [Bool.false_eq_true, if_false] at q3
    obtain ⟨c, hc, q4⟩ := Option.bind_eq_some_iff.mp q3
    cases q4
    refine fin c ?_ rfl
    show (match PySem.W.kitOne X.K _ _ with | some true => some true | some false => (match PySem.W.kitOne X.K _ _ with | some true => some true | some false => some false | none => none) | none => none) = _
    rw [kit_ty hb2, kit_ty hc]
    cases c <;> rfl)
end
end DV
end
section
set_option Elab.async false
set_option linter.all false
set_option maxRecDepth 100000
set_option maxHeartbeats 1000000
namespace DV
open PySem PySem.Spec PyProof.Rows L2
/-! ### sorted(d.items()): the pairs by their names -/
/-- a pair of a text and a text or an int -/
def PairL (h : Heap) (v : Value) (x : Str) : Prop := ∃ (a : Addr) (t : Tok) (u : Value), v = .ref a ∧ h.get? a = some { cls := .type "tuple", data := .seq #[.str x t, u] } ∧ ((∃ i t, u = .int i t) ∨ ∃ y t, u = .str y t)
section
variable {prog : Program} {w : World} {A : Around} {E : Value → Shared → Prop} {s : Shared}
theorem swoS (k : Value → Str) : SrtO.Swo fun v u => ltS (k v) (k u) := by
  refine ⟨fun x y h => ltS_asym h, fun x y z a b => ?_⟩
  cases c : ltS (k z) (k x) with
  | false => rfl
  | true =>
    cases d : ltS (k y) (k z) with
    | true => rw [ltS_trans d c] at a; cases a
    | false => rw [ltS_tri b d] at c; rw [c] at a; cases a
theorem pairL_cmp {vs : List Value} {k : Value → Str} (hp : ∀ v ∈ vs, PairL s.heap v (k v)) (inj : ∀ v ∈ vs, ∀ u ∈ vs, k v = k u → v = u) :
    SrtO.Cmp prog w A s (tuples' true) (fun p => p.1 ∈ vs) (SrtO.lt2 fun v u => ltS (k v) (k u)) := by
  intro p q hm hm'
  have h1 := hp _ hm
  have h2 := hp _ hm'
  have same := inj _ hm _ hm'
  show wpAny (model prog w) A (keyLt' (tuples' true) p.1 q.1) (fun r s' => s' = s ∧ r = ltS (k p.1) (k q.1)) (fun _ _ => False) s
  generalize k p.1 = x at h1 same ⊢
  generalize k q.1 = x' at h2 same ⊢
  obtain ⟨a, t, u, e, ho, leaf⟩ := h1
  obtain ⟨a', t', u', e', ho', leaf'⟩ := h2
  rw [e, e'] at same
  rw [e, e']
  refine PySem.W.kat_lt ho rfl ho' rfl ?_
  show PySem.W.KatLex prog w A true (decide (2 < 2)) _ [(.str x t, .str x' t'), (u, u')] 0 s
  refine PySem.W.kat_cons (SeqAt.EqAt.str_str x t x' t' prog w _ _ ?_)
  refine PySem.W.kat_go (fun e1 => ?_) (fun e1 => ?_)
  · have ex : x = x' := by simpa using e1
    have ea := same ex
    cases ea
    rw [ho] at ho'
    have eu : u' = u := by
      have := Option.some.inj ho'
      simp only [Obj.mk.injEq] at this
      have h3 := this.2.2.1
      simp at h3
      exact h3.2.symm
    subst eu ex
    have lt0 : ltS x x = false := ltS_irr x
    refine PySem.W.kat_yes (PySem.W.kat_cons ?_)
    have fin : ∀ b, b = true → PySem.W.KatGo prog w A true (decide (2 < 2)) (fun r s' => s' = s ∧ r = ltS x x) u' u' [] 1 b s := fun b hb => by
      subst hb
      exact PySem.W.kat_yes (PySem.W.kat_nil ⟨rfl, lt0.symm⟩)
    rcases leaf with ⟨i, ti, rfl⟩ | ⟨y, ty, rfl⟩
    · exact SeqAt.EqAt.int_int i ti i ti prog w _ _ (fin _ (by simp))
    · exact SeqAt.EqAt.str_str y ty y ty prog w _ _ (fin _ (by simp))
  · refine PySem.W.kat_no (oneLt_any_str ⟨rfl, ?_⟩)
    unfold ltS
    rw [ltCps_eq]
theorem pairL_sortable {a : Addr} {vs : List Value} {k : Value → Str} (h0 : 0 < vs.length) (hp : ∀ v ∈ vs, PairL s.heap v (k v)) (inj : ∀ v ∈ vs, ∀ u ∈ vs, k v = k u → v = u) (ha : ∀ o, s.heap.get? a = some o → o.cls ≠ .type "tuple") :
    SrtO.SortableO prog w A s a vs fun v u => ltS (k v) (k u) := by
  intro h' keep
  have hp' : ∀ v ∈ vs, PairL h' v (k v) := fun v hm => by
    obtain ⟨b, t, u, e, ho, leaf⟩ := hp v hm
    exact ⟨b, t, u, e, keep b _ (fun z => by subst z; exact ha _ ho rfl) ho, leaf⟩
  have fsts : ∀ vs : List Value, (∀ v ∈ vs, PairL h' v (k v)) → ∃ fs : List Value, PySem.W.KatTups h' vs fs ∧ fs.length = vs.length ∧ ∀ f ∈ fs, ∃ x t, f = .str x t := by
    intro vs
    induction vs with
    | nil => intro _; exact ⟨[], .nil, rfl, fun f hf => by simp at hf⟩
    | cons v vs ih =>
      intro hp
      obtain ⟨fs, g1, g2, g3⟩ := ih fun v hv => hp v (List.mem_cons_of_mem _ hv)
      obtain ⟨b, t, u, rfl, ho, _⟩ := hp v (List.mem_cons_self ..)
      refine ⟨.str (k (.ref b)) t :: fs, .cons ho rfl rfl rfl g1, by simp [g2], fun f hf => ?_⟩
      rcases List.mem_cons.mp hf with rfl | hf
      · exact ⟨_, _, rfl⟩
      · exact g3 f hf
  obtain ⟨fs, h1, h2, h3⟩ := fsts vs hp'
  refine ⟨tuples' true, fun Q E hq => ?_, pairL_cmp hp' inj⟩
  refine PySem.W.kat_kind (T := .type "str") h1 (by omega) (fun f hm => ?_) (by rfl) ?_
  · obtain ⟨x, t, rfl⟩ := h3 f hm
    exact PySem.W.Looks.now
  · have e : (Value.type "str" != Value.type "tuple") = true := by first | decide +kernel | rfl
    rw [e]
    exact hq
/-- the result: L, the list of the pairs ps (where they stand; name, value), by names -/
structure SoRes (h0 h : Heap) (ks : List (Str × Value)) (L : Addr) (ps : List (Addr × Str × Value)) : Prop where
  old : ∀ b o, h0.get? b = some o → h.get? b = some o
  lst : ∃ n, h.get? L = some { cls := .type "list", data := .seq (ps.map fun z => Value.ref z.1).toArray n }
  new : h0.objs.size ≤ L
  perm : (ps.map (·.2)).Perm ks
  ord : (ps.map fun z => z.2.1).Pairwise fun x y => ltS x y = true
  prs : ∀ z ∈ ps, h0.objs.size ≤ z.1 ∧ z.1 ≠ L ∧ ∃ t, h.get? z.1 = some { cls := .type "tuple", data := .seq #[.str z.2.1 t, z.2.2] }
  nd : (ps.map (·.1)).Nodup
theorem so_items {r d : Addr} {es : Array DictEntry} {ep : Nat} {ks : List (Str × Value)} {Q : Value → Shared → Prop} (hh : A.handled = none) (hv : s.heap.IsItemsView r d) (hm : DT.Raw s.heap d es ep) (room : es.size ≤ sizeLine)
    (same : es.size = ks.length) (ents : ∀ (j : Nat) (e : DictEntry), es[j]? = some e → ∃ p t, ks[j]? = some p ∧ e.key = .str p.1 t ∧ e.val = p.2) (leaf : ∀ p ∈ ks, (∃ i t, p.2 = .int i t) ∨ ∃ y t, p.2 = .str y t) (nd : (ks.map (·.1)).Nodup)
    (q : ∀ h' tk L ps, SoRes s.heap h' ks L ps → Q (.ref L) { s with heap := h', toks := tk }) : wpAny (model prog w) A (call (.builtin "sorted") [.ref r]) Q E s := by
  refine DT.sortedI (es := es) (ep := ep) hh hv hm room fun h1 tk as old1 grew len made => ?_
  have lak : as.length = ks.length := by omega
  have ndA : as.Nodup := List.Pairwise.imp (fun h => Nat.ne_of_lt h) made.rise
  have prs1 : ∀ z ∈ as.zip ks, ∃ t, h1.get? z.1 = some { cls := .type "tuple", data := .seq #[.str z.2.1 t, z.2.2] } := fun z hz => by
    obtain ⟨j, hj⟩ := List.mem_iff_getElem?.mp hz
    obtain ⟨j1, j2⟩ := List.getElem?_zip_eq_some.mp hj
    obtain ⟨e, he, hg⟩ := made.pairs j z.1 j1
    obtain ⟨p, t, hp, hk, hval⟩ := ents j e he
    rw [j2] at hp; cases hp
    rw [hk, hval] at hg
    exact ⟨t, hg⟩
  let h2 := h1.push { cls := .type "list", data := .seq (as.map Value.ref).toArray }
  have atL : h2.get? h1.objs.size = some (seqObj "list" (as.map Value.ref).toArray 0) := Heap.get?_push_size _ rfl
  have old2 : ∀ b o, h1.get? b = some o → b ≠ h1.objs.size ∧ h2.get? b = some o := fun b o e => ⟨Nat.ne_of_lt (Heap.lt_size e), Heap.get?_push_of_some _ e⟩
  -- names of pairs
  let k : Value → Str := fun v => match (as.zip ks).find? fun z => Value.ref z.1 == v with
    | some z => z.2.1
    | none => ⟨#[]⟩
  have find_ : ∀ z ∈ as.zip ks, (as.zip ks).find? (fun y => Value.ref y.1 == Value.ref z.1) = some z := fun z hz => by
    cases q1 : (as.zip ks).find? (fun y => Value.ref y.1 == Value.ref z.1) with
    | none =>
      have := List.find?_eq_none.mp q1 z hz
      simp at this
    | some y =>
      have hy := List.mem_of_find?_eq_some q1
      have e1 : y.1 = z.1 := by
        have := List.find?_some q1
        simpa using this
      obtain ⟨i, hi⟩ := List.mem_iff_getElem?.mp hy
      obtain ⟨j, hj⟩ := List.mem_iff_getElem?.mp hz
      obtain ⟨i1, i2⟩ := List.getElem?_zip_eq_some.mp hi
      obtain ⟨j1, j2⟩ := List.getElem?_zip_eq_some.mp hj
      have li : i < as.length := (List.getElem?_eq_some_iff.mp i1).1
      have lj : j < as.length := (List.getElem?_eq_some_iff.mp j1).1
      have eij : i = j := by
        refine (List.getElem_inj (h₀ := li) (h₁ := lj) ndA).mp ?_
        rw [(List.getElem?_eq_some_iff.mp i1).2, (List.getElem?_eq_some_iff.mp j1).2, e1]
      subst eij
      rw [i2] at j2
      exact congrArg some (Prod.ext e1 (Option.some.inj j2))
  have kz : ∀ z ∈ as.zip ks, k (.ref z.1) = z.2.1 := fun z hz => by show (match (as.zip ks).find? _ with | some z => z.2.1 | none => _) = _; rw [find_ z hz]
  have allz : ∀ v ∈ as.map Value.ref, ∃ z ∈ as.zip ks, v = .ref z.1 := fun v hv => by
    obtain ⟨b, hb, rfl⟩ := List.mem_map.mp hv
    obtain ⟨j, hj⟩ := List.mem_iff_getElem?.mp hb
    have lj : j < ks.length := by rw [← lak]; exact (List.getElem?_eq_some_iff.mp hj).1
    exact ⟨(b, ks[j]), List.mem_iff_getElem?.mpr ⟨j, List.getElem?_zip_eq_some.mpr ⟨hj, List.getElem?_eq_getElem lj⟩⟩, rfl⟩
  have mem2 : ∀ z ∈ as.zip ks, z.2 ∈ ks := fun z hz => (List.of_mem_zip hz).2
  have hp : ∀ v ∈ as.map Value.ref, PairL h2 v (k v) := fun v hv => by
    obtain ⟨z, hz, rfl⟩ := allz v hv
    obtain ⟨t, ht⟩ := prs1 z hz
    rw [kz z hz]
    exact ⟨z.1, t, z.2.2, rfl, (old2 _ _ ht).2, leaf z.2 (mem2 z hz)⟩
  have inj : ∀ v ∈ as.map Value.ref, ∀ u ∈ as.map Value.ref, k v = k u → v = u := fun v hv u hu e => by
    obtain ⟨z, hz, rfl⟩ := allz v hv
    obtain ⟨y, hy, rfl⟩ := allz u hu
    rw [kz z hz, kz y hy] at e
    obtain ⟨i, hi⟩ := List.mem_iff_getElem?.mp hz
    obtain ⟨j, hj⟩ := List.mem_iff_getElem?.mp hy
    obtain ⟨i1, i2⟩ := List.getElem?_zip_eq_some.mp hi
    obtain ⟨j1, j2⟩ := List.getElem?_zip_eq_some.mp hj
    have li : i < (ks.map (·.1)).length := by rw [List.length_map]; exact (List.getElem?_eq_some_iff.mp i2).1
    have lj : j < (ks.map (·.1)).length := by rw [List.length_map]; exact (List.getElem?_eq_some_iff.mp j2).1
    have eij : i = j := by
      refine (List.getElem_inj (h₀ := li) (h₁ := lj) nd).mp ?_
      rw [List.getElem_map, List.getElem_map, (List.getElem?_eq_some_iff.mp i2).2, (List.getElem?_eq_some_iff.mp j2).2, e]
    subst eij
    rw [i1] at j1
    exact congrArg Value.ref (Option.some.inj j1)
  refine wpAny_call_entry PyProof.Rows.slot_list_sort ⟨_, atL, rfl⟩ PyProof.Rows.entry_list_sort
    (SrtO.list_sort_ord (s := { s with heap := h2, toks := tk }) (swoS k) atL (by rw [List.length_map]; omega) (fun two => pairL_sortable (by omega) hp inj fun o e => by rw [atL] at e; cases e; simp [seqObj]) fun out srt stb => ⟨.none, rfl, ?_⟩) (PyProof.Rows.args_list_sort _)
  obtain ⟨zs, pz, ez⟩ := perm_lift (fun z : Addr × Str × Value => Value.ref z.1) stb.perm (as.zip ks) (by
    have e : (as.zip ks).map (fun z => Value.ref z.1) = ((as.zip ks).map Prod.fst).map Value.ref := by rw [List.map_map]; rfl
    rw [e, List.map_fst_zip (by omega)])
  have memz : ∀ z ∈ zs, z ∈ as.zip ks := fun z hz => pz.mem_iff.mp hz
  obtain ⟨n, hn⟩ := PyProof.Rows.sortedHeap_at (vs := as.map Value.ref) (out := out.toArray) atL
  have keepS : ∀ b o, h1.get? b = some o → (sortedHeap h2 h1.objs.size (as.map Value.ref) out.toArray).get? b = some o := fun b o e => (PyProof.Rows.sortedHeap_old (old2 b o e).1 (Heap.lt_size (old2 b o e).2)).trans (old2 b o e).2
  refine q _ _ _ zs ⟨fun b o e => keepS b o (old1 b o e), ⟨n, ?_⟩, Nat.le_of_lt grew, ?_, ?_, fun z hz => ?_, ?_⟩
  · rw [hn, ← ez]
  · have e := pz.map (·.2)
    rw [List.map_snd_zip (by omega)] at e
    exact e
  · have ndz : (zs.map fun z => z.2.1).Nodup := by
      have e := pz.map fun z : Addr × Str × Value => z.2.1
      have e2 : (as.zip ks).map (fun z : Addr × Str × Value => z.2.1) = ks.map (·.1) := by
        have e3 : (as.zip ks).map (fun z : Addr × Str × Value => z.2.1) = ((as.zip ks).map Prod.snd).map Prod.fst := by rw [List.map_map]; rfl
        rw [e3, List.map_snd_zip (by omega)]
      rw [e2] at e
      exact e.nodup_iff.mpr nd
    have srt2 : List.Pairwise (fun x y => ltS (k y) (k x) = false) out := srt
    rw [← ez, List.pairwise_map] at srt2
    rw [List.pairwise_map]
    have ndz2 := List.pairwise_map.mp ndz
    refine List.Pairwise.imp_of_mem (fun {x y} hx hy h => ?_) (srt2.and ndz2)
    have h1 := h.1
    rw [kz x (memz x hx), kz y (memz y hy)] at h1
    cases c : ltS x.2.1 y.2.1 with
    | true => rfl
    | false => exact absurd (ltS_tri c h1) h.2
  · obtain ⟨t, ht⟩ := prs1 z (memz z hz)
    have inA := (List.of_mem_zip (memz z hz)).1
    exact ⟨Nat.le_of_lt (made.above z.1 inA), (old2 _ _ ht).1, t, keepS _ _ ht⟩
  · have e := pz.map (·.1)
    rw [List.map_fst_zip (by omega)] at e
    exact e.nodup_iff.mpr ndA
end
end DV
end
section
set_option Elab.async false
set_option linter.all false
set_option maxRecDepth 100000
set_option maxHeartbeats 1000000
namespace DV
open PySem PySem.Spec PyProof.Rows L2
open L2.DX (itemsO itemsO_ok)
/-! ### sorted(d.items()) -/
def rItemsK : V → List V → Hp → VK → Prop := fun x xs H Q => ∃ (a : Addr) (kvs : List (L2.Key × V)), x = .ref a ∧ xs = [] ∧ H a = some (.dK kvs) ∧ ∀ p, H p = none → Q (.ref p) (upd H p (itemsO p a))
/-- what the sort tells -/
def rSortZ : List V → Hp → VK → Prop := fun vs H Q => ∃ (p a : Addr) (ks : List (Str × V)), vs = [.ref p] ∧ H p = some (itemsO p a) ∧ H a = some (.dK (ks.map fun e => (Sum.inr e.1, e.2))) ∧ (∀ e ∈ ks, (∃ i, e.2 = .int i) ∨ ∃ y, e.2 = .str y) ∧
  ((ks.map (·.1)).Nodup → ∀ (H' : Hp) (L : Addr) (ps : List (Addr × Str × V)), Same H H' → H L = none → H' L = some (.lst (ps.map fun z => V.ref z.1)) → (ps.map (·.2)).Perm ks → (ps.map fun z => z.2.1).Pairwise (fun x y => ltS x y = true) →
    (∀ z ∈ ps, H z.1 = none ∧ z.1 ≠ L ∧ ∃ o : Obj, o.dict = none ∧ H' z.1 = some (.frz o (.tup [.str z.2.1, z.2.2]))) → Q (.ref L) H')
section
variable {X : Cx}
theorem mt_itemsK : MtR X "dict.items" rItemsK := by
  rintro pins s σ H x xs v us Q I rx rxs ⟨a, kvs, rfl, rfl, ha, q⟩
  cases rx
  cases rxs
  obtain ⟨z, hd, vs, rel, o, es, ep, ho, hx, hdat, _⟩ := dk_of I.hok ha
  refine DT.callItems (es := es) (ep := ep) hd ⟨o, ho, hx, hdat⟩ ?_
  exact ⟨.ref s.heap.objs.size, upd H s.heap.objs.size (itemsO s.heap.objs.size a), I.laid (t' := s.toks) (fun b u e => Heap.get?_push_of_some _ e) (Nat.le_refl _) (itemsO_ok (Heap.get?_push_size _ rfl)), rfl, q _ (I.hok.fresh (Nat.le_refl _))⟩
/-- tuples that lie there are told -/
theorem takeZ {pins : List (Addr × Obj)} {σ : L2.St} {H0 : Hp} {s : Shared} {h' : Heap} {tk : Nat} (I0 : Inv X pins σ H0 s) : ∀ (Ls : List (Addr × Obj × List V)) (H1 : Hp), Inv X pins σ H1 { s with heap := h', toks := tk } → (Ls.map (·.1)).Nodup →
    (∀ z ∈ Ls, s.heap.objs.size ≤ z.1 ∧ H1 z.1 = none ∧ ∀ H2, ObjOk X.prog X.w H2 h' z.1 (.frz z.2.1 (.tup z.2.2))) →
    ∃ H2, Inv X pins σ H2 { s with heap := h', toks := tk } ∧ Same H1 H2 ∧ ∀ z ∈ Ls, H2 z.1 = some (.frz z.2.1 (.tup z.2.2))
  | [], H1, I1, _, _ => ⟨H1, I1, Same.refl H1, fun _ h => nomatch h⟩
  | z :: Ls, H1, I1, hn, h => by
    obtain ⟨hb, hnone, ok⟩ := h z (List.mem_cons_self ..)
    have I2 : Inv X pins σ (upd H1 z.1 (.frz z.2.1 (.tup z.2.2))) { s with heap := h', toks := tk } := I1.take (h' := h') (t' := tk) (fun b ob _ e => e) (I0.fpOk hb hnone) (ok _)
    rw [List.map_cons, List.nodup_cons] at hn
    obtain ⟨H2, I3, g, q⟩ := takeZ I0 Ls _ I2 hn.2 fun c hc => by
      obtain ⟨c1, c2, c3⟩ := h c (List.mem_cons_of_mem _ hc)
      exact ⟨c1, by rw [upd_ne (fun e => hn.1 (by rw [← e]; exact List.mem_map_of_mem hc))]; exact c2, c3⟩
    refine ⟨H2, I3, (same_upd hnone).trans g, fun c hc => ?_⟩
    rcases List.mem_cons.mp hc with rfl | hc
    · exact g _ _ upd_same
    · exact q c hc
/-- the three lists side by side -/
theorem kv_three : ∀ {ks : List (Str × V)} {vs : List (L2.Key × Value)} {es : List DictEntry} , KV (ks.map fun e => ((Sum.inr e.1 : L2.Key), e.2)) vs → Pairs (mixKind X.prog X.w) es vs →
    ∃ ts : List (Str × V × Value), ks = ts.map (fun t => (t.1, t.2.1)) ∧ (∀ t ∈ ts, RelV t.2.1 t.2.2) ∧ es.length = ts.length ∧ ∀ (j : Nat) (e : DictEntry), es[j]? = some e → ∃ t k, ts[j]? = some t ∧ e.key = .str t.1 k ∧ e.val = t.2.2
  | [], vs, es, h, p => by
    cases h
    cases p
    exact ⟨[], rfl, fun t ht => by simp at ht, rfl, fun j e h => by simp at h⟩
  | k :: ks, vs, es, h, p => by
    cases h with
    | cons r t =>
      cases p with
      | cons hk hv pt =>
        rename_i q vs' e es'
        obtain ⟨ts, g1, g2, g3, g4⟩ := kv_three t pt
        obtain ⟨r1, r2⟩ := r
        have key : ∃ tok, e.key = .str k.1 tok := by
          rw [← r1] at hk
          rcases keyIs_shape (show keyIs (Sum.inr k.1) e.key = true from hk) with ⟨i, tt, e1, e2⟩ | ⟨x, tt, e1, e2⟩
          · cases e1
          · cases e1; exact ⟨_, e2⟩
        obtain ⟨tok, htok⟩ := key
        refine ⟨(k.1, k.2, q.2) :: ts, by rw [List.map_cons, ← g1], fun t ht => ?_, by simp [g3], fun j e' he => ?_⟩
        · rcases List.mem_cons.mp ht with rfl | ht
          · exact r2
          · exact g2 t ht
        · cases j with
          | zero => simp at he; subst he; exact ⟨_, tok, rfl, htok, hv⟩
          | succ j => simpa using g4 j e' (by simpa using he)
theorem cr_sortZ (hc : X.calm = true) : CallR X (.builtin "sorted") rSortZ := by
  rintro pins s σ H vs us Q I r ⟨p, a, ks, rfl, hp, ha, leaf, q⟩
  obtain ⟨u, rfl, rx⟩ := r.one
  cases rx
  have view : s.heap.IsItemsView p a := (show ObjOk X.prog X.w H s.heap p (itemsO p a) from I.hok p _ hp).1
  obtain ⟨room, ns, vs, rel, o, es, ep, ho, hx, hd, _, prs, nd⟩ := dk_of I.hok ha
  obtain ⟨ts, rfl, rv, n1, ents⟩ := kv_three rel prs
  rw [List.length_map, List.length_map] at room
  have n2 : es.size = ts.length := by rw [← Array.length_toList]; exact n1
  have names : ((ts.map fun t => (t.1, t.2.1)).map (·.1)) = ts.map (·.1) := by rw [List.map_map]; rfl
  have ndN : (ts.map (·.1)).Nodup := by
    have e : vs.map (·.1) = (ts.map (·.1)).map fun x => (Sum.inr x : L2.Key) := by
      have := KV.keys rel
      rw [← this, List.map_map, List.map_map, List.map_map]; rfl
    rw [e] at nd
    exact (List.pairwise_map.mp nd).imp fun h e => h (by rw [e])
  refine so_items (A := X.A) (ks := ts.map fun t => (t.1, t.2.2)) (I.ok.hd hc) view ⟨o, ho, hx, hd⟩ (by omega) (by rw [List.length_map]; exact n2) (fun j e he => ?_) (fun z hz => ?_) (by rw [List.map_map]; exact ndN) fun h' tk L ps res => ?_
  · obtain ⟨t, k, ht, hk, hv⟩ := ents j e (by rw [Array.getElem?_toList]; exact he)
    exact ⟨(t.1, t.2.2), k, by rw [List.getElem?_map, ht]; rfl, hk, hv⟩
  · obtain ⟨t, ht, rfl⟩ := List.mem_map.mp hz
    have rt := rv t ht
    rcases leaf (t.1, t.2.1) (List.mem_map.mpr ⟨t, ht, rfl⟩) with ⟨i, e⟩ | ⟨y, e⟩
    · simp only at e; rw [e] at rt; obtain ⟨k, e2⟩ := rt; exact .inl ⟨i, k, e2⟩
    · simp only at e; rw [e] at rt; obtain ⟨k, e2⟩ := rt; exact .inr ⟨y, k, e2⟩
  · obtain ⟨zs, pz, ez⟩ := perm_lift (fun t : Str × V × Value => (t.1, t.2.2)) res.perm ts rfl
    have lz : ps.length = zs.length := by
      have := congrArg List.length ez
      simpa using this.symm
    have pair : ∀ (j : Nat) (z : Addr × Str × Value) (t : Str × V × Value), ps[j]? = some z → zs[j]? = some t → z.2 = (t.1, t.2.2) := fun j z t h1 h2 => by
      have := congrArg (fun l => l[j]?) ez
      simp only [List.getElem?_map, h1, h2, Option.map_some] at this
      exact (Option.some.inj this).symm
    let qs : List (Addr × Str × V) := (ps.zip zs).map fun w => (w.1.1, w.2.1, w.2.2.1)
    have qAt : ∀ z ∈ qs, ∃ (j : Nat) (y : Addr × Str × Value) (t : Str × V × Value), ps[j]? = some y ∧ zs[j]? = some t ∧ z = (y.1, t.1, t.2.1) := fun z hz => by
      obtain ⟨⟨y, t⟩, hw, rfl⟩ := List.mem_map.mp hz
      obtain ⟨j, hj⟩ := List.mem_iff_getElem?.mp hw
      obtain ⟨j1, j2⟩ := List.getElem?_zip_eq_some.mp hj
      exact ⟨j, y, t, j1, j2, rfl⟩
    have q1 : qs.map (·.1) = ps.map (·.1) := by
      show ((ps.zip zs).map _).map _ = _
      rw [List.map_map]
      have e : ((ps.zip zs).map ((fun z : Addr × Str × V => z.1) ∘ fun w => (w.1.1, w.2.1, w.2.2.1))) = ((ps.zip zs).map Prod.fst).map (·.1) := by rw [List.map_map]; rfl
      rw [e, List.map_fst_zip (by omega)]
    have q2 : qs.map (·.2) = zs.map fun t => (t.1, t.2.1) := by
      show ((ps.zip zs).map _).map _ = _
      rw [List.map_map]
      have e : ((ps.zip zs).map ((fun z : Addr × Str × V => z.2) ∘ fun w => (w.1.1, w.2.1, w.2.2.1))) = ((ps.zip zs).map Prod.snd).map (fun t => (t.1, t.2.1)) := by rw [List.map_map]; rfl
      rw [e, List.map_snd_zip (by omega)]
    have pnames : ps.map (fun z => z.2.1) = zs.map (·.1) := by
      have := congrArg (List.map Prod.fst) ez
      rw [List.map_map, List.map_map] at this
      exact this.symm
    obtain ⟨n, hL⟩ := res.lst
    have lenP : ps.length = ts.length := by
      have := res.perm.length_eq
      simpa using this
    have hLn : H L = none := I.hok.fresh res.new
    have I1 : Inv X pins σ H { s with heap := h', toks := tk } := I.kept (t' := tk) res.old
    have I2 : Inv X pins σ (upd H L (.lst (qs.map fun z => V.ref z.1))) { s with heap := h', toks := tk } := by
      refine I1.take (h' := h') (t' := tk) (fun b ob _ e => e) (I.fpOk res.new hLn) ⟨?_, _, n, ?_, hL⟩
      · rw [List.length_map]
        have : qs.length = ps.length := by have := congrArg List.length q1; simpa using this
        omega
      · have e1 : qs.map (fun z => V.ref z.1) = (ps.map (·.1)).map V.ref := by
          have e0 : qs.map (fun z => V.ref z.1) = (qs.map (·.1)).map V.ref := (List.map_map (l := qs) (f := fun z : Addr × Str × V => z.1) (g := V.ref)).symm
          rw [e0, q1]
        have e2 : ps.map (fun z => Value.ref z.1) = (ps.map (·.1)).map Value.ref := by rw [List.map_map]; rfl
        rw [e1, e2]
        exact vals_refs _
    obtain ⟨H2, I3, sm, told⟩ := takeZ I ((ps.zip zs).map fun w => (w.1.1, (h'.get? w.1.1).getD (tupO []), [V.str w.2.1, w.2.2.1])) _ I2 (by
        have e : (((ps.zip zs).map fun w => (w.1.1, (h'.get? w.1.1).getD (tupO []), [V.str w.2.1, w.2.2.1])).map (·.1)) = ((ps.zip zs).map Prod.fst).map (·.1) := by rw [List.map_map, List.map_map]; rfl
        rw [e, List.map_fst_zip (by omega)]
        exact res.nd) (fun z hz => by
        obtain ⟨⟨y, t⟩, hw, rfl⟩ := List.mem_map.mp hz
        obtain ⟨j, hj⟩ := List.mem_iff_getElem?.mp hw
        obtain ⟨j1, j2⟩ := List.getElem?_zip_eq_some.mp hj
        obtain ⟨g1, g2, tok, g3⟩ := res.prs y (List.mem_of_getElem? j1)
        have ey := pair j y t j1 j2
        have rt := rv t (pz.mem_iff.mp (List.mem_of_getElem? j2))
        refine ⟨g1, by rw [upd_ne g2]; exact I.hok.fresh g1, fun H2 => ?_⟩
        have e1 : y.2.1 = t.1 := by rw [ey]
        have e2 : y.2.2 = t.2.2 := by rw [ey]
        show ObjOk X.prog X.w H2 h' y.1 (.frz ((h'.get? y.1).getD (tupO [])) (.tup [V.str t.1, t.2.1]))
        rw [g3]
        refine ⟨g3, (by show 2 ≤ sizeLine; decide), [.str y.2.1 tok, y.2.2], .cons ⟨tok, by rw [e1]⟩ (.cons (by rw [e2]; exact rt) .nil), ⟨_, g3, rfl, _, rfl⟩⟩)
    refine ⟨.ref L, H2, I3, rfl, q (by rw [names]; exact ndN) H2 L qs ((same_upd hLn).trans sm) hLn (sm _ _ upd_same) ?_ ?_ fun z hz => ?_⟩
    · rw [q2]; exact pz.map _
    · have e : qs.map (fun z => z.2.1) = ps.map fun z => z.2.1 := by
        have h1 : qs.map (fun z => z.2.1) = (qs.map (·.2)).map (·.1) := (List.map_map (l := qs) (f := fun z : Addr × Str × V => z.2) (g := fun z : Str × V => z.1)).symm
        rw [h1, q2, List.map_map, pnames]; rfl
      rw [e]; exact res.ord
    · obtain ⟨j, y, t, j1, j2, rfl⟩ := qAt z hz
      obtain ⟨g1, g2, tok, g3⟩ := res.prs y (List.mem_of_getElem? j1)
      exact ⟨I.hok.fresh g1, g2, (h'.get? y.1).getD (tupO []), by rw [g3]; rfl, told _ (List.mem_map.mpr ⟨(y, t), List.mem_iff_getElem?.mpr ⟨j, List.getElem?_zip_eq_some.mpr ⟨j1, j2⟩⟩, rfl⟩)⟩
end
end DV
end
section
set_option Elab.async false
set_option linter.all false
set_option maxRecDepth 100000
set_option maxHeartbeats 1000000
namespace DV
open PySem PySem.Spec PyProof.Rows L2
open L2.DX (itemsO itemsO_ok)
def strOf : D → Str
  | .str x => x
  | _ => ⟨#[]⟩
def isStrD : D → Bool
  | .str _ => true
  | _ => false
/-- sorted(d.items()) of a dict from texts to texts and ints -/
def sitG (d : D) : Option Rs := match d with
  | .dict kvs => if (kvs.all fun p => isStrD p.1 && smp1 p.2) = true ∧ kvs.length ≤ 1000 then some (.fr (.list ((sset (kvs.map fun p => strOf p.1)).map fun x => .tuple [.str x, (getK (.inr x) kvs).getD .none]))) else none
  | _ => none
section
variable {X : Cx} {K : KW} {H : Hp} {O : Addr → Prop}
theorem rp_leaf {H' : Hp} {O' : Addr → Prop} {v : V} {d : D} (h : Rp K H O v d) (l : smp1 d = true) : Rp K H' O' v d ∧ ((∃ i, v = .int i) ∨ ∃ y, v = .str y) := by
  cases h with
  | int i => exact ⟨.int i, .inl ⟨i, rfl⟩⟩
  | str x => exact ⟨.str x, .inr ⟨x, rfl⟩⟩
  | _ => cases l
/-- the entries as names and values -/
theorem sit_split : ∀ {ks : List (Key × V)} {kvs : List (D × D)}, RpE K H O ks kvs → (kvs.all fun p => isStrD p.1 && smp1 p.2) = true →
    ∃ ns : List (Str × V), ks = ns.map (fun e => (Sum.inr e.1, e.2)) ∧ kvs.map (fun p => strOf p.1) = ns.map (·.1) ∧ smpK kvs = true ∧ (∀ e ∈ ns, (∃ i, e.2 = .int i) ∨ ∃ y, e.2 = .str y) ∧
      ((ns.map (·.1)).Nodup → ∀ e ∈ ns, ∀ H' O', Rp K H' O' e.2 ((getK (.inr e.1) kvs).getD .none))
  | _, _, .nil, _ => ⟨[], rfl, rfl, rfl, fun e he => by simp at he, fun _ e he => by simp at he⟩
  | _, _, .cons (k := k) (v := v) (d := d) (kvs := kvs) r t, h => by
    rw [List.all_cons, Bool.and_eq_true, Bool.and_eq_true] at h
    obtain ⟨⟨h1, h2⟩, h3⟩ := h
    obtain ⟨ns, g1, g2, g3, g4, g5⟩ := sit_split t h3
    cases k with
    | inl i => cases h1
    | inr x =>
      refine ⟨(x, v) :: ns, by rw [g1]; rfl, by rw [List.map_cons, List.map_cons, g2]; rfl, ?_, fun e he => ?_, fun nd e he H' O' => ?_⟩
      · show ((keyD (.inr x), d) :: kvs).all (fun p => smp1 p.1) = true
        rw [List.all_cons]; exact g3
      · rcases List.mem_cons.mp he with rfl | he
        · exact (rp_leaf (H' := H) (O' := O) r h2).2
        · exact g4 e he
      · rw [List.map_cons, List.nodup_cons] at nd
        rcases List.mem_cons.mp he with rfl | he
        · unfold getK
          rw [if_pos (by rfl)]
          exact (rp_leaf r h2).1
        · unfold getK
          rw [if_neg (fun z => nd.1 (by
            have e2 : (Sum.inr x : L2.Key) = Sum.inr e.1 := Option.some.inj ((dKey_keyD (.inr x)).symm.trans z)
            rw [Sum.inr.inj e2]
            exact List.mem_map.mpr ⟨e, he, rfl⟩))]
          exact g5 nd.2 e he H' O'
theorem rp_pairs {g : Str → D} : ∀ (ps : List (Addr × Str × V)), (∀ z ∈ ps, Rp K H O (.ref z.1) (g z.2.1)) → RpL K H O (ps.map fun z => V.ref z.1) ((ps.map fun z => z.2.1).map g)
  | [], _ => .nil
  | z :: ps, h => .cons (h z (List.mem_cons_self ..)) (rp_pairs ps fun y hy => h y (List.mem_cons_of_mem _ hy))
theorem de_sit {f : M Rs} {p pos apos cpos : Pos} {e : Expr} (hc : X.calm = true) (he : PE X e (tE X.KW f)) (hm : X.mg "sorted" = none) (hg : Gl X "sorted" := by rfl)
    (hbase : attributeBase e "items" X.env (eval e X.env) = eval e X.env := by rfl) (hline : (apos.endLine == cpos.line) = true := by rfl)
    (h2 : starEach [.Call (.Attribute e "items" apos) [] [] cpos] X.env = (false, eval (.Call (.Attribute e "items" apos) [] [] cpos) X.env) :: starEach [] X.env := by rfl)
    (h4 : (backTo pos (starEach [] X.env)).any (·.1) = false := by rfl) :
    PE X (.Call (.Name "sorted" p) [.Call (.Attribute e "items" apos) [] [] cpos] [] pos) (tE X.KW (op1 sitG f)) :=
  PE.weak (pe_callB (cr_sortZ hc) hg hm boot_sorted (pa_cons (pe_bm0 PySem.F.plainAttrs_dict PySem.F.slot_dict_items PySem.F.type_dict_items mt_itemsK he hbase hline) pa_nil h2) (by decide) (by decide) h2 h4) (by
  rintro σ H Q ⟨γ, e, Z, res, e', R, h, k⟩
  obtain ⟨ra, e1, h1, ha⟩ := bnd_eq h
  obtain ⟨d, e2, h2, hb⟩ := bnd_eq ha
  obtain ⟨q1, rfl⟩ := rdM_eq h2
  obtain ⟨q2, rfl⟩ := opt_eq hb
  refine ⟨γ, e, Z, ra, e', R, h1, fun x H1 kp sh P => ?_⟩
  obtain ⟨Z1, h01, hf, R1, A1⟩ := P.one
  have rx := A1.rd R1 q1
  unfold sitG at q2
  split at q2
  · rename_i kvs
    split at q2
    · rename_i c
      cases q2
      have sm : smpK kvs = true := by
        have := c.1
        rw [List.all_eq_true] at this
        show (kvs.all fun p => smp1 p.1) = true
        rw [List.all_eq_true]
        intro p hp
        have h9 := this p hp
        rw [Bool.and_eq_true] at h9
        cases hp1 : p.1 with
        | str x => rfl
        | _ => rw [hp1] at h9; cases h9.1
      obtain ⟨a, ks, rfl, ea, r⟩ := rx.dct sm
      obtain ⟨ns, g1, g2, _, g4, g5⟩ := sit_split r c.1
      refine ⟨.inr (.inr (.inl ⟨rfl, .inl ⟨ks, ea⟩⟩)), a, ks, rfl, rfl, ea, fun b hb1 => ?_⟩
      have neb : a ≠ b := fun z => by rw [z, hb1] at ea; cases ea
      refine ⟨b, a, ns, rfl, upd_same, by rw [upd_ne neb, ea, g1], g4, fun nd H' L ps sme hL atL perm ord prs => ?_⟩
      have hL1 : H1 L = none := by
        cases z : H1 L with
        | none => rfl
        | some o => rw [same_upd hb1 L o z] at hL; cases hL
      let Hm : Hp := fun y => if y = L then none else H' y
      have eH : upd Hm L (.lst (ps.map fun z => V.ref z.1)) = H' := by
        funext y
        by_cases z : y = L
        · rw [z, upd_same, atL]
        · rw [upd_ne z]; exact if_neg z
      have s1 : Same H1 Hm := fun y o hy => by
        have ny : y ≠ L := fun z => by rw [z, hL1] at hy; cases hy
        show (if y = L then none else H' y) = some o
        rw [if_neg ny]
        exact sme y o (same_upd hb1 y o hy)
      have nm : ps.map (fun z => z.2.1) = sset (kvs.map fun p => strOf p.1) := by
        refine up_eq ord (up_sset _) fun z => ?_
        rw [mem_sset, g2]
        have e3 : (ps.map fun z => z.2.1) = (ps.map (·.2)).map (·.1) := by rw [List.map_map]; rfl
        rw [e3]
        exact (perm.map _).mem_iff
      have rl : RpL X.KW Hm (Hid γ e'.ρ σ Z1) (ps.map fun z => V.ref z.1) ((sset (kvs.map fun p => strOf p.1)).map fun x => .tuple [.str x, (getK (.inr x) kvs).getD .none]) := by
        rw [← nm]
        refine rp_pairs ps fun z hz => ?_
        obtain ⟨n1, n2, o, od, ho⟩ := prs z hz
        have inN : z.2 ∈ ns := perm.mem_iff.mp (List.mem_map_of_mem hz)
        refine .tup (.inl ⟨⟨o, by show (if z.1 = L then none else H' z.1) = _; rw [if_neg n2]; exact ho, od⟩, fun hid => ?_⟩) (.cons (.str _) (.cons (g5 nd z.2 inN _ _) .nil))
        obtain ⟨u, hu⟩ := Hid.tr R1 hid
        rw [same_upd hb1 _ _ hu] at n1; cases n1
      obtain ⟨kp2, P2⟩ := (Gr.lst (K := X.KW) (O := Hid γ e'.ρ σ Z1) s1 (show Hm L = none from if_pos rfl) rl).pst R1
      rw [eH] at kp2 P2
      exact k _ H' (kp.trans sh kp2) sh (Pst.next (rs0 := []) (xs0 := []) kp h01 hf P2)
    · cases q2
  · cases q2)
end
end DV
end
section
set_option Elab.async false
set_option linter.all false
set_option maxRecDepth 100000
set_option maxHeartbeats 1000000
namespace DV
open PySem PySem.Spec PyProof.Rows L2
open PySem.SeqAt (EqP)
open PySem.MeetsSeq
/-! ### a dict in a list of dicts -/
section
variable {prog : Program} {w : World}
open AutoSeq1 (wpAny_loadPart') in
theorem scanP (l : Addr) (items : Array Value) (n : Nat) (dd : Option Addr) (sl : Array (Option Value)) (x : Value) (e : Value → Bool) (left : Nat) :
    ∀ i : Nat, items.size - i = left → MeetsIn prog w (Builtin.«list.__contains__.loop» ⟨[.ref l, x, rawInt i], []⟩)
      (fun A R s => s.heap.get? l = some { cls := .type "list", dict := dd, data := .seq items n, slots := sl } ∧ (∀ y, y ∈ items → EqP prog w A.in1 s y x (e y)) ∧ R (.ok (.ret (.bool ((items.toList.drop i).any e)))) s) := by
  induction left with
  | zero =>
    intro i hk A R s given
    cases s
    rename_i hp g d tk os
    obtain ⟨hl, _, goal⟩ := given
    wp_walk using wpAny_loadPart' hl
    rw [show items.toList.drop i = [] by simp; omega] at goal
    rw [show items[((i : Nat) : Int).toNat]? = none by simp; omega]
    wp_walk
    exact goal
  | succ left ih =>
    intro i hk A R s given
    cases s
    rename_i hp g d tk os
    obtain ⟨hl, he, goal⟩ := given
    wp_walk using wpAny_loadPart' hl
    have lt : i < items.size := by omega
    rw [show items.toList.drop i = items[i] :: items.toList.drop (i + 1) by simp [List.drop_eq_getElem_cons, lt], List.any_cons] at goal
    rw [show items[((i : Nat) : Int).toNat]? = some items[i] by simp [lt]]
    refine wpAny_bind (he _ (Array.getElem_mem lt) _ _ ?_)
    cases hb : e items[i]
    · rw [hb] at goal
      wp_walk
      rw [show ((i : Int) + 1) = ((i + 1 : Nat) : Int) by push_cast; rfl]
      exact ⟨plainId_quiet plain_contains_loop _, codeAny_builtin entry_contains_loop (by
        rw [Around.under_plainId plain_contains_loop _]
        exact ih (i + 1) (by omega) A R _ ⟨hl, he, by simpa using goal⟩)⟩
    · rw [hb] at goal
      wp_walk
      exact goal
open AutoSeq1 (wpAny_loadPart') in
theorem hasP (l : Addr) (items : Array Value) (n : Nat) (dd : Option Addr) (sl : Array (Option Value)) (x : Value) (e : Value → Bool) :
    MeetsIn prog w (Builtin.«list.__contains__» ⟨[.ref l, x], []⟩)
      (fun A R s => s.heap.get? l = some { cls := .type "list", dict := dd, data := .seq items n, slots := sl } ∧ (∀ y, y ∈ items → EqP prog w A.in1 s y x (e y)) ∧ R (.ok (.ret (.bool (items.any e)))) s) := by
  intro A R s given
  cases s
  rename_i hp g d tk os
  obtain ⟨hl, he, goal⟩ := given
  wp_walk using wpAny_loadPart' hl
  exact ⟨plainId_quiet plain_contains_loop _, codeAny_builtin entry_contains_loop (by
    rw [Around.under_plainId plain_contains_loop _]
    exact scanP l items n dd sl x e _ 0 rfl A R _ ⟨hl, he, by simpa using goal⟩)⟩
theorem hasP_not {A : Around} {E : Value → Shared → Prop} {s : Shared} {l : Addr} {items : Array Value} {x : Value} {Q : Value → Shared → Prop} (e : Value → Bool) (hl : s.heap.IsList l items) (he : ∀ y, y ∈ items → EqP prog w A.in1 s y x (e y))
    (h : Q (.bool (!items.any e)) s) : wpAny (model prog w) A (compareOp .NotIn x (.ref l)) Q E s := by
  obtain ⟨⟨cls, dd, data, sl⟩, ho, c1, n, c2⟩ := id hl
  obtain rfl : cls = .type "list" := c1
  obtain rfl : data = .seq items n := c2
  show wpAny (model prog w) A (PySem.contains (.ref l) x >>= fun b => pure (Value.bool (!b))) Q E s
  refine wpAny_bind (PySem.wpAny_contains_slot ⟨_, ho, rfl⟩ F.slot_list_contains (wpAny_mono (call_meetsIn (Q := fun v s' => ∃ b, v = Value.bool b ∧ Q (.bool (!b)) s') F.slot_list_contains ⟨_, ho, rfl⟩ F.entry_list_contains (F.args_list_contains_2 _ _) (hasP l items n dd sl x e) ⟨ho, he, ?_⟩) (fun v s' hv => ?_) fun _ _ e => e))
  · exact ⟨_, rfl, h⟩
  · obtain ⟨b, rfl, hq⟩ := hv
    exact wpAny_truthy_bool (wpAny_pure hq)
theorem hasP_in {A : Around} {E : Value → Shared → Prop} {s : Shared} {l : Addr} {items : Array Value} {x : Value} {Q : Value → Shared → Prop} (e : Value → Bool) (hl : s.heap.IsList l items) (he : ∀ y, y ∈ items → EqP prog w A.in1 s y x (e y))
    (h : Q (.bool (items.any e)) s) : wpAny (model prog w) A (compareOp .In x (.ref l)) Q E s := by
  obtain ⟨⟨cls, dd, data, sl⟩, ho, c1, n, c2⟩ := id hl
  obtain rfl : cls = .type "list" := c1
  obtain rfl : data = .seq items n := c2
  show wpAny (model prog w) A (PySem.contains (.ref l) x >>= fun b => pure (Value.bool b)) Q E s
  refine wpAny_bind (PySem.wpAny_contains_slot ⟨_, ho, rfl⟩ F.slot_list_contains (wpAny_mono (call_meetsIn (Q := fun v s' => ∃ b, v = Value.bool b ∧ Q (.bool b) s') F.slot_list_contains ⟨_, ho, rfl⟩ F.entry_list_contains (F.args_list_contains_2 _ _) (hasP l items n dd sl x e) ⟨ho, he, ?_⟩) (fun v s' hv => ?_) fun _ _ e => e))
  · exact ⟨_, rfl, h⟩
  · obtain ⟨b, rfl, hq⟩ := hv
    exact wpAny_truthy_bool (wpAny_pure hq)
end
/-! on data -/
def dEq (a b : List (D × D)) : Bool := a.length == b.length && a.all fun p => match dKey p.1 with
  | some k => (match getK k b with
    | some y => PyData.eqv p.2 y
    | none => false)
  | none => false
def dctL : D → Option (List (D × D))
  | .dict kvs => if smpK kvs = true ∧ kvs.all (fun p => smp1 p.2) = true then some kvs else none
  | _ => none
theorem dctL_eq {d : D} {kvs : List (D × D)} (h : dctL d = some kvs) : d = .dict kvs ∧ smpK kvs = true ∧ kvs.all (fun p => smp1 p.2) = true := by
  unfold dctL at h
  split at h
  · split at h
    · rename_i c; cases h; exact ⟨rfl, c⟩
    · cases h
  · cases h
section
variable {X : Cx} {K : KW} {H : Hp} {O : Addr → Prop}
/-- leaves compared -/
theorem leaf_eqP {P : Program} {w : World} {A : Around} {s : Shared} {v y : V} {u r : Value} {d c : D} (hd : smp1 d = true) (hc : smp1 c = true) (rv : Rp K H O v d) (ry : Rp K H O y c) (r1 : RelV v u) (r2 : RelV y r) : EqP P w A s u r (PyData.eqv d c) := by
  cases rv with
  | int i =>
    obtain ⟨t, rfl⟩ := r1
    cases ry with
    | int j => obtain ⟨t', rfl⟩ := r2; exact (SeqAt.EqAt.cast (SeqAt.EqAt.int_int i t j t') (by simp [PyData.eqv])).eqP
    | str z => obtain ⟨t', rfl⟩ := r2; exact (SeqAt.EqAt.cast (SeqAt.EqAt.int_str i t z t') (by simp [PyData.eqv])).eqP
    | _ => cases hc
  | str x =>
    obtain ⟨t, rfl⟩ := r1
    cases ry with
    | int j => obtain ⟨t', rfl⟩ := r2; exact (SeqAt.EqAt.cast (SeqAt.EqAt.str_int x t j t') (by simp [PyData.eqv])).eqP
    | str z => obtain ⟨t', rfl⟩ := r2; exact (SeqAt.EqAt.cast (SeqAt.EqAt.str_str x t z t') (by simp [PyData.eqv])).eqP
    | _ => cases hc
  | _ => cases hd
def hitB (b : List (D × D)) (p : D × D) : Bool := match dKey p.1 with
  | some k => (match getK k b with
    | some y => PyData.eqv p.2 y
    | none => false)
  | none => false
theorem getK_leaf {k : L2.Key} : ∀ {b : List (D × D)} {y : D}, b.all (fun p => smp1 p.2) = true → getK k b = some y → smp1 y = true
  | p :: b, y, h, e => by
    rw [List.all_cons, Bool.and_eq_true] at h
    unfold getK at e
    split at e
    · cases e; exact h.1
    · exact getK_leaf h.2 e
theorem dict_hits {P : Program} {w : World} {A : Around} {s : Shared} {ks2 : List (L2.Key × V)} {kvs2 : List (D × D)} {vs2 : List (L2.Key × Value)} (r2 : RpE K H O ks2 kvs2) (l2 : kvs2.all (fun p => smp1 p.2) = true) (rel2 : KV ks2 vs2) :
    ∀ {ks1 : List (L2.Key × V)} {kvs1 : List (D × D)} {vs1 : List (L2.Key × Value)}, RpE K H O ks1 kvs1 → kvs1.all (fun p => smp1 p.2) = true → KV ks1 vs1 → PySem.W.KeqHitsP P w A s vs2 vs1 (kvs1.all (hitB kvs2))
  | _, _, _, .nil, _, rel => by cases rel; exact .nil
  | _, _, _, .cons (k := k) (v := v) (d := d) (kvs := kvs) rv t, l, rel => by
    rw [List.all_cons, Bool.and_eq_true] at l
    cases rel with
    | cons h relT =>
      rename_i q vs1
      obtain ⟨qk, qv⟩ := q
      obtain ⟨e1, ru⟩ := h
      simp only at e1 ru
      subst e1
      rw [List.all_cons]
      have hb : hitB kvs2 (keyD k, d) = (match getK k kvs2 with | some y => PyData.eqv d y | none => false) := by unfold hitB; rw [dKey_keyD]
      have rk := rel2.val k
      rcases r2.get k with ⟨g1, g2⟩ | ⟨v', d', g1, g2, g3⟩
      · rw [hb, g2]
        rw [g1] at rk
        cases q1 : valueAt vs2 k with
        | none => exact .miss q1
        | some u => rw [q1] at rk; exact (show False from rk).elim
      · rw [hb, g2]
        rw [g1] at rk
        cases q1 : valueAt vs2 k with
        | none => rw [q1] at rk; exact (show False from rk).elim
        | some u =>
          rw [q1] at rk
          exact .hit q1 (leaf_eqP l.1 (getK_leaf l2 g2) rv g3 ru (show RelV v' u from rk)) (dict_hits r2 l2 rel2 t l.2 relT)
theorem dict_eqP {pins : List (Addr × Obj)} {σ : L2.St} {s : Shared} {A : Around} (I : Inv X pins σ H s) (hu : A.units < cLine) {a b : Addr} {ks1 ks2 : List (L2.Key × V)} {kvs1 kvs2 : List (D × D)} (ne : a ≠ b) (h1 : H a = some (.dK ks1)) (h2 : H b = some (.dK ks2))
    (r1 : RpE K H O ks1 kvs1) (r2 : RpE K H O ks2 kvs2) (l1 : kvs1.all (fun p => smp1 p.2) = true) (l2 : kvs2.all (fun p => smp1 p.2) = true) : EqP X.prog X.w A s (.ref a) (.ref b) (dEq kvs1 kvs2) := by
  obtain ⟨_, n1, vs1, rel1, d1⟩ := dk_of I.hok h1
  obtain ⟨_, n2, vs2, rel2, d2⟩ := dk_of I.hok h2
  have e1 : vs1.length = kvs1.length := by rw [← r1.length, Paired.length rel1]
  have e2 : vs2.length = kvs2.length := by rw [← r2.length, Paired.length rel2]
  refine SeqAt.eqP_refs ne fun E Q h => PySem.W.rcP_dicts (knd := mixKind X.prog X.w) n1 n2 d1 d2 hu (fun _ => dict_hits r2 l2 rel2 r1 l1 rel1) E Q ?_
  rw [e1, e2]
  exact h
theorem getK_mem : ∀ {kvs : List (D × D)} {ks : List (L2.Key × V)}, RpE K H O ks kvs → (ks.map (·.1)).Nodup → kvs.all (fun p => smp1 p.2) = true → ∀ p ∈ kvs, hitB kvs p = true
  | kvs, ks, r, nd, l => by
    have key : ∀ {ks' : List (L2.Key × V)} {kvs' : List (D × D)}, RpE K H O ks' kvs' → (ks'.map (·.1)).Nodup → ∀ p ∈ kvs', ∃ k, dKey p.1 = some k ∧ k ∈ ks'.map (·.1) ∧ getK k kvs' = some p.2 := by
      intro ks' kvs' r'
      induction kvs' generalizing ks' with
      | nil => intro _ p hp; simp at hp
      | cons c cs ih =>
        intro nd' p hp
        cases r' with
        | cons rv t =>
          rename_i k v ks2 d
          rw [List.map_cons, List.nodup_cons] at nd'
          rcases List.mem_cons.mp hp with rfl | hp
          · refine ⟨k, dKey_keyD k, List.mem_cons_self .., ?_⟩
            unfold getK; rw [if_pos (dKey_keyD k)]
          · obtain ⟨k', g1, g2, g3⟩ := ih t nd'.2 p hp
            refine ⟨k', g1, List.mem_cons_of_mem _ g2, ?_⟩
            unfold getK
            rw [if_neg (fun z => nd'.1 (by rw [dKey_keyD] at z; rw [Option.some.inj z]; exact g2))]
            exact g3
    intro p hp
    obtain ⟨k, g1, g2, g3⟩ := key r nd p hp
    have lp : smp1 p.2 = true := List.all_eq_true.mp l p hp
    unfold hitB
    rw [g1]
    simp only [g3]
    revert lp
    cases p.2 <;> intro lp <;> first | (simp [smp1] at lp; done) | simp [PyData.eqv]
theorem leaf_same {v : V} {d c : D} (l1 : smp1 d = true) (h1 : Rp K H O v d) (h2 : Rp K H O v c) (l2 : smp1 c = true) : d = c := by
  cases h1 with
  | int i => cases h2; rfl
  | str x => cases h2; rfl
  | _ => cases l1
theorem RpE.same : ∀ {ks : List (L2.Key × V)} {a b : List (D × D)}, RpE K H O ks a → RpE K H O ks b → a.all (fun p => smp1 p.2) = true → b.all (fun p => smp1 p.2) = true → a = b
  | _, _, _, .nil, r2, _, _ => by cases r2; rfl
  | _, _, _, .cons r t, r2, l1, l2 => by
    cases r2 with
    | cons r' t' =>
      rw [List.all_cons, Bool.and_eq_true] at l1 l2
      have e1 := leaf_same l1.1 r r' l2.1
      have e2 := RpE.same t t' l1.2 l2.2
      simp only at e1
      rw [e1, e2]
theorem eqP_self {P : Program} {w : World} {A : Around} {s : Shared} (b : Addr) : EqP P w A s (.ref b) (.ref b) true := (SeqAt.EqAt.same (.ref b)).eqP
def dOf : D → List (D × D)
  | .dict kvs => kvs
  | _ => []
def rHasD (K : KW) (neg : Bool) : R2 := fun x y H Q => ∃ (O : Addr → Prop) (b l : Addr) (xs : List V) (ks : List (L2.Key × V)) (kx : List (D × D)) (ds : List D), x = .ref b ∧ y = .ref l ∧ SqL K H l xs ∧ RpL K H O xs ds ∧ H b = some (.dK ks) ∧ RpE K H O ks kx ∧ kx.all (fun p => smp1 p.2) = true ∧
  (∀ d ∈ ds, (dctL d).isSome = true) ∧ Q (.bl (neg != (ds.any fun d => dEq (dOf d) kx))) H
open Classical in
theorem hasD_run {pins : List (Addr × Obj)} {σ : L2.St} {s : Shared} {A : Around} (I : Inv X pins σ H s) (hu : A.units < cLine) {b : Addr} {xs : List V} {its : List Value} {ks : List (L2.Key × V)} {kx : List (D × D)} {ds : List D} (rel : Vals xs its) (rl : RpL X.KW H O xs ds) (hb : H b = some (.dK ks)) (rx : RpE X.KW H O ks kx)
    (lx : kx.all (fun p => smp1 p.2) = true) (all : ∀ d ∈ ds, (dctL d).isSome = true) : ∃ e : Value → Bool, (∀ y, y ∈ its.toArray → EqP X.prog X.w A s y (.ref b) (e y)) ∧ its.toArray.any e = ds.any fun d => dEq (dOf d) kx := by
  have at_ : ∀ (j : Nat) (d : D), ds[j]? = some d → ∃ a kd ks', d = .dict kd ∧ its[j]? = some (.ref a) ∧ H a = some (.dK ks') ∧ RpE X.KW H O ks' kd ∧ kd.all (fun p => smp1 p.2) = true := fun j d hd => by
    obtain ⟨v, hv, rp⟩ := rl.get hd
    obtain ⟨u, hu', ru⟩ := rel.get hv
    obtain ⟨kd, hk⟩ := Option.isSome_iff_exists.mp (all d (List.mem_of_getElem? hd))
    obtain ⟨rfl, sm, lf⟩ := dctL_eq hk
    cases rp with
    | dct h1 n r => cases ru; exact ⟨_, kd, _, rfl, hu', h1, r, lf⟩
    | dcn h1 n ne k r => rw [r.smp ne] at sm; cases sm
  refine ⟨fun u => decide (∃ (j : Nat) (d : D), its[j]? = some u ∧ ds[j]? = some d ∧ dEq (dOf d) kx = true), fun y hy => ?_, ?_⟩
  · obtain ⟨j, hj⟩ := List.mem_iff_getElem?.mp (by simpa using hy)
    have lj : j < ds.length := by
      have h1 := (List.getElem?_eq_some_iff.mp hj).1
      have h2 := rl.length
      have h3 := rel.length
      omega
    obtain ⟨a, kd, ks', ed, ha, h1, r1, l1⟩ := at_ j ds[j] (List.getElem?_eq_getElem lj)
    rw [hj] at ha; cases ha
    have same : (decide (∃ (j : Nat) (d : D), its[j]? = some (.ref a) ∧ ds[j]? = some d ∧ dEq (dOf d) kx = true)) = dEq kd kx := by
      cases c : dEq kd kx with
      | true => exact decide_eq_true ⟨j, ds[j], hj, List.getElem?_eq_getElem lj, by rw [ed]; exact c⟩
      | false =>
        refine decide_eq_false fun ⟨i, d, g1, g2, g3⟩ => ?_
        obtain ⟨a', kd', ks2, rfl, ha', h1', r1', l1'⟩ := at_ i d g2
        rw [g1] at ha'; cases ha'
        rw [h1] at h1'; cases h1'
        have := r1.same r1' l1 l1'
        subst this
        rw [show dEq (dOf (.dict kd)) kx = dEq kd kx from rfl, c] at g3; cases g3
    show EqP X.prog X.w A s (.ref a) (.ref b) (decide (∃ (j : Nat) (d : D), its[j]? = some (.ref a) ∧ ds[j]? = some d ∧ dEq (dOf d) kx = true))
    rw [same]
    by_cases ab : a = b
    · subst ab
      rw [h1] at hb; cases hb
      have := r1.same rx l1 lx
      subst this
      have nd : (ks.map (·.1)).Nodup := by
        obtain ⟨_, _, vs, relv, dd⟩ := dk_of I.hok h1
        obtain ⟨_, _, _, _, _, _, _, _, nd⟩ := dd
        rw [KV.keys relv]; exact nd
      have refl : dEq kd kd = true := by
        unfold dEq
        rw [Bool.and_eq_true]
        exact ⟨by simp, List.all_eq_true.mpr fun p hp => getK_mem r1 nd l1 p hp⟩
      rw [refl]
      exact eqP_self a
    · exact dict_eqP I hu ab h1 hb r1 rx l1 lx
  · rw [Bool.eq_iff_iff]
    simp only [Array.any_eq_true', List.any_eq_true, decide_eq_true_eq]
    constructor
    · rintro ⟨u, _, j, d, g1, g2, g3⟩
      exact ⟨d, List.mem_of_getElem? g2, g3⟩
    · rintro ⟨d, hd, g3⟩
      obtain ⟨j, hj⟩ := List.mem_iff_getElem?.mp hd
      obtain ⟨a, kd, ks', ed, ha, _⟩ := at_ j d hj
      exact ⟨.ref a, by simpa using List.mem_of_getElem? ha, j, d, ha, hj, g3⟩
theorem op_notHasD (hu : X.A.units + 65 < cLine) : OpR X (compareOp .NotIn) (rHasD X.KW true) := by
  rintro pins s σ H x y v u Q I rx ry ⟨O, b, l, xs, ks, kx, ds, rfl, rfl, sq, rl, hb, rk, lx, all, q⟩
  cases rx; cases ry
  obtain ⟨its, rel, p, _⟩ := I.list sq
  obtain ⟨e, he, ea⟩ := hasD_run (A := X.A.in1) I (show X.A.units + 1 < cLine by omega) rel rl hb rk lx all
  refine hasP_not e p.isList he (fin_bl I q ?_)
  rw [ea]; cases ds.any _ <;> rfl
theorem op_hasD (hu : X.A.units + 65 < cLine) : OpR X (compareOp .In) (rHasD X.KW false) := by
  rintro pins s σ H x y v u Q I rx ry ⟨O, b, l, xs, ks, kx, ds, rfl, rfl, sq, rl, hb, rk, lx, all, q⟩
  cases rx; cases ry
  obtain ⟨its, rel, p, _⟩ := I.list sq
  obtain ⟨e, he, ea⟩ := hasD_run (A := X.A.in1) I (show X.A.units + 1 < cLine by omega) rel rl hb rk lx all
  refine hasP_in e p.isList he (fin_bl I q ?_)
  rw [ea]; cases ds.any _ <;> rfl
/-- not in, in: a dict in a list of dicts -/
def hasDG (neg : Bool) (x y : D) : Option Rs := match dctL x, y with
  | some kx, .list ds => if ds.all (fun d => (dctL d).isSome) = true then boolR (neg != (ds.any fun d => dEq (dOf d) kx)) else none
  | _, _ => none
theorem o_hasD (neg : Bool) : Op2 K (rHasD K neg) (hasDG neg) := fun H O x y dx dy res Q tr rx ry q k => by
  unfold hasDG at q
  split at q
  · rename_i kx ds hx
    split at q
    · rename_i all
      cases q
      obtain ⟨rfl, sm, lf⟩ := dctL_eq hx
      obtain ⟨b, ks, rfl, hb, rk⟩ := rx.dct sm
      obtain ⟨l, xs, rfl, sq, rl⟩ := ry.lst
      exact ⟨O, b, l, xs, ks, kx, ds, rfl, rfl, sq, rl, hb, rk, lf, List.all_eq_true.mp all, k _ H (.same (.bl _))⟩
    · cases q
  · cases q
end
end DV
end
section
set_option Elab.async false
set_option linter.all false
set_option maxRecDepth 100000
namespace DV
open PySem PySem.Spec PyProof.Rows L2
/-! ### a value handed on for good -/
def gvM (f : M Rs) : M Rs := bnd f fun r => bnd (als r) fun d => ret (.fz d)
theorem tE_gv {K : KW} {f : M Rs} : ∀ σ H Q, tE K (gvM f) σ H Q → tE K f σ H Q := by
  rintro σ H Q ⟨γ, e, Z, res, e', R, h, k⟩
  obtain ⟨r, e1, h1, ha⟩ := bnd_eq h
  obtain ⟨d, e2, h2, hb⟩ := bnd_eq ha
  cases hb
  refine ⟨γ, e, Z, r, e1, R, h1, fun v H1 kp sh P => ?_⟩
  obtain ⟨Z1, h01, hf, R1, A1⟩ := P.one
  obtain ⟨Z2, h02, h21, R2, rp, sh2⟩ := als_ok h2 h01 R1 A1
  exact k v H1 kp (sh.trans sh2) ⟨Z2, h02, fun a z => hf a (h21 a z), R2, .cons rp .nil⟩
theorem de_gv {X : Cx} {e : Expr} {f : M Rs} (h : PE X e (tE X.KW f)) : PE X e (tE X.KW (gvM f)) := PE.weak h tE_gv
@[simp] theorem gvM_ap {f : M Rs} {e : En} : gvM f e = bnd f (fun r => bnd (als r) fun d => ret (.fz d)) e := rfl
end DV
end
section
set_option Elab.async false
set_option linter.all false
set_option maxRecDepth 100000
set_option maxHeartbeats 4000000
namespace DV
open PySem PySem.Spec PyProof.Rows L2 HT
/-! ### t[::-1] -/
section
variable {prog : Program} {w : World} {A : Around} {E : Value → Shared → Prop} {s : Shared}
theorem sliceApplied_rev {sl : Addr} {vk : Value} {n : Nat} {Q : Int × Int × Nat → Shared → Prop} (hs : s.heap.IsSliceOf sl .none .none vk) (pk : IsPart vk (some (-1)))
    (h : Q ((n : Int) - 1, -1, n) s) : wpAny (model prog w) A (Builtin.Slice.sliceApplied (.ref sl) (pure (n : Int))) Q E s := by
  obtain ⟨os, hos, hcs, hds⟩ := id hs
  unfold Builtin.Slice.sliceApplied Builtin.Slice.sliceFields
  refine wpAny_bind (wpAny_bind (wpAny_field hos hds (x := .none) rfl (wpAny_bind (wpAny_field hos hds (x := .none) rfl (wpAny_bind (wpAny_field hos hds (x := vk) rfl (wpAny_pure ?_)))))))
  refine wpAny_bind (slicePart_ pk ?_)
  show wpAny _ _ (if ((-1 : Int) == 0) = true then _ else _) _ _ s
  rw [if_neg (by decide)]
  refine wpAny_bind (slicePart_none (wpAny_bind (slicePart_none (wpAny_bind (wpAny_pure ?_)))))
  show wpAny _ _ (pure ((n : Int) - 1, (-1 : Int), Builtin.Slice.slicePlaces ((n : Int) - 1) (-1) (-1))) _ _ s
  have e : Builtin.Slice.slicePlaces ((n : Int) - 1) (-1) (-1) = n := by
    unfold Builtin.Slice.slicePlaces
    have h1 : ¬ ((-1 : Int) > 0) := by decide
    by_cases c : (n : Int) - 1 > -1
    · have e : ((n : Int) - 1 - -1 - 1) / (- -1) + 1 = (n : Int) := by
        rw [show (- -1 : Int) = 1 by decide, Int.ediv_one]; omega
      simp only [h1, if_false, c, if_true, e, Int.toNat_natCast]
    · have : n = 0 := by omega
      subst this
      simp
  rw [e]
  exact wpAny_pure h
theorem fm_range {α : Type} : ∀ l : List α, (List.range l.length).filterMap (fun k => l[k]?) = l
  | [] => rfl
  | a :: l => by
    rw [List.length_cons, List.range_succ_eq_map, List.filterMap_cons]
    simp only [List.getElem?_cons_zero, List.filterMap_map]
    have : (fun k => (a :: l)[k]?) ∘ Nat.succ = fun k => l[k]? := by funext k; simp
    rw [this, fm_range l]
theorem fm_congr {α β : Type} {f g : α → Option β} : ∀ {l : List α}, (∀ x ∈ l, f x = g x) → l.filterMap f = l.filterMap g
  | [], _ => rfl
  | a :: l, h => by
    rw [List.filterMap_cons, List.filterMap_cons, h a (List.mem_cons_self ..), fm_congr fun x hx => h x (List.mem_cons_of_mem _ hx)]
theorem pick_rev (xs : Array Value) : ((List.range xs.size).filterMap fun (k : Nat) => xs[(((xs.size : Int) - 1) + (k : Int) * (-1)).toNat]?).toArray = xs.toList.reverse.toArray := by
  have e1 : (List.range xs.size).filterMap (fun (k : Nat) => xs[(((xs.size : Int) - 1) + (k : Int) * (-1)).toNat]?) = (List.range xs.size).filterMap fun k => xs.toList.reverse[k]? := by
    refine fm_congr fun k hk => ?_
    have hk' := List.mem_range.mp hk
    have : (((xs.size : Int) - 1) + (k : Int) * (-1)).toNat = xs.size - 1 - k := by omega
    rw [this, List.getElem?_reverse (by simpa using hk')]
    simp
  have := fm_range xs.toList.reverse
  rw [List.length_reverse, Array.length_toList] at this
  rw [e1, this]
theorem getItem_tuple_rev {t sl : Addr} {items : Array Value} {vk : Value} {Q : Value → Shared → Prop} (ht : IsTup s.heap t items) (hs : s.heap.IsSliceOf sl .none .none vk) (pk : IsPart vk (some (-1)))
    (h : Q (.ref s.heap.objs.size) { s with heap := s.heap.push { cls := .type "tuple", data := .seq items.toList.reverse.toArray } })
    (hsz : items.size ≤ sizeLine) : wpAny (model prog w) A (getItem (.ref t) (.ref sl)) Q E s := by
  have htake : sizeOk (.seq items.toList.reverse.toArray) := by
    show items.toList.reverse.toArray.size ≤ sizeLine
    rw [List.size_toArray, List.length_reverse, Array.length_toList]
    omega
  obtain ⟨os, hos, hcs, hds⟩ := id hs
  have hTs : s.TypeIs (.ref sl) "slice" := ⟨os, hos, hcs⟩
  unfold getItem
  try with_reducible refine wpAny_holding ?_
  first | refine wpAny_bind (wpAny_pure ?_) | skip
  refine wpAny_bind (wpAny_sequenceKey ht.typeIs (by decide) ?_)
  refine wpAny_bind (wpAny_callSpecial?_slot (name := Str.ofString "__getitem__") ht.typeIs PyProof.Rows.slot_tuple_getitem
    (wpAny_call_entry PyProof.Rows.slot_tuple_getitem ht.typeIs entry_tuple_getitem ?_ (args_tuple_getitem _ _)))
  show wpAny _ _ (Builtin.Tuple.tupleItemsOf (.ref t) >>= _) _ _ s
  refine wpAny_bind (tupleItemsOf_ ht ?_)
  refine wpAny_bind (wpAny_typeOf hTs ?_)
  rw [if_pos (by decide)]
  refine wpAny_bind (sliceApplied_rev (n := items.size) hs pk ?_)
  have hno : ¬ ((((items.size : Int) - 1) == 0 && (-1 : Int) == 1 && items.size == items.size) = true) := by simp
  show wpAny _ _ (if (((items.size : Int) - 1) == 0 && (-1 : Int) == 1 && items.size == items.size) = true then _ else _) _ _ s
  rw [if_neg hno, pick_rev]
  first
    | exact wpAny_bind (m := Builtin.Tuple.tupleExact _) (wpAny_newObj_type (wpAny_pure ⟨_, rfl, wpAny_pure h⟩) htake)
    | exact wpAny_bind (m := Builtin.Tuple.tupleExact _) (wpAny_newObj_type (wpAny_bind (wpAny_pure (wpAny_pure ⟨_, rfl, wpAny_pure h⟩))) htake)
    | exact wpAny_bind (wpAny_bind (m := Builtin.Tuple.tupleExact _) (wpAny_newObj_type (wpAny_pure (wpAny_pure ⟨_, rfl, wpAny_pure h⟩)) htake))
    | exact wpAny_bind (wpAny_bind (m := Builtin.Tuple.tupleExact _) (wpAny_newObj_type (wpAny_pure ⟨_, rfl, wpAny_pure h⟩) htake))
end
def tRevA (K : PySem.W.Frag) (te : TE) : TE := fun σ H Q => te σ H fun x H1 => (∃ a xs, x = .ref a ∧ SqL K H1 a xs ∧ ∀ p, H1 p = none → Q (.ref p) (upd H1 p (.lst xs.reverse))) ∨ (∃ a xs, x = .ref a ∧ SqT K H1 a xs ∧ NewT H1 Q xs.reverse)
section
variable {X : Cx}
theorem pe_revA {e : Expr} {te : TE} {k : Nat} {p1 p2 p3 pos : Pos} (he : PE X e te) : PE X (.Subscript e (.Slice none none (some (.UnaryOp .USub (.Constant (.int 1) k p1) p2)) p3) pos) (tRevA X.K te) := by
  refine ⟨fun pins s σ H Q I h => ?_⟩
  refine Subscript_ (thn (he.run pins s σ H _ I h) fun v s1 ⟨x, H1, I1, r1, q1⟩ => ?_)
  have hst : PO X (some (.UnaryOp .USub (.Constant (.int 1) k p1) p2)) (tPart (tUn (rU fun i => .int (-i)) (tC (.int 1)))) := po_some (pe_un un_neg pe_int)
  have q1' : ∃ a xs, x = .ref a ∧ ((SqL X.K H1 a xs ∧ ∀ p, H1 p = none → Q (.ref p) (upd H1 p (.lst xs.reverse))) ∨ (SqT X.K H1 a xs ∧ NewT H1 Q xs.reverse)) := by
    rcases q1 with ⟨a, xs, e, h1, h2⟩ | ⟨a, xs, e, h1, h2⟩
    · exact ⟨a, xs, e, .inl ⟨h1, h2⟩⟩
    · exact ⟨a, xs, e, .inr ⟨h1, h2⟩⟩
  obtain ⟨a, xs, ex, hx⟩ := q1'
  subst ex
  cases r1
  refine wpAny_Slice (thn (po_none.run pins s1 σ H1 (fun o H2 => o = none ∧ H2 = H1) I1 ⟨rfl, rfl⟩) fun vl s2 ⟨l, H2, I2, pl, el, e2⟩ => ?_)
  subst el e2
  refine thn (po_none.run pins s2 σ H2 (fun o H3 => o = none ∧ H3 = H2) I2 ⟨rfl, rfl⟩) fun vu s3 ⟨u, H3, I3, pu, eu, e3⟩ => ?_
  subst eu e3
  refine thn (hst.run pins s3 σ H3 (fun o H4 => o = some (-1) ∧ H4 = H3) I3 ⟨1, rfl, -1, rfl, rfl, rfl⟩) fun vs s4 ⟨o, H4, I4, ps, eo, e4⟩ => ?_
  subst eo e4
  have I5 : Inv X pins σ H4 { s4 with heap := s4.heap.push { cls := .type "slice", data := .fields #[vl, vu, vs] } } := I4.kept (t' := s4.toks) fun b ob q => Heap.get?_push_of_some _ q
  show wpAny (model X.prog X.w) X.A (subscriptTail e (.Slice none none (some (.UnaryOp .USub (.Constant (.int 1) k p1) p2)) p3) (.ref a) (.ref s4.heap.objs.size)) (EP X pins σ Q) X.xe { s4 with heap := s4.heap.push { cls := .type "slice", data := .fields #[vl, vu, vs] } }
  rcases hx with ⟨hx, q⟩ | ⟨hx, q⟩
  · obtain ⟨its, r, ht, hz⟩ := I5.list hx
    have hlen := r.length
    refine tail_any (ops := [.ref a, .ref s4.heap.objs.size]) ht.isList.typeIs (PySem.slot_list_getitem.lookup) ?_ (by with_unfolding_all rfl)
    refine wpAny_getItem_list_slice ht.isList (Heap.IsSliceOf.new _ vl vu vs) pl pu ps (by decide) ?_ (by rw [List.size_toArray]; omega)
    rw [PySem.W.krv_pick]
    refine ⟨.ref _, _, I5.laid (t' := s4.toks) (o := .lst xs.reverse) (fun b ob q => Heap.get?_push_of_some _ q) (Nat.le_refl _) ?_, rfl, q _ (I5.hok.fresh (Nat.le_refl _))⟩
    exact ⟨by rw [List.length_reverse]; exact hz, _, 0, r.reverse, Heap.get?_push_size _ rfl⟩
  · obtain ⟨its, r, ht, hz⟩ := I5.tuple hx
    have hlen := r.length
    cases pl; cases pu
    refine tail_any (ops := [.ref a, .ref s4.heap.objs.size]) ht.typeIs (PyProof.Rows.slot_tuple_getitem.lookup) ?_ (by with_unfolding_all rfl)
    refine getItem_tuple_rev ht (Heap.IsSliceOf.new _ .none .none vs) ps ?_ (by rw [List.size_toArray]; omega)
    exact laidZ (k := s4.toks) I5 r.reverse (by rw [List.length_reverse]; exact hz) q
end
def revG2 (d : D) : Option Rs := match d with
  | .list ds => some (.fr (.list ds.reverse))
  | .tuple ds => some (.fz (.tuple ds.reverse))
  | _ => none
def rRevA (K : KW) : V → Hp → VK → Prop := fun x H Q => (∃ a xs, x = V.ref a ∧ SqL K H a xs ∧ ∀ p, H p = none → Q (.ref p) (upd H p (.lst xs.reverse))) ∨ (∃ a xs, x = V.ref a ∧ SqT K H a xs ∧ NewT H Q xs.reverse)
section
variable {X : Cx} {K : KW}
theorem o_revA : Op1 K (rRevA K) revG2 := fun H O x d res Q tr rx q k => by
  unfold revG2 at q
  split at q
  · cases q
    obtain ⟨a, xs, rfl, sq, r⟩ := rx.lst
    exact .inl ⟨a, xs, rfl, sq, fun p hp => k _ _ (.lst (Same.refl H) hp (rp_rev r))⟩
  · cases q
    obtain ⟨a, xs, rfl, sq, r⟩ := rx.tup
    exact .inr ⟨a, xs, rfl, sq.sq, fun p o hp hd => k _ _ (.tup (Same.refl H) hp hd (rp_rev r))⟩
  · cases q
theorem de_rev2 {f : M Rs} {e : Expr} {kk : Nat} {p1 p2 p3 pos : Pos} (he : PE X e (tE X.KW f)) : PE X (.Subscript e (.Slice none none (some (.UnaryOp .USub (.Constant (.int 1) kk p1) p2)) p3) pos) (tE X.KW (op1 revG2 f)) :=
  PE.weak (pe_revA he) fun σ H Q h => tE_op1 (o_revA (K := X.KW)) σ H Q h
@[simp] theorem rev_lst (ds : List D) : revG2 (.list ds) = some (.fr (.list ds.reverse)) := rfl
@[simp] theorem rev_tup (ds : List D) : revG2 (.tuple ds) = some (.fz (.tuple ds.reverse)) := rfl
end
end DV
end
section
set_option Elab.async false
set_option linter.all false
set_option maxRecDepth 100000
set_option maxHeartbeats 4000000
namespace DV
open PySem PySem.Spec PyProof.Rows L2
/-! ### operations on data, run -/
theorem isi_kn {T : String} {d : D} (h : tyKn d = true) : isiG T d = (kitB (tyD d) T).bind boolR := by
  unfold isiG; rw [if_pos h]
@[simp] theorem isi_int_none  : isiG "int" .none = some (.fz (.bool false)) := by
  rw [isi_kn rfl]
  show (kitB "NoneType" "int").bind _ = _
  rw [show kitB "NoneType" "int" = some false by decide +kernel]; rfl
@[simp] theorem isi_int_bool (b : Bool) : isiG "int" (.bool b) = some (.fz (.bool true)) := by
  rw [isi_kn rfl]
  show (kitB "bool" "int").bind _ = _
  rw [show kitB "bool" "int" = some true by decide +kernel]; rfl
@[simp] theorem isi_int_int (i : Int) : isiG "int" (.int i) = some (.fz (.bool true)) := by
  rw [isi_kn rfl]
  show (kitB "int" "int").bind _ = _
  rw [show kitB "int" "int" = some true by decide +kernel]; rfl
@[simp] theorem isi_int_str (x : Str) : isiG "int" (.str x) = some (.fz (.bool false)) := by
  rw [isi_kn rfl]
  show (kitB "str" "int").bind _ = _
  rw [show kitB "str" "int" = some false by decide +kernel]; rfl
@[simp] theorem isi_int_list (ds : List D) : isiG "int" (.list ds) = some (.fz (.bool false)) := by
  rw [isi_kn rfl]
  show (kitB "list" "int").bind _ = _
  rw [show kitB "list" "int" = some false by decide +kernel]; rfl
@[simp] theorem isi_int_tuple (ds : List D) : isiG "int" (.tuple ds) = some (.fz (.bool false)) := by
  rw [isi_kn rfl]
  show (kitB "tuple" "int").bind _ = _
  rw [show kitB "tuple" "int" = some false by decide +kernel]; rfl
@[simp] theorem isi_int_dict (kvs : List (D × D)) (h : smpK kvs = true) : isiG "int" (.dict kvs) = some (.fz (.bool false)) := by
  rw [isi_kn (show tyKn (.dict kvs) = true from h)]
  show (kitB "dict" "int").bind _ = _
  rw [show kitB "dict" "int" = some false by decide +kernel]; rfl
@[simp] theorem isi_str_none  : isiG "str" .none = some (.fz (.bool false)) := by
  rw [isi_kn rfl]
  show (kitB "NoneType" "str").bind _ = _
  rw [show kitB "NoneType" "str" = some false by decide +kernel]; rfl
@[simp] theorem isi_str_bool (b : Bool) : isiG "str" (.bool b) = some (.fz (.bool false)) := by
  rw [isi_kn rfl]
  show (kitB "bool" "str").bind _ = _
  rw [show kitB "bool" "str" = some false by decide +kernel]; rfl
@[simp] theorem isi_str_int (i : Int) : isiG "str" (.int i) = some (.fz (.bool false)) := by
  rw [isi_kn rfl]
  show (kitB "int" "str").bind _ = _
  rw [show kitB "int" "str" = some false by decide +kernel]; rfl
@[simp] theorem isi_str_str (x : Str) : isiG "str" (.str x) = some (.fz (.bool true)) := by
  rw [isi_kn rfl]
  show (kitB "str" "str").bind _ = _
  rw [show kitB "str" "str" = some true by decide +kernel]; rfl
@[simp] theorem isi_str_list (ds : List D) : isiG "str" (.list ds) = some (.fz (.bool false)) := by
  rw [isi_kn rfl]
  show (kitB "list" "str").bind _ = _
  rw [show kitB "list" "str" = some false by decide +kernel]; rfl
@[simp] theorem isi_str_tuple (ds : List D) : isiG "str" (.tuple ds) = some (.fz (.bool false)) := by
  rw [isi_kn rfl]
  show (kitB "tuple" "str").bind _ = _
  rw [show kitB "tuple" "str" = some false by decide +kernel]; rfl
@[simp] theorem isi_str_dict (kvs : List (D × D)) (h : smpK kvs = true) : isiG "str" (.dict kvs) = some (.fz (.bool false)) := by
  rw [isi_kn (show tyKn (.dict kvs) = true from h)]
  show (kitB "dict" "str").bind _ = _
  rw [show kitB "dict" "str" = some false by decide +kernel]; rfl
@[simp] theorem isi_bool_none  : isiG "bool" .none = some (.fz (.bool false)) := by
  rw [isi_kn rfl]
  show (kitB "NoneType" "bool").bind _ = _
  rw [show kitB "NoneType" "bool" = some false by decide +kernel]; rfl
@[simp] theorem isi_bool_bool (b : Bool) : isiG "bool" (.bool b) = some (.fz (.bool true)) := by
  rw [isi_kn rfl]
  show (kitB "bool" "bool").bind _ = _
  rw [show kitB "bool" "bool" = some true by decide +kernel]; rfl
@[simp] theorem isi_bool_int (i : Int) : isiG "bool" (.int i) = some (.fz (.bool false)) := by
  rw [isi_kn rfl]
  show (kitB "int" "bool").bind _ = _
  rw [show kitB "int" "bool" = some false by decide +kernel]; rfl
@[simp] theorem isi_bool_str (x : Str) : isiG "bool" (.str x) = some (.fz (.bool false)) := by
  rw [isi_kn rfl]
  show (kitB "str" "bool").bind _ = _
  rw [show kitB "str" "bool" = some false by decide +kernel]; rfl
@[simp] theorem isi_bool_list (ds : List D) : isiG "bool" (.list ds) = some (.fz (.bool false)) := by
  rw [isi_kn rfl]
  show (kitB "list" "bool").bind _ = _
  rw [show kitB "list" "bool" = some false by decide +kernel]; rfl
@[simp] theorem isi_bool_tuple (ds : List D) : isiG "bool" (.tuple ds) = some (.fz (.bool false)) := by
  rw [isi_kn rfl]
  show (kitB "tuple" "bool").bind _ = _
  rw [show kitB "tuple" "bool" = some false by decide +kernel]; rfl
@[simp] theorem isi_bool_dict (kvs : List (D × D)) (h : smpK kvs = true) : isiG "bool" (.dict kvs) = some (.fz (.bool false)) := by
  rw [isi_kn (show tyKn (.dict kvs) = true from h)]
  show (kitB "dict" "bool").bind _ = _
  rw [show kitB "dict" "bool" = some false by decide +kernel]; rfl
@[simp] theorem isi_tuple_none  : isiG "tuple" .none = some (.fz (.bool false)) := by
  rw [isi_kn rfl]
  show (kitB "NoneType" "tuple").bind _ = _
  rw [show kitB "NoneType" "tuple" = some false by decide +kernel]; rfl
@[simp] theorem isi_tuple_bool (b : Bool) : isiG "tuple" (.bool b) = some (.fz (.bool false)) := by
  rw [isi_kn rfl]
  show (kitB "bool" "tuple").bind _ = _
  rw [show kitB "bool" "tuple" = some false by decide +kernel]; rfl
@[simp] theorem isi_tuple_int (i : Int) : isiG "tuple" (.int i) = some (.fz (.bool false)) := by
  rw [isi_kn rfl]
  show (kitB "int" "tuple").bind _ = _
  rw [show kitB "int" "tuple" = some false by decide +kernel]; rfl
@[simp] theorem isi_tuple_str (x : Str) : isiG "tuple" (.str x) = some (.fz (.bool false)) := by
  rw [isi_kn rfl]
  show (kitB "str" "tuple").bind _ = _
  rw [show kitB "str" "tuple" = some false by decide +kernel]; rfl
@[simp] theorem isi_tuple_list (ds : List D) : isiG "tuple" (.list ds) = some (.fz (.bool false)) := by
  rw [isi_kn rfl]
  show (kitB "list" "tuple").bind _ = _
  rw [show kitB "list" "tuple" = some false by decide +kernel]; rfl
@[simp] theorem isi_tuple_tuple (ds : List D) : isiG "tuple" (.tuple ds) = some (.fz (.bool true)) := by
  rw [isi_kn rfl]
  show (kitB "tuple" "tuple").bind _ = _
  rw [show kitB "tuple" "tuple" = some true by decide +kernel]; rfl
@[simp] theorem isi_tuple_dict (kvs : List (D × D)) (h : smpK kvs = true) : isiG "tuple" (.dict kvs) = some (.fz (.bool false)) := by
  rw [isi_kn (show tyKn (.dict kvs) = true from h)]
  show (kitB "dict" "tuple").bind _ = _
  rw [show kitB "dict" "tuple" = some false by decide +kernel]; rfl
@[simp] theorem isi_list_none  : isiG "list" .none = some (.fz (.bool false)) := by
  rw [isi_kn rfl]
  show (kitB "NoneType" "list").bind _ = _
  rw [show kitB "NoneType" "list" = some false by decide +kernel]; rfl
@[simp] theorem isi_list_bool (b : Bool) : isiG "list" (.bool b) = some (.fz (.bool false)) := by
  rw [isi_kn rfl]
  show (kitB "bool" "list").bind _ = _
  rw [show kitB "bool" "list" = some false by decide +kernel]; rfl
@[simp] theorem isi_list_int (i : Int) : isiG "list" (.int i) = some (.fz (.bool false)) := by
  rw [isi_kn rfl]
  show (kitB "int" "list").bind _ = _
  rw [show kitB "int" "list" = some false by decide +kernel]; rfl
@[simp] theorem isi_list_str (x : Str) : isiG "list" (.str x) = some (.fz (.bool false)) := by
  rw [isi_kn rfl]
  show (kitB "str" "list").bind _ = _
  rw [show kitB "str" "list" = some false by decide +kernel]; rfl
@[simp] theorem isi_list_list (ds : List D) : isiG "list" (.list ds) = some (.fz (.bool true)) := by
  rw [isi_kn rfl]
  show (kitB "list" "list").bind _ = _
  rw [show kitB "list" "list" = some true by decide +kernel]; rfl
@[simp] theorem isi_list_tuple (ds : List D) : isiG "list" (.tuple ds) = some (.fz (.bool false)) := by
  rw [isi_kn rfl]
  show (kitB "tuple" "list").bind _ = _
  rw [show kitB "tuple" "list" = some false by decide +kernel]; rfl
@[simp] theorem isi_list_dict (kvs : List (D × D)) (h : smpK kvs = true) : isiG "list" (.dict kvs) = some (.fz (.bool false)) := by
  rw [isi_kn (show tyKn (.dict kvs) = true from h)]
  show (kitB "dict" "list").bind _ = _
  rw [show kitB "dict" "list" = some false by decide +kernel]; rfl
@[simp] theorem isi_dict_none  : isiG "dict" .none = some (.fz (.bool false)) := by
  rw [isi_kn rfl]
  show (kitB "NoneType" "dict").bind _ = _
  rw [show kitB "NoneType" "dict" = some false by decide +kernel]; rfl
@[simp] theorem isi_dict_bool (b : Bool) : isiG "dict" (.bool b) = some (.fz (.bool false)) := by
  rw [isi_kn rfl]
  show (kitB "bool" "dict").bind _ = _
  rw [show kitB "bool" "dict" = some false by decide +kernel]; rfl
@[simp] theorem isi_dict_int (i : Int) : isiG "dict" (.int i) = some (.fz (.bool false)) := by
  rw [isi_kn rfl]
  show (kitB "int" "dict").bind _ = _
  rw [show kitB "int" "dict" = some false by decide +kernel]; rfl
@[simp] theorem isi_dict_str (x : Str) : isiG "dict" (.str x) = some (.fz (.bool false)) := by
  rw [isi_kn rfl]
  show (kitB "str" "dict").bind _ = _
  rw [show kitB "str" "dict" = some false by decide +kernel]; rfl
@[simp] theorem isi_dict_list (ds : List D) : isiG "dict" (.list ds) = some (.fz (.bool false)) := by
  rw [isi_kn rfl]
  show (kitB "list" "dict").bind _ = _
  rw [show kitB "list" "dict" = some false by decide +kernel]; rfl
@[simp] theorem isi_dict_tuple (ds : List D) : isiG "dict" (.tuple ds) = some (.fz (.bool false)) := by
  rw [isi_kn rfl]
  show (kitB "tuple" "dict").bind _ = _
  rw [show kitB "tuple" "dict" = some false by decide +kernel]; rfl
@[simp] theorem isi_dict_dict (kvs : List (D × D)) (h : smpK kvs = true) : isiG "dict" (.dict kvs) = some (.fz (.bool true)) := by
  rw [isi_kn (show tyKn (.dict kvs) = true from h)]
  show (kitB "dict" "dict").bind _ = _
  rw [show kitB "dict" "dict" = some true by decide +kernel]; rfl

section
variable (a b c d : D) (ds es : List D) (i j : Int) (x y : Str)
@[simp] theorem ix1_0 : ixG (.tuple [a]) (.int 0) = some (.fz a) := rfl
@[simp] theorem ix2_0 : ixG (.tuple [a, b]) (.int 0) = some (.fz a) := rfl
@[simp] theorem ix2_1 : ixG (.tuple [a, b]) (.int 1) = some (.fz b) := rfl
@[simp] theorem ix3_0 : ixG (.tuple [a, b, c]) (.int 0) = some (.fz a) := rfl
@[simp] theorem ix3_1 : ixG (.tuple [a, b, c]) (.int 1) = some (.fz b) := rfl
@[simp] theorem ix3_2 : ixG (.tuple [a, b, c]) (.int 2) = some (.fz c) := rfl
@[simp] theorem len_tuple : lenG (.tuple ds) = some (.fz (.int ds.length)) := rfl
@[simp] theorem len_list : lenG (.list ds) = some (.fz (.int ds.length)) := rfl
@[simp] theorem le_int : leG (.int i) (.int j) = some (.fz (.bool (decide (i ≤ j)))) := rfl
@[simp] theorem lt_int : ltG (.int i) (.int j) = some (.fz (.bool (decide (i < j)))) := rfl
@[simp] theorem gt_int : gtG (.int i) (.int j) = some (.fz (.bool (decide (j < i)))) := rfl
@[simp] theorem ge_int : geG (.int i) (.int j) = some (.fz (.bool (decide (j ≤ i)))) := rfl
@[simp] theorem add_int : addG (.int i) (.int j) = some (.fz (.int (i + j))) := rfl
@[simp] theorem sub_int : subG (.int i) (.int j) = some (.fz (.int (i - j))) := rfl
@[simp] theorem int1_int : int1G (.int i) = some (.fz (.int i)) := rfl
@[simp] theorem is_none : isG a .none = some (.fz (.bool (isNoneD a))) := rfl
@[simp] theorem isnt_none : isntG a .none = some (.fz (.bool (!isNoneD a))) := rfl
@[simp] theorem isN_none : isNoneD .none = true := rfl
@[simp] theorem isN_bool (b : Bool) : isNoneD (.bool b) = false := rfl
@[simp] theorem isN_int : isNoneD (.int i) = false := rfl
@[simp] theorem isN_str : isNoneD (.str x) = false := rfl
@[simp] theorem isN_list : isNoneD (.list ds) = false := rfl
@[simp] theorem isN_tuple : isNoneD (.tuple ds) = false := rfl
@[simp] theorem tuple_list : tupleG (.list ds) = some (.fz (.tuple ds)) := rfl
@[simp] theorem tuple_tuple : tupleG (.tuple ds) = some (.fz (.tuple ds)) := rfl
@[simp] theorem list_list : listG (.list ds) = some (.fr (.list ds)) := rfl
@[simp] theorem list_tuple : listG (.tuple ds) = some (.fr (.list ds)) := rfl
end
theorem mul_l (i j : Int) (h : -(2 ^ 64) < i ∧ i < 2 ^ 64) : mulG (.int i) (.int j) = some (.fz (.int (i * j))) := by
  show (mulF i j).bind intR = _
  unfold mulF
  rw [if_pos (.inl h)]; rfl
theorem mul_r (i j : Int) (h : -(2 ^ 64) < j ∧ j < 2 ^ 64) : mulG (.int i) (.int j) = some (.fz (.int (i * j))) := by
  show (mulF i j).bind intR = _
  unfold mulF
  rw [if_pos (.inr h)]; rfl
theorem mod_int (i j : Int) (h : 0 < j) : intG modF (.int i) (.int j) = some (.fz (.int (i % j))) := by
  show (modF i j).bind intR = _
  unfold modF
  rw [if_pos h]; rfl
theorem fdiv_int (i j : Int) (h : 0 < j ∧ j < 1073741824) : intG fdivF (.int i) (.int j) = some (.fz (.int (i / j))) := by
  show (fdivF i j).bind intR = _
  unfold fdivF
  rw [if_pos h]; rfl
theorem divmod_int (i j : Int) (h : 0 < j ∧ j < 1073741824) : divmodG (.int i) (.int j) = some (.fz (.tuple [.int (i / j), .int (i % j)])) := by
  show (if 0 < j ∧ j < 1073741824 then _ else none) = _
  rw [if_pos h]
/-! lists of bools -/
theorem bools_map {α : Type} (p : α → Bool) : ∀ xs : List α, bools (xs.map fun x => PyData.bool (p x)) = some (xs.map p)
  | [] => rfl
  | x :: xs => by
    show (bools (xs.map fun x => PyData.bool (p x))).map (p x :: ·) = _
    rw [bools_map p xs]; rfl
@[simp] theorem all_map {α : Type} (p : α → Bool) (xs : List α) : allG (.list (xs.map fun x => PyData.bool (p x))) = some (.fz (.bool (xs.all p))) := by
  show (bools _).bind _ = _
  rw [bools_map]
  simp
@[simp] theorem any_map {α : Type} (p : α → Bool) (xs : List α) : anyG (.list (xs.map fun x => PyData.bool (p x))) = some (.fz (.bool (xs.any p))) := by
  show (bools _).bind _ = _
  rw [bools_map]
  simp
/-! slices, items -/
theorem atI_nat {α : Type} (xs : List α) (i : Nat) : atI xs (i : Int) = xs[i]? := by
  unfold atI ixN
  rw [if_pos (by omega)]
  by_cases c : i < xs.length
  · rw [if_pos (by omega)]; rfl
  · rw [if_neg (by omega), List.getElem?_eq_none (by omega)]; rfl
theorem ix_nat (xs : List D) (i : Nat) {d : D} (h : xs[i]? = some d) : ixG (.tuple xs) (.int (i : Int)) = some (.fz d) := by
  show (atI xs (i : Int)).map _ = _
  rw [atI_nat, h]; rfl
theorem ixl_nat (xs : List D) (i : Nat) {d : D} (h : xs[i]? = some d) : ixG (.list xs) (.int (i : Int)) = some (.fz d) := by
  show (atI xs (i : Int)).map _ = _
  rw [atI_nat, h]; rfl
theorem cutL_to (xs : List D) (i : Nat) : cutL xs none (some (i : Int)) = xs.take i := by
  unfold cutL
  rw [HT.sIx_none, HT.sIx_nat]
  simp only [Nat.sub_zero, List.drop_zero]
  rcases Nat.le_total i xs.length with h | h
  · rw [Nat.min_eq_left h]
  · rw [Nat.min_eq_right h, List.take_of_length_le h, List.take_length]
theorem cutL_from (xs : List D) (i : Nat) : cutL xs (some (i : Int)) none = xs.drop i := by
  unfold cutL
  rw [HT.sIx_none, HT.sIx_nat]
  rcases Nat.le_total i xs.length with h | h
  · rw [Nat.min_eq_left h, List.take_of_length_le (by simp)]
  · rw [Nat.min_eq_right h, List.drop_of_length_le h]; simp
theorem sl_to (xs : List D) (i : Nat) : slG2 (.tuple xs) none (some (i : Int)) = some (.fz (.tuple (xs.take i))) := by
  show some (Rs.fz (.tuple (cutL xs none (some (i : Int))))) = _
  rw [cutL_to]
theorem sl_from (xs : List D) (i : Nat) : slG2 (.tuple xs) (some (i : Int)) none = some (.fz (.tuple (xs.drop i))) := by
  show some (Rs.fz (.tuple (cutL xs (some (i : Int)) none))) = _
  rw [cutL_from]
theorem sll_to (xs : List D) (i : Nat) : slG2 (.list xs) none (some (i : Int)) = some (.fr (.list (xs.take i))) := by
  show some (Rs.fr (.list (cutL xs none (some (i : Int))))) = _
  rw [cutL_to]
theorem sll_from (xs : List D) (i : Nat) : slG2 (.list xs) (some (i : Int)) none = some (.fr (.list (xs.drop i))) := by
  show some (Rs.fr (.list (cutL xs (some (i : Int)) none))) = _
  rw [cutL_from]
theorem add_tup (xs ys : List D) (h : xs.length + ys.length ≤ 100000) : addG (.tuple xs) (.tuple ys) = some (.fz (.tuple (xs ++ ys))) := by
  show (if _ then _ else none) = _
  rw [if_pos h]
theorem add_lst (xs ys : List D) (h : xs.length + ys.length ≤ 100000) : addG (.list xs) (.list ys) = some (.fr (.list (xs ++ ys))) := by
  show (if _ then _ else none) = _
  rw [if_pos h]
/-! == of a str -/
def isS (d : D) (x : Str) : Bool := match d with
  | .str y => decide (y = x)
  | _ => false
@[simp] theorem isS_str (x y : Str) : isS (.str y) x = decide (y = x) := rfl
@[simp] theorem isS_none (x : Str) : isS .none x = false := rfl
@[simp] theorem isS_bool (x : Str) (b : Bool) : isS (.bool b) x = false := rfl
@[simp] theorem isS_int (x : Str) (i : Int) : isS (.int i) x = false := rfl
@[simp] theorem isS_list (x : Str) (ds : List D) : isS (.list ds) x = false := rfl
@[simp] theorem isS_tuple (x : Str) (ds : List D) : isS (.tuple ds) x = false := rfl
theorem isS_eq {d : D} {x : Str} (h : isS d x = true) : d = .str x := by
  cases d with
  | str y => rw [of_decide_eq_true h]
  | _ => cases h
theorem eqv_isS (d : D) (x : Str) : PyData.eqv d (.str x) = isS d x := by
  cases d <;> simp [PyData.eqv, isS]
  rename_i y
  by_cases h : y = x <;> simp [h]
theorem eq_str {d : D} {x : Str} (h : SeqAt.shaped d = true) (hx : PyData.strOk x = true) : eqG d (.str x) = some (.fz (.bool (isS d x))) := by
  have h2 : SeqAt.shaped (.str x) = true := by
    unfold SeqAt.shaped
    rw [show (PyData.str x).canLay0 = PyData.strOk x from by simp [PyData.canLay0], hx]; rfl
  show (if SeqAt.shaped d = true ∧ SeqAt.shaped (.str x) = true then boolR (PyData.eqv d (.str x)) else none) = _
  rw [if_pos ⟨h, h2⟩, eqv_isS]; rfl
theorem ne_str {d : D} {x : Str} (h : SeqAt.shaped d = true) (hx : PyData.strOk x = true) : neG d (.str x) = some (.fz (.bool (!isS d x))) := by
  have h2 : SeqAt.shaped (.str x) = true := by
    unfold SeqAt.shaped
    rw [show (PyData.str x).canLay0 = PyData.strOk x from by simp [PyData.canLay0], hx]; rfl
  show (if SeqAt.shaped d = true ∧ SeqAt.shaped (.str x) = true then boolR (!PyData.eqv d (.str x)) else none) = _
  rw [if_pos ⟨h, h2⟩, eqv_isS]; rfl
@[simp] theorem eq_int (i j : Int) : eqG (.int i) (.int j) = some (.fz (.bool (i == j))) := rfl
@[simp] theorem ne_int (i j : Int) : neG (.int i) (.int j) = some (.fz (.bool (!(i == j)))) := rfl
theorem strL_map : ∀ xs : List Str, strL (xs.map .str) = some xs
  | [] => rfl
  | x :: xs => by
    show (strL (xs.map .str)).map (x :: ·) = _
    rw [strL_map xs]; rfl
theorem rngL_len (n : Nat) : (rngL 0 n).length = n := by simp [rngL]
end DV
end
section
set_option Elab.async false
set_option linter.all false
set_option maxRecDepth 100000
set_option maxHeartbeats 4000000
namespace DV
open PySem PySem.Spec PyProof.Rows L2
/-! ### data made of None, bools, ints of a few digits and some strs -/
def so (x : Str) : Prop := PyData.strOk x = true
/-- strs that may stand in data -/
def GdS (S : List Str) : Prop := ∀ x ∈ S, PyData.strOk x = true ∧ so (PyData.str x).shown ∧ x.cps.size ≤ 40
inductive Vd (S : List Str) : D → Prop
  | none : Vd S .none
  | bool (b : Bool) : Vd S (.bool b)
  | int {i : Int} : -1000000000 ≤ i → i ≤ 1000000000 → Vd S (.int i)
  | str {x : Str} : x ∈ S → Vd S (.str x)
  | tup {ds : List D} : (∀ d ∈ ds, Vd S d) → Vd S (.tuple ds)
  | lst {ds : List D} : (∀ d ∈ ds, Vd S d) → Vd S (.list ds)
section
variable {S : List Str}
theorem Vd.of_tup {ds : List D} (h : Vd S (.tuple ds)) : ∀ d ∈ ds, Vd S d := by cases h; assumption
theorem Vd.of_lst {ds : List D} (h : Vd S (.list ds)) : ∀ d ∈ ds, Vd S d := by cases h; assumption
theorem Vd.of_str {x : Str} (h : Vd S (.str x)) : x ∈ S := by cases h; assumption
theorem Vd.of_int {i : Int} (h : Vd S (.int i)) : -1000000000 ≤ i ∧ i ≤ 1000000000 := by cases h; exact ⟨by assumption, by assumption⟩
theorem Vd.no_dict {kvs : List (D × D)} (h : Vd S (.dict kvs)) : False := by cases h
/-! what may be written -/
theorem so_of (x : String) : so (Str.ofString x) := by
  unfold so PyData.strOk
  rw [← Array.all_toList, List.all_eq_true]
  intro c hc
  rw [signs_ofString] at hc
  obtain ⟨ch, _, rfl⟩ := List.mem_map.mp hc
  have := ch.valid
  have h2 : ch.toNat < 0x110000 := by
    rcases this with h | ⟨_, h⟩
    · exact Nat.lt_trans h (by decide)
    · exact h
  exact decide_eq_true h2
theorem so_app {a b : Str} (h : so a) (k : so b) : so (a ++ b) := by
  have e : (a ++ b).cps = a.cps ++ b.cps := rfl
  unfold so PyData.strOk at *
  rw [e, Array.all_append, h, k]; rfl
theorem so_join {s : Str} (hs : so s) : ∀ {ts : List Str}, (∀ t ∈ ts, so t) → so (Str.join s ts)
  | [], _ => by show PyData.strOk Str.empty = true; decide +kernel
  | [x], h => h x (List.mem_cons_self ..)
  | x :: y :: r, h => so_app (so_app (h x (List.mem_cons_self ..)) hs) (so_join hs fun t ht => h t (List.mem_cons_of_mem _ ht))
theorem so_from : ∀ {ts : List Str} {k : Nat} {acc : Str}, so acc → (∀ t ∈ ts, so t) → so (textFrom k acc ts)
  | [], _, _, h, _ => h
  | t :: ts, k, acc, h, ht => by
    unfold textFrom
    refine so_from (so_app (so_app h ?_) (ht t (List.mem_cons_self ..))) fun u hu => ht u (List.mem_cons_of_mem _ hu)
    split
    · exact so_of ", "
    · exact so_of ""
/-- what may be written -/
structure Wr (d : D) : Prop where
  c : d.canLay0 = true
  i : d.intsShort 13 = true
  s : d.showable = true
  t : so d.shown
theorem wr_all : ∀ {ds : List D}, (∀ d ∈ ds, Wr d) → PyData.canLayAll0 ds = true ∧ PyData.intsShortAll 13 ds = true ∧ PyData.showableAll ds = true ∧ ∀ t ∈ PyData.shownAll ds, so t
  | [], _ => ⟨rfl, by simp [PyData.intsShortAll], by simp [PyData.showableAll], fun t ht => by simp [PyData.shownAll] at ht⟩
  | d :: ds, h => by
    obtain ⟨h1, h4, h5, h6⟩ := wr_all (ds := ds) fun x hx => h x (List.mem_cons_of_mem _ hx)
    have g := h d (List.mem_cons_self ..)
    refine ⟨by simp [PyData.canLayAll0, g.c, h1], by simp [PyData.intsShortAll, g.i, h4], by simp [PyData.showableAll, g.s, h5], fun t ht => ?_⟩
    simp only [PyData.shownAll, List.mem_cons] at ht
    rcases ht with rfl | ht
    · exact g.t
    · exact h6 t ht
theorem wr_tup {ds : List D} (h : ∀ d ∈ ds, Wr d) : Wr (.tuple ds) := by
  obtain ⟨h1, h2, h3, h4⟩ := wr_all h
  refine ⟨by simp [PyData.canLay0, h1], by simp [PyData.intsShort, h2], by simp [PyData.showable, h3], ?_⟩
  simp only [PyData.shown]
  refine so_app (so_app (so_of "(") (so_join (so_of ", ") h4)) ?_
  split
  · exact so_of ",)"
  · exact so_of ")"
theorem wr_lst {ds : List D} (h : ∀ d ∈ ds, Wr d) : Wr (.list ds) := by
  obtain ⟨h1, h2, h3, h4⟩ := wr_all h
  refine ⟨by simp [PyData.canLay0, h1], by simp [PyData.intsShort, h2], by simp [PyData.showable, h3], ?_⟩
  simp only [PyData.shown]
  exact so_app (so_from (so_of "[") h4) (so_of "]")
theorem log_lt {i : Int} (h : -1000000000 ≤ i ∧ i ≤ 1000000000) : i.natAbs.log2 < 30 := by
  by_cases c : i.natAbs = 0
  · rw [c]; decide
  · exact (Nat.log2_lt c).mpr (by have : i.natAbs ≤ 1000000000 := by omega
                                  exact Nat.lt_of_le_of_lt this (by decide))
theorem wr_int {i : Int} (h : -1000000000 ≤ i ∧ i ≤ 1000000000) : Wr (.int i) := by
  refine ⟨by simp [PyData.canLay0], ?_, ?_, so_of _⟩
  · have h1 := int_text_length_le10 (a := i) (k := 12) (by decide) (by omega)
    have e : (PyData.int i).shown.length = (toString i).length := by
      show (Str.ofString (toString i)).cps.size = _
      rw [← Array.length_toList, signs_ofString, List.length_map, String.length_toList]
    simp only [PyData.intsShort, decide_eq_true_eq, e]
    omega
  · have := log_lt h
    simp only [PyData.showable, decide_eq_true_eq]
    omega
theorem Vd.wr (G : GdS S) {d : D} (h : Vd S d) : Wr d := by
  induction h with
  | none => exact ⟨rfl, rfl, rfl, so_of "None"⟩
  | bool b => exact ⟨rfl, rfl, rfl, by cases b; exact so_of "False"; exact so_of "True"⟩
  | int h1 h2 => exact wr_int ⟨h1, h2⟩
  | str hx => exact ⟨by simpa [PyData.canLay0] using (G _ hx).1, rfl, rfl, (G _ hx).2.1⟩
  | tup _ ih => exact wr_tup ih
  | lst _ ih => exact wr_lst ih
theorem Vd.shp (G : GdS S) {d : D} (h : Vd S d) (k : d.depth ≤ 64) : SeqAt.shaped d = true := by
  unfold SeqAt.shaped
  rw [(h.wr G).c, Bool.true_and, decide_eq_true_eq]; exact k
/-! depth and weight -/
theorem dep_all {k : Nat} : ∀ {ds : List D}, (∀ d ∈ ds, d.depth ≤ k) ↔ PyData.depthAll ds ≤ k
  | [] => by simp [PyData.depthAll]
  | d :: ds => by
    simp only [PyData.depthAll, List.mem_cons, forall_eq_or_imp, dep_all (ds := ds)]
    omega
theorem dep_tup {k : Nat} {ds : List D} : (PyData.tuple ds).depth ≤ k + 1 ↔ ∀ d ∈ ds, d.depth ≤ k := by
  rw [dep_all]; simp only [PyData.depth]; omega
theorem dep_lst {k : Nat} {ds : List D} : (PyData.list ds).depth ≤ k + 1 ↔ ∀ d ∈ ds, d.depth ≤ k := by
  rw [dep_all]; simp only [PyData.depth]; omega
theorem dep_mem {ds : List D} {d : D} (h : d ∈ ds) : d.depth < (PyData.tuple ds).depth := by
  have := (dep_all (ds := ds) (k := PyData.depthAll ds)).mpr (Nat.le_refl _) d h
  simp only [PyData.depth]; omega
theorem dep_meml {ds : List D} {d : D} (h : d ∈ ds) : d.depth < (PyData.list ds).depth := by
  have := (dep_all (ds := ds) (k := PyData.depthAll ds)).mpr (Nat.le_refl _) d h
  simp only [PyData.depth]; omega
theorem wt_app : ∀ {as bs : List D}, PyData.weightAll (as ++ bs) = PyData.weightAll as + PyData.weightAll bs
  | [], bs => by simp [PyData.weightAll]
  | a :: as, bs => by
    have := wt_app (as := as) (bs := bs)
    simp only [List.cons_append, PyData.weightAll] at this ⊢
    omega
theorem wt_mem : ∀ {ds : List D} {d : D}, d ∈ ds → d.weight + 1 ≤ PyData.weightAll ds
  | d' :: ds, d, h => by
    simp only [PyData.weightAll]
    rcases List.mem_cons.mp h with rfl | h
    · omega
    · have := wt_mem h; omega
theorem wt_take (ds : List D) (n : Nat) : PyData.weightAll (ds.take n) ≤ PyData.weightAll ds := by
  have := wt_app (as := ds.take n) (bs := ds.drop n)
  rw [List.take_append_drop] at this
  omega
theorem wt_drop (ds : List D) (n : Nat) : PyData.weightAll (ds.drop n) ≤ PyData.weightAll ds := by
  have := wt_app (as := ds.take n) (bs := ds.drop n)
  rw [List.take_append_drop] at this
  omega
theorem len_wt : ∀ ds : List D, ds.length ≤ PyData.weightAll ds
  | [] => Nat.zero_le _
  | d :: ds => by
    have := len_wt ds
    simp only [PyData.weightAll, List.length_cons]; omega
theorem wt_le {w n : Nat} : ∀ {ds : List D}, (∀ d ∈ ds, d.weight ≤ w) → ds.length ≤ n → PyData.weightAll ds ≤ n * (w + 1)
  | [], _, _ => by simp [PyData.weightAll]
  | d :: ds, h, hn => by
    cases n with
    | zero => simp at hn
    | succ n =>
      have ih := wt_le (w := w) (n := n) (ds := ds) (fun x hx => h x (List.mem_cons_of_mem _ hx)) (by simpa using hn)
      have := h d (List.mem_cons_self ..)
      simp only [PyData.weightAll, Nat.succ_mul]; omega
/-! repr -/
theorem repr_wr {d : D} (h : Wr d) (hk : d.depth ≤ 64) (hw : d.weight ≤ 2 ^ 20) : reprA d = some (.fz (.str d.shown)) := by
  have e : d.layable0 = true := by
    unfold PyData.layable0
    rw [h.c, decide_eq_true hk, decide_eq_true hw]; rfl
  unfold reprA
  rw [if_pos ⟨e, h.i, h.s⟩]; rfl
theorem shp_str {x : Str} (h : so x) : SeqAt.shaped (.str x) = true := by
  unfold SeqAt.shaped
  rw [show (PyData.str x).canLay0 = PyData.strOk x from by simp [PyData.canLay0], show PyData.strOk x = true from h]; rfl
theorem ne_self {x : Str} (h : so x) : neG (.str x) (.str x) = some (.fz (.bool false)) := by
  rw [ne_str (shp_str h) h]; simp
theorem eq_self {x : Str} (h : so x) : eqG (.str x) (.str x) = some (.fz (.bool true)) := by
  rw [eq_str (shp_str h) h]; simp
theorem wr_bools (bs : List Bool) : Wr (.list (bs.map .bool)) := wr_lst fun d hd => by
  obtain ⟨b, _, rfl⟩ := List.mem_map.mp hd
  exact ⟨rfl, rfl, rfl, by cases b; exact so_of "False"; exact so_of "True"⟩
end
end DV
namespace DV
open PySem PySem.Spec PyProof.Rows L2
theorem lcR_mapB (p : D → Bool) {own : List Nat} {t : D → M Unit} {c : M Bool} {el : M Rs} {ds : List D} {lk : Option Nat} {ρ : List (Option Sl)} {μ : Mu} (hl : lockable lk ⟨ρ, μ⟩ = true) (hp : plainO own (lock1 lk ⟨ρ, μ⟩) = true)
    (hb : ∀ d ∈ ds, lcW own t c el d (wipeE own (lock1 lk ⟨ρ, μ⟩)) = some (some (.bool (p d)), wipeE own (lock1 lk ⟨ρ, μ⟩))) : lcR own t c el (ds, lk) ⟨ρ, μ⟩ = some (.fr (.list (ds.map fun d => .bool (p d))), ⟨ρ, μ⟩) := lcR_map (fun d => .bool (p d)) hl hp hb
@[simp] theorem wipeE_mk (own : List Nat) (ρ : List (Option Sl)) (μ : Mu) : wipeE own ⟨ρ, μ⟩ = ⟨wipeR ρ own, μ⟩ := rfl
@[simp] theorem pow_10_9 : intG powF (.int 10) (.int 9) = some (.fz (.int 1000000000)) := by kernel_rfl
@[simp] theorem pow_10_18 : intG powF (.int 10) (.int 18) = some (.fz (.int 1000000000000000000)) := by kernel_rfl
@[simp] theorem abs_int (i : Int) : absG (.int i) = some (.fz (.int (if i < 0 then -i else i))) := rfl
end DV
end
section
set_option Elab.async false
set_option linter.all false
set_option maxRecDepth 100000
set_option maxHeartbeats 4000000
namespace DV
open PySem PySem.Spec PyProof.Rows L2
/-! ### dicts with strs for keys -/
section
variable {α : Type}
def lk (x : Str) : List (Str × α) → Option α
  | [] => none
  | p :: r => if p.1 = x then some p.2 else lk x r
def encV (f : α → D) (kvs : List (Str × α)) : List (D × D) := kvs.map fun p => (.str p.1, f p.2)
def upS (x : Str) (v : α) (kvs : List (Str × α)) : List (Str × α) := if (lk x kvs).isSome = true then kvs.map (fun p => if p.1 = x then (p.1, v) else p) else kvs ++ [(x, v)]
@[simp] theorem encV_len (f : α → D) (kvs : List (Str × α)) : (encV f kvs).length = kvs.length := by simp [encV]
@[simp] theorem encV_nil (f : α → D) : encV f [] = [] := rfl
theorem getK_encV (f : α → D) (k : Str) : ∀ kvs : List (Str × α), getK (.inr k) (encV f kvs) = (lk k kvs).map f
  | [] => rfl
  | p :: r => by
    show (if dKey (.str p.1) = some (.inr k) then some (f p.2) else getK (.inr k) (encV f r)) = _
    by_cases h : p.1 = k
    · rw [if_pos (by rw [h]; rfl)]
      simp [lk, h]
    · rw [if_neg (by intro z; injection z with z; injection z with z; exact h z), getK_encV f k r]
      simp [lk, h]
theorem putD_encV (f : α → D) (x : Str) (v : α) (kvs : List (Str × α)) : putD (.inr x) (f v) (encV f kvs) = encV f (upS x v kvs) := by
  unfold putD upS
  rw [getK_encV]
  by_cases c : (lk x kvs).isSome = true
  · rw [if_pos (by simpa using c), if_pos c]
    simp only [encV, List.map_map]
    refine List.map_congr_left fun p _ => ?_
    by_cases h : p.1 = x
    · simp [dKey, h]
    · simp [dKey, h]
  · rw [if_neg (by simpa using c), if_neg c]
    simp [encV, keyD]
theorem lk_app (x : Str) : ∀ (a b : List (Str × α)), lk x (a ++ b) = (lk x a).or (lk x b)
  | [], b => by simp [lk]
  | p :: a, b => by
    have ih := lk_app x a b
    by_cases h : p.1 = x
    · simp [lk, h]
    · simp [lk, h, ih]
theorem lk_map_up (x y : Str) (v : α) : ∀ kvs : List (Str × α), lk y (kvs.map fun p => if p.1 = x then (p.1, v) else p) = if y = x then (lk y kvs).map fun _ => v else lk y kvs
  | [] => by simp [lk]
  | p :: r => by
    have ih := lk_map_up x y v r
    rw [List.map_cons]
    by_cases h : p.1 = x
    · rw [if_pos h]
      by_cases e : y = x
      · subst e; simp [lk, h]
      · have h2 : ¬ p.1 = y := fun z => e (z.symm.trans h)
        simp only [lk, h2, if_false, e] at ih ⊢
        exact ih
    · rw [if_neg h]
      by_cases h2 : p.1 = y
      · have e : ¬ y = x := fun z => h (h2.trans z)
        simp [lk, h2, e]
      · simp only [lk, h2, if_false] at ih ⊢
        exact ih
theorem lk_up (x y : Str) (v : α) (kvs : List (Str × α)) : lk y (upS x v kvs) = if y = x then some v else lk y kvs := by
  unfold upS
  by_cases c : (lk x kvs).isSome = true
  · rw [if_pos c, lk_map_up]
    by_cases e : y = x
    · subst e
      obtain ⟨d, hd⟩ := Option.isSome_iff_exists.mp c
      simp [hd]
    · simp [e]
  · rw [if_neg c, lk_app]
    have c' : lk x kvs = none := by simpa using c
    by_cases e : y = x
    · subst e; simp [c', lk]
    · have h : ¬ x = y := fun z => e z.symm
      simp [lk, h, e]
theorem up_len (x : Str) (v : α) (kvs : List (Str × α)) : (upS x v kvs).length ≤ kvs.length + 1 := by
  unfold upS; split <;> simp
@[simp] theorem dKey_str (x : Str) : dKey (.str x) = some (.inr x) := rfl
@[simp] theorem dKey_int (i : Int) : dKey (.int i) = some (.inl i) := rfl
@[simp] theorem smpK_enc (f : α → D) : ∀ kvs : List (Str × α), smpK (encV f kvs) = true
  | [] => rfl
  | p :: kvs => by
    show (((.str p.1 : D), f p.2) :: encV f kvs).all (fun p => smp1 p.1) = true
    rw [List.all_cons]
    exact smpK_enc f kvs
theorem ix_dict (f : α → D) {x : Str} {kvs : List (Str × α)} {v : α} (h : lk x kvs = some v) : ixG (.dict (encV f kvs)) (.str x) = some (.fz (f v)) := by
  have e : ixG (.dict (encV f kvs)) (.str x) = (getK (.inr x) (encV f kvs)).map .fz := if_pos (smpK_enc f kvs)
  rw [e, getK_encV, h]; rfl
theorem in_dict (f : α → D) (x : Str) (kvs : List (Str × α)) : inG (.str x) (.dict (encV f kvs)) = some (.fz (.bool (lk x kvs).isSome)) := by
  show (isIn (.str x) (.dict (encV f kvs))).bind _ = _
  have : isIn (.str x) (.dict (encV f kvs)) = some (getK (.inr x) (encV f kvs)).isSome := if_pos (smpK_enc f kvs)
  rw [this, getK_encV]; simp
theorem notIn_dict (f : α → D) (x : Str) (kvs : List (Str × α)) : notInG (.str x) (.dict (encV f kvs)) = some (.fz (.bool (!(lk x kvs).isSome))) := by
  show (isIn (.str x) (.dict (encV f kvs))).bind _ = _
  have : isIn (.str x) (.dict (encV f kvs)) = some (getK (.inr x) (encV f kvs)).isSome := if_pos (smpK_enc f kvs)
  rw [this, getK_encV]; simp
/-- a tuple of pairs (str, datum) made a dict -/
def encP (f : α → D) (ps : List (Str × α)) : List D := ps.map fun p => .tuple [.str p.1, f p.2]
theorem pairs_encP (f : α → D) : ∀ ps : List (Str × α), pairsD (encP f ps) = some (ps.map fun p => (Sum.inr p.1, f p.2))
  | [] => rfl
  | p :: ps => by
    have ih := pairs_encP f ps
    show (match pairD (.tuple [.str p.1, f p.2]), pairsD (encP f ps) with
      | some p, some ps => some (p :: ps)
      | _, _ => none) = _
    rw [ih]; rfl
theorem merge_encP (f : α → D) : ∀ (ps acc : List (Str × α)), mergeD (encV f acc) (ps.map fun p => (Sum.inr p.1, f p.2)) = encV f (ps.foldl (fun a p => upS p.1 p.2 a) acc)
  | [], acc => rfl
  | p :: ps, acc => by
    show mergeD (putD (.inr p.1) (f p.2) (encV f acc)) _ = _
    rw [putD_encV, merge_encP f ps]; rfl
def dictP (ps : List (Str × α)) : List (Str × α) := ps.foldl (fun a p => upS p.1 p.2 a) []
theorem dict_tup (f : α → D) (ps : List (Str × α)) : dictG (.tuple (encP f ps)) = some (.fr (.dict (encV f (dictP ps)))) := by
  show (pairsD (encP f ps)).map _ = _
  rw [pairs_encP]
  simp only [Option.map_some]
  rw [← encV_nil f, merge_encP]; rfl
theorem dict_lst (f : α → D) (ps : List (Str × α)) : dictG (.list (encP f ps)) = some (.fr (.dict (encV f (dictP ps)))) := by
  show (pairsD (encP f ps)).map _ = _
  rw [pairs_encP]
  simp only [Option.map_some]
  rw [← encV_nil f, merge_encP]; rfl
theorem foldl_up_nodup : ∀ (ps acc : List (Str × α)), (ps.map Prod.fst).Nodup → (∀ p ∈ ps, lk p.1 acc = none) → ps.foldl (fun a p => upS p.1 p.2 a) acc = acc ++ ps
  | [], acc, _, _ => by simp
  | p :: ps, acc, h, hn => by
    have h1 := List.nodup_cons.mp (show (p.1 :: ps.map Prod.fst).Nodup from h)
    have hp := hn p (List.mem_cons_self ..)
    have e : upS p.1 p.2 acc = acc ++ [p] := by unfold upS; rw [hp]; simp
    rw [List.foldl_cons, e, foldl_up_nodup ps _ h1.2 fun q hq => ?_]
    · simp
    · rw [lk_app, hn q (List.mem_cons_of_mem _ hq)]
      have : ¬ p.1 = q.1 := fun z => h1.1 (z ▸ List.mem_map.mpr ⟨q, hq, rfl⟩)
      simp [lk, this]
theorem dictP_nodup {ps : List (Str × α)} (h : (ps.map Prod.fst).Nodup) : dictP ps = ps := by
  unfold dictP
  rw [foldl_up_nodup ps [] h fun _ _ => rfl]; simp
/-- setdefault -/
theorem sd_enc (f : α → D) {x : Str} {v : α} {kvs : List (Str × α)} (h : kvs.length < 100000) : sdG (.dict (encV f kvs)) [.str x, f v] = match lk x kvs with
    | some y => some (f y, .dict (encV f kvs))
    | none => some (f v, .dict (encV f (kvs ++ [(x, v)]))) := by
  have h' : (encV f kvs).length < 100000 := by simpa using h
  have e : sdG (.dict (encV f kvs)) [.str x, f v] = if (encV f kvs).length < 100000 ∧ smpK (encV f kvs) = true then match getK (.inr x) (encV f kvs) with
      | some y => some (y, .dict (encV f kvs))
      | none => some (f v, .dict (putD (.inr x) (f v) (encV f kvs)))
      else none := rfl
  rw [e, if_pos ⟨h', smpK_enc f kvs⟩, getK_encV]
  cases q : lk x kvs with
  | some y => rfl
  | none =>
    simp only [Option.map_none]
    rw [putD_encV]
    unfold upS
    rw [q]; rfl
end
/-! ### a fold that may end early -/
def runO {β γ : Type} (G : β → γ → Option β) : β → List γ → Option β
  | s, [] => some s
  | s, x :: xs => match G s x with
    | some s' => runO G s' xs
    | none => none
theorem runO_cons {β γ : Type} (G : β → γ → Option β) (s : β) (x : γ) (xs : List γ) : runO G s (x :: xs) = match G s x with
    | some s' => runO G s' xs
    | none => none := rfl
theorem runO_app {β γ : Type} (G : β → γ → Option β) : ∀ (s : β) (xs ys : List γ), runO G s (xs ++ ys) = match runO G s xs with
    | some s' => runO G s' ys
    | none => none
  | s, [], ys => rfl
  | s, x :: xs, ys => by
    rw [List.cons_append]
    show (match G s x with
      | some s' => runO G s' (xs ++ ys)
      | none => none) = match (match G s x with
      | some s' => runO G s' xs
      | none => none) with
      | some s' => runO G s' ys
      | none => none
    cases G s x with
    | none => rfl
    | some s' => exact runO_app G s' xs ys
theorem forL_run {t : D → M Unit} {b : M Fl} {β γ : Type} (f : γ → D) (G : β → γ → Option β) (E : β → En) (r : Rs) (R : En → Prop) (J : β → List γ → Prop)
    (h : ∀ s x xs, J s (x :: xs) → match G s x with
      | some s' => bnd (t (f x)) (fun _ => b) (E s) = some (.nx, E s') ∧ J s' xs
      | none => ∃ e2, bnd (t (f x)) (fun _ => b) (E s) = some (.rt r, e2) ∧ R e2) :
    ∀ (xs : List γ) (s : β), J s xs → match runO G s xs with
      | some s' => forL t b (xs.map f) (E s) = some (.nx, E s') ∧ J s' []
      | none => ∃ e2, forL t b (xs.map f) (E s) = some (.rt r, e2) ∧ R e2
  | [], s, j => ⟨rfl, j⟩
  | x :: xs, s, j => by
    have h1 := h s x xs j
    unfold runO
    cases q : G s x with
    | some s' =>
      rw [q] at h1
      simp only at h1 ⊢
      have ih := forL_run f G E r R J h xs s' h1.2
      rw [List.map_cons, forL_next h1.1]
      exact ih
    | none =>
      rw [q] at h1
      simp only at h1 ⊢
      obtain ⟨e2, h2, h3⟩ := h1
      obtain ⟨u, e1, h4, h5⟩ := bnd_eq h2
      refine ⟨e2, ?_, h3⟩
      rw [List.map_cons]
      show (match t (f x) (E s) with
        | some (_, e1) => match b e1 with
          | some (.nx, e2) => forL t b (xs.map f) e2
          | some (.ct, e2) => forL t b (xs.map f) e2
          | some (.bk, e2) => some (.nx, e2)
          | some (.rt r, e2) => some (.rt r, e2)
          | none => none
        | none => none) = _
      rw [h4]
      simp only
      rw [h5]
/-! ### lists of strs -/
theorem shp_strs {xs : List Str} (h : ∀ x ∈ xs, so x) : SeqAt.shaped (.list (xs.map .str)) = true := by
  have w : ∀ d ∈ xs.map PyData.str, d.canLay0 = true := fun d hd => by
    obtain ⟨x, hx, rfl⟩ := List.mem_map.mp hd
    have := h x hx
    simp only [PyData.canLay0]; exact this
  have c : ∀ {ds : List D}, (∀ d ∈ ds, d.canLay0 = true) → PyData.canLayAll0 ds = true := fun {ds} => by
    induction ds with
    | nil => exact fun _ => rfl
    | cons d ds ih => exact fun h => by simp [PyData.canLayAll0, h d (List.mem_cons_self ..), ih fun x hx => h x (List.mem_cons_of_mem _ hx)]
  have dp : (PyData.list (xs.map .str)).depth ≤ 0 + 1 := dep_lst.mpr fun d hd => by
    obtain ⟨x, hx, rfl⟩ := List.mem_map.mp hd
    exact Nat.le_refl _
  unfold SeqAt.shaped
  rw [show (PyData.list (xs.map .str)).canLay0 = PyData.canLayAll0 (xs.map .str) from by simp [PyData.canLay0], c w, Bool.true_and, decide_eq_true_eq]
  omega
theorem eqv_str (a b : Str) : PyData.eqv (.str a) (.str b) = (a == b) := by simp [PyData.eqv]
theorem any_str (x : Str) : ∀ ns : List Str, ((ns.map PyData.str).any fun z => PyData.eqv z (.str x)) = decide (x ∈ ns)
  | [] => by simp
  | n :: ns => by
    rw [List.map_cons, List.any_cons, any_str x ns, eqv_str]
    by_cases h : n = x
    · subst h; simp
    · have h2 : ¬ x = n := fun z => h z.symm
      have : (n == x) = false := beq_eq_false_iff_ne.mpr h
      simp [this, h2]
theorem in_strs {x : Str} {xs : List Str} (hx : so x) (h : ∀ x ∈ xs, so x) : inG (.str x) (.list (xs.map .str)) = some (.fz (.bool (decide (x ∈ xs)))) := by
  show (if SeqAt.shaped (.str x) = true ∧ SeqAt.shaped (.list (xs.map .str)) = true then some ((xs.map PyData.str).any fun z => PyData.eqv z (.str x)) else none).bind boolR = _
  rw [if_pos ⟨shp_str hx, shp_strs h⟩, any_str]; rfl
theorem eqvAll_strs : ∀ xs ys : List Str, PyData.eqv (.list (xs.map .str)) (.list (ys.map .str)) = decide (xs = ys) := by
  have key : ∀ xs ys : List Str, PyData.eqvAll (xs.map .str) (ys.map .str) = decide (xs = ys) := fun xs => by
    induction xs with
    | nil => intro ys; cases ys <;> simp [PyData.eqvAll]
    | cons x xs ih =>
      intro ys
      cases ys with
      | nil => simp [PyData.eqvAll]
      | cons y ys =>
        simp only [List.map_cons, PyData.eqvAll, ih ys, eqv_str]
        by_cases h : x = y <;> by_cases h2 : xs = ys <;> simp [h, h2]
  intro xs ys
  simp only [PyData.eqv]
  exact key xs ys
theorem ne_strs {xs ys : List Str} (h : ∀ x ∈ xs, so x) (k : ∀ x ∈ ys, so x) : neG (.list (xs.map .str)) (.list (ys.map .str)) = some (.fz (.bool (!decide (xs = ys)))) := by
  show (if SeqAt.shaped (.list (xs.map .str)) = true ∧ SeqAt.shaped (.list (ys.map .str)) = true then boolR (!PyData.eqv (.list (xs.map .str)) (.list (ys.map .str))) else none) = _
  rw [if_pos ⟨shp_strs h, shp_strs k⟩, eqvAll_strs]; rfl
theorem eq_strs {xs ys : List Str} (h : ∀ x ∈ xs, so x) (k : ∀ x ∈ ys, so x) : eqG (.list (xs.map .str)) (.list (ys.map .str)) = some (.fz (.bool (decide (xs = ys)))) := by
  show (if SeqAt.shaped (.list (xs.map .str)) = true ∧ SeqAt.shaped (.list (ys.map .str)) = true then boolR (PyData.eqv (.list (xs.map .str)) (.list (ys.map .str))) else none) = _
  rw [if_pos ⟨shp_strs h, shp_strs k⟩, eqvAll_strs]; rfl
theorem min_strs {x : Str} {xs : List Str} (h : ∀ y ∈ x :: xs, so y) : ∃ y, minG (.list ((x :: xs).map .str)) = some (.fz (.str y)) := by
  have al : alikeB ((x :: xs).map .str) = true := by
    unfold alikeB
    rw [List.all_eq_true]
    intro d hd
    obtain ⟨a, _, rfl⟩ := List.mem_map.mp hd
    simp only [isN_str, Bool.not_false, Bool.true_and]
    rw [List.all_eq_true]
    intro e he
    obtain ⟨b, _, rfl⟩ := List.mem_map.mp he
    rfl
  have s := shp_strs h
  unfold SeqAt.shaped at s
  simp only [Bool.and_eq_true] at s
  have c : PyData.canLayAll0 ((x :: xs).map .str) = true := by have := s.1; simpa only [PyData.canLay0] using this
  have dp : PyData.depthAll ((x :: xs).map .str) ≤ 0 := dep_all.mp fun d hd => by
    obtain ⟨a, _, rfl⟩ := List.mem_map.mp hd
    exact Nat.le_refl _
  have key : ∀ (ds : List D) (d : D), (∀ e ∈ d :: ds, ∃ y, e = PyData.str y) → ∃ y, PySem.W.minD d ds = .str y := fun ds => by
    induction ds with
    | nil => intro d h; exact h d (List.mem_cons_self ..)
    | cons e ds ih =>
      intro d h
      show ∃ y, PySem.W.minD (if PySem.W.dataLt e d = true then e else d) ds = PyData.str y
      split <;> refine ih _ fun z hz => h z ?_
      all_goals
        simp only [List.mem_cons] at hz ⊢
        rcases hz with rfl | hz
        · simp
        · simp [hz]
  obtain ⟨y, hy⟩ := key (xs.map .str) (.str x) (fun e he => by
    obtain ⟨a, _, rfl⟩ := List.mem_map.mp (show e ∈ (x :: xs).map PyData.str from he)
    exact ⟨a, rfl⟩)
  refine ⟨y, ?_⟩
  show (if alikeB ((x :: xs).map .str) = true ∧ PyData.canLayAll0 ((x :: xs).map .str) = true ∧ PyData.depthAll ((x :: xs).map .str) ≤ 60 then some (Rs.fz (PySem.W.minD (.str x) (xs.map .str))) else none) = _
  rw [if_pos ⟨al, c, by omega⟩, hy]
end DV
end
section
set_option Elab.async false
set_option linter.all false
set_option maxRecDepth 100000
set_option maxHeartbeats 4000000
namespace DV
open PySem PySem.Spec PyProof.Rows L2
theorem Wp_rng1 {fs : M (List Rs)} {e : En} {Q : (List D × Option Nat) → En → Prop} (h : Wp (fs e) (fun rs e1 => ∃ j : Int, rs.length = 1 ∧ rdAll e1 rs = some [.int j] ∧ 0 ≤ j ∧ j ≤ 1000000 ∧ Q (rngL 0 j.toNat, none) e1)) : Wp (rng1M fs e) Q := by
  obtain ⟨rs, e1, h1, j, h2, h3, h4, h5, h6⟩ := h
  exact ⟨_, _, rng1_ap e fs e1 rs j h1 h2 h3 h4 h5, h6⟩
theorem Wp_eq {α : Type} {o o' : Option (α × En)} {Q : α → En → Prop} (h : o = o') (k : Wp o' Q) : Wp o Q := h ▸ k
theorem Wp_opt {g : Option Rs} {r : Rs} {e : En} {Q : Rs → En → Prop} (h : g = some r) (k : Q r e) : Wp (opt g e) Q := by rw [h]; exact ⟨_, _, rfl, k⟩
end DV
end
section
set_option Elab.async false
set_option linter.all false
set_option maxRecDepth 100000
set_option maxHeartbeats 4000000
namespace DV
open PySem PySem.Spec PyProof.Rows L2
/-! ### what is shown tells the datum -/
abbrev Cs := List Nat
def tl (d : D) : Cs := d.shown.cps.toList
def Ed (r : Cs) : Prop := r = [] ∨ ∃ c r', r = c :: r' ∧ (c = 44 ∨ c = 41 ∨ c = 93)
/-- strs whose texts don't begin with one another -/
def preS (S : List Str) : Bool := S.all fun x => S.all (fun y => !((tl (.str x)).isPrefixOf (tl (.str y))) || decide (x = y)) && (match tl (.str x) with | c :: _ => c == 39 || c == 34 | [] => false)
def kd (c : Nat) : Nat := if c = 78 then 0 else if c = 84 ∨ c = 70 then 1 else if c = 45 ∨ (48 ≤ c ∧ c ≤ 57) then 2 else if c = 39 ∨ c = 34 then 3 else if c = 40 then 4 else if c = 91 then 5 else 6
def kdD : D → Nat
  | .none => 0
  | .bool _ => 1
  | .int _ => 2
  | .str _ => 3
  | .tuple _ => 4
  | .list _ => 5
  | .dict _ => 7
theorem tl_none : tl .none = [78, 111, 110, 101] := by decide +kernel
theorem tl_true : tl (.bool true) = [84, 114, 117, 101] := by decide +kernel
theorem tl_false : tl (.bool false) = [70, 97, 108, 115, 101] := by decide +kernel
theorem tl_int_sg (i : Int) : ∀ c ∈ tl (.int i), c = 45 ∨ (48 ≤ c ∧ c ≤ 57) := fun c hc => by
  refine Decidable.byContradiction fun h => ?_
  exact shown_int_free' (k := c) ⟨by omega, by omega⟩ i hc
theorem tl_int_ne (i : Int) : tl (.int i) ≠ [] := fun h => by
  have e : (toString i).toList.map Char.toNat = [] := by
    have : tl (.int i) = (toString i).toList.map Char.toNat := by
      show ((toString i : String) : Str).cps.toList = _
      rw [signs_ofString]
    rw [← this, h]
  have e2 : (toString i) = "" := by
    have := List.map_eq_nil_iff.mp e
    exact String.toList_eq_nil_iff.mp this
  have e3 : (toString i) = Int.repr i := rfl
  rw [e3] at e2
  cases i with
  | ofNat n =>
    have : Nat.repr n = "" := e2
    have h2 : Nat.repr n ≠ "" := by
      intro h
      have h3 := Nat.toList_repr (n := n)
      rw [h] at h3
      have h4 : Nat.toDigits 10 n = [] := h3.symm
      exact Nat.toDigits_ne_nil h4
    exact h2 this
  | negSucc n =>
    have : ("-" ++ Nat.repr (n + 1)) = "" := e2
    have h2 := congrArg String.length this
    simp at h2
theorem tl_int_inj {i j : Int} (h : tl (.int i) = tl (.int j)) : i = j := by
  have e : ∀ i : Int, tl (.int i) = (toString i).toList.map Char.toNat := fun i => by
    show ((toString i : String) : Str).cps.toList = _
    rw [signs_ofString]
  rw [e, e] at h
  have inj : ∀ a b : List Char, a.map Char.toNat = b.map Char.toNat → a = b := fun a => by
    induction a with
    | nil => intro b hb; cases b with
      | nil => rfl
      | cons c r => simp at hb
    | cons c a ih => intro b hb; cases b with
      | nil => simp at hb
      | cons c2 b =>
        simp only [List.map_cons, List.cons.injEq] at hb
        rw [ih b hb.2, Char.toNat_inj.mp hb.1]
  have h2 := inj _ _ h
  have h3 : (toString i) = (toString j) := String.toList_inj.mp h2
  exact Int.repr_injective h3
theorem span_inj {p : Nat → Prop} : ∀ {a b r s : Cs}, (∀ c ∈ a, p c) → (∀ c ∈ b, p c) → (∀ c r', r = c :: r' → ¬ p c) → (∀ c r', s = c :: r' → ¬ p c) → a ++ r = b ++ s → a = b ∧ r = s
  | [], [], r, s, _, _, _, _, h => ⟨rfl, h⟩
  | [], c :: b, r, s, _, hb, hr, _, h => absurd (hb c (List.mem_cons_self ..)) (hr c (b ++ s) h)
  | c :: a, [], r, s, ha, _, _, hs, h => absurd (ha c (List.mem_cons_self ..)) (hs c (a ++ r) h.symm)
  | c :: a, c2 :: b, r, s, ha, hb, hr, hs, h => by
    simp only [List.cons_append, List.cons.injEq] at h
    obtain ⟨h1, h2⟩ := span_inj (fun x hx => ha x (List.mem_cons_of_mem _ hx)) (fun x hx => hb x (List.mem_cons_of_mem _ hx)) hr hs h.2
    exact ⟨by rw [h.1, h1], h2⟩
def TM : List D → Cs → Cs
  | [], t => t
  | d :: ds, t => 44 :: 32 :: (tl d ++ TM ds t)
theorem sep_tl : (Str.ofString ", ").cps.toList = [44, 32] := by decide
theorem app_tl (a b : Str) : (a ++ b).cps.toList = a.cps.toList ++ b.cps.toList := by rw [Str.cps_append, Array.toList_append]
theorem join_tl : ∀ (ds : List D) (d : D) (t : Cs), (Str.join ", " (PyData.shownAll (d :: ds))).cps.toList ++ t = tl d ++ TM ds t
  | [], d, t => by simp only [PyData.shownAll, TM]; rfl
  | e :: ds, d, t => by
    have ih := join_tl ds e t
    simp only [PyData.shownAll] at ih ⊢
    show ((d.shown ++ ", ") ++ Str.join ", " (e.shown :: PyData.shownAll ds)).cps.toList ++ t = _
    rw [app_tl, app_tl, List.append_assoc, ih, sep_tl]
    simp [TM, tl]
theorem from_tl : ∀ (ds : List D) (k : Nat) (acc : Str) (t : Cs), (textFrom (k + 1) acc (PyData.shownAll ds)).cps.toList ++ t = acc.cps.toList ++ TM ds t
  | [], k, acc, t => by simp [PyData.shownAll, textFrom, TM]
  | d :: ds, k, acc, t => by
    simp only [PyData.shownAll]
    show (textFrom (k + 1 + 1) (acc ++ (if k + 1 > 0 then ", " else "" : String) ++ d.shown) (PyData.shownAll ds)).cps.toList ++ t = _
    rw [from_tl ds, if_pos (by omega), app_tl, app_tl, sep_tl]
    simp [TM, tl]
def Cl (t : Cs) : Prop := ∃ c r, t = c :: r ∧ (c = 41 ∨ c = 93 ∨ (c = 44 ∧ ∃ r', r = 41 :: r'))
theorem TM_ed {t : Cs} (h : Cl t) : ∀ ds : List D, Ed (TM ds t)
  | [] => by obtain ⟨c, r, rfl, h⟩ := h; exact .inr ⟨c, r, rfl, by rcases h with h | h | h <;> omega⟩
  | d :: ds => .inr ⟨44, _, rfl, .inl rfl⟩
def Inj1 (S : List Str) (d : D) : Prop := ∀ e, Vd S e → ∀ r s, Ed r → Ed s → tl d ++ r = tl e ++ s → d = e ∧ r = s
theorem TM_inj {S : List Str} : ∀ {ds es : List D} {t u : Cs}, (∀ d ∈ ds, Inj1 S d) → (∀ e ∈ es, Vd S e) → Cl t → Cl u → TM ds t = TM es u → ds = es ∧ t = u
  | [], [], t, u, _, _, _, _, h => ⟨rfl, h⟩
  | [], e :: es, t, u, _, _, ht, _, h => by
    obtain ⟨c, r, rfl, h2⟩ := ht
    simp only [TM, List.cons.injEq] at h
    rcases h2 with h2 | h2 | ⟨_, r', h2⟩
    · omega
    · omega
    · rw [h2] at h; simp at h
  | d :: ds, [], t, u, _, _, _, hu, h => by
    obtain ⟨c, r, rfl, h2⟩ := hu
    simp only [TM, List.cons.injEq] at h
    rcases h2 with h2 | h2 | ⟨_, r', h2⟩
    · omega
    · omega
    · rw [h2] at h; simp at h
  | d :: ds, e :: es, t, u, hi, hv, ht, hu, h => by
    simp only [TM, List.cons.injEq, true_and] at h
    obtain ⟨h1, h2⟩ := hi d (List.mem_cons_self ..) e (hv e (List.mem_cons_self ..)) _ _ (TM_ed ht ds) (TM_ed hu es) h
    obtain ⟨h3, h4⟩ := TM_inj (fun x hx => hi x (List.mem_cons_of_mem _ hx)) (fun x hx => hv x (List.mem_cons_of_mem _ hx)) ht hu h2
    exact ⟨by rw [h1, h3], h4⟩
def clT (ds : List D) : Cs := if ds.length = 1 then [44, 41] else [41]
theorem shownAll_length' : ∀ ds : List D, (PyData.shownAll ds).length = ds.length
  | [] => rfl
  | d :: ds => by simp [PyData.shownAll, shownAll_length' ds]
theorem tl_tup (ds : List D) (r : Cs) : tl (.tuple ds) ++ r = match ds with | [] => 40 :: 41 :: r | d :: es => 40 :: (tl d ++ TM es (clT ds ++ r)) := by
  cases ds with
  | nil =>
    have : tl (.tuple []) = [40, 41] := by decide +kernel
    rw [this]; rfl
  | cons d es =>
    show (PyData.shown (.tuple (d :: es))).cps.toList ++ r = _
    simp only [PyData.shown]
    unfold tupleText
    rw [app_tl, app_tl, List.append_assoc, List.append_assoc, join_tl, shownAll_length']
    have e1 : (Str.ofString "(").cps.toList = [40] := by decide
    have e2 : (Str.ofString ",)").cps.toList = [44, 41] := by decide
    have e3 : (Str.ofString ")").cps.toList = [41] := by decide
    rw [e1]
    unfold clT
    by_cases h : (d :: es).length = 1
    · have h' : ((d :: es).length == 1) = true := by simpa using h
      rw [if_pos h, if_pos h', e2]; rfl
    · have h' : ¬ ((d :: es).length == 1) = true := by simpa using h
      rw [if_neg h, if_neg h', e3]; rfl
theorem tl_lst (ds : List D) (r : Cs) : tl (.list ds) ++ r = match ds with | [] => 91 :: 93 :: r | d :: es => 91 :: (tl d ++ TM es (93 :: r)) := by
  cases ds with
  | nil =>
    have : tl (.list []) = [91, 93] := by decide +kernel
    rw [this]; rfl
  | cons d es =>
    show (PyData.shown (.list (d :: es))).cps.toList ++ r = _
    simp only [PyData.shown]
    show (textFrom 0 "[" (PyData.shownAll (d :: es)) ++ "]").cps.toList ++ r = _
    simp only [PyData.shownAll]
    show (textFrom 1 (Str.ofString "[" ++ Str.ofString "" ++ d.shown) (PyData.shownAll es) ++ "]").cps.toList ++ r = _
    rw [app_tl, List.append_assoc]
    have e1 : (Str.ofString "[").cps.toList = [91] := by decide
    have e2 : (Str.ofString "]").cps.toList = [93] := by decide
    have e3 : (Str.ofString "").cps.toList = [] := by decide
    rw [from_tl es 0, app_tl, app_tl, e1, e2, e3]
    simp [tl]
theorem clT_cl (ds : List D) (r : Cs) : Cl (clT ds ++ r) := by
  unfold clT
  split
  · exact ⟨44, 41 :: r, rfl, .inr (.inr ⟨rfl, r, rfl⟩)⟩
  · exact ⟨41, r, rfl, .inl rfl⟩
section
variable {S : List Str} (hS : preS S = true)
include hS
theorem pre_head {x : Str} (h : x ∈ S) : ∃ c r, tl (.str x) = c :: r ∧ (c = 39 ∨ c = 34) := by
  unfold preS at hS
  have h1 := List.all_eq_true.mp hS x h
  rw [Bool.and_eq_true] at h1
  have h2 := h1.2
  cases e : tl (.str x) with
  | nil => rw [e] at h2; cases h2
  | cons c r =>
    rw [e] at h2
    simp only [Bool.or_eq_true, beq_iff_eq] at h2
    exact ⟨c, r, rfl, h2⟩
theorem pre_inj {x y : Str} (h : x ∈ S) (k : y ∈ S) (e : tl (.str x) <+: tl (.str y)) : x = y := by
  unfold preS at hS
  have h1 := List.all_eq_true.mp hS x h
  rw [Bool.and_eq_true] at h1
  have h2 := List.all_eq_true.mp h1.1 y k
  rw [Bool.or_eq_true, decide_eq_true_eq] at h2
  rcases h2 with h2 | h2
  · rw [List.isPrefixOf_iff_prefix.mpr e] at h2; cases h2
  · exact h2
theorem tl_head {d : D} (h : Vd S d) : ∃ c r, tl d = c :: r ∧ kd c = kdD d := by
  cases h with
  | none => exact ⟨_, _, tl_none, rfl⟩
  | bool b => cases b; exact ⟨_, _, tl_false, rfl⟩; exact ⟨_, _, tl_true, rfl⟩
  | @int i h1 h2 =>
    cases e : tl (.int i) with
    | nil => exact absurd e (tl_int_ne i)
    | cons c r =>
      have h := tl_int_sg i c (by rw [e]; exact List.mem_cons_self ..)
      refine ⟨c, r, rfl, ?_⟩
      unfold kd kdD
      rw [if_neg (by omega), if_neg (by omega), if_pos h]
  | @str x hx =>
    obtain ⟨c, r, e, h⟩ := pre_head hS hx
    refine ⟨c, r, e, ?_⟩
    rcases h with rfl | rfl <;> rfl
  | @tup ds hd =>
    have := tl_tup ds []
    rw [List.append_nil] at this
    cases ds with
    | nil => exact ⟨_, _, this, rfl⟩
    | cons d ds => exact ⟨_, _, this, rfl⟩
  | @lst ds hd =>
    have := tl_lst ds []
    rw [List.append_nil] at this
    cases ds with
    | nil => exact ⟨_, _, this, rfl⟩
    | cons d ds => exact ⟨_, _, this, rfl⟩
theorem kd_eq {d e : D} (h : Vd S d) (k : Vd S e) {r s : Cs} (he : tl d ++ r = tl e ++ s) : kdD d = kdD e := by
  obtain ⟨c, a, h1, h2⟩ := tl_head hS h
  obtain ⟨c2, b, h3, h4⟩ := tl_head hS k
  rw [h1, h3] at he
  simp only [List.cons_append, List.cons.injEq] at he
  rw [← h2, ← h4, he.1]
theorem no_close {e : D} (h : Vd S e) {c : Nat} {r s : Cs} (he : c :: r = tl e ++ s) (hc : c = 41 ∨ c = 93) : False := by
  obtain ⟨c2, b, h3, h4⟩ := tl_head hS h
  rw [h3] at he
  simp only [List.cons_append, List.cons.injEq] at he
  rw [← he.1] at h4
  cases h <;> rcases hc with rfl | rfl <;> simp [kd, kdD] at h4
theorem tl_inj1 {d : D} (h : Vd S d) : Inj1 S d := by
  induction h with
  | none =>
    intro e he r s hr hs heq
    have := kd_eq hS .none he heq
    cases he <;> simp [kdD] at this
    exact ⟨rfl, List.append_cancel_left heq⟩
  | bool b =>
    intro e he r s hr hs heq
    have := kd_eq hS (.bool b) he heq
    cases he with
    | bool b2 =>
      cases b <;> cases b2 <;> simp only [tl_true, tl_false] at heq
      · exact ⟨rfl, List.append_cancel_left heq⟩
      · simp at heq
      · simp at heq
      · exact ⟨rfl, List.append_cancel_left heq⟩
    | _ => simp [kdD] at this
  | @int i h1 h2 =>
    intro e he r s hr hs heq
    have := kd_eq hS (.int h1 h2) he heq
    cases he with
    | @int j _ _ =>
      have ne : ∀ {r : Cs}, Ed r → ∀ c r', r = c :: r' → ¬ (c = 45 ∨ (48 ≤ c ∧ c ≤ 57)) := fun hr c r' e => by
        rcases hr with hr | ⟨c2, r2, hr, h⟩
        · rw [hr] at e; cases e
        · rw [hr] at e; cases e; omega
      obtain ⟨g1, g2⟩ := span_inj (tl_int_sg i) (tl_int_sg j) (ne hr) (ne hs) heq
      exact ⟨by rw [tl_int_inj g1], g2⟩
    | _ => simp [kdD] at this
  | @str x hx =>
    intro e he r s hr hs heq
    have := kd_eq hS (.str hx) he heq
    cases he with
    | @str y hy =>
      have p1 : tl (.str x) <+: tl (.str x) ++ r := List.prefix_append _ _
      have p2 : tl (.str y) <+: tl (.str x) ++ r := by rw [heq]; exact List.prefix_append _ _
      have exy : x = y := by
        rcases Nat.le_total (tl (.str x)).length (tl (.str y)).length with hl | hl
        · exact pre_inj hS hx hy (List.prefix_of_prefix_length_le p1 p2 hl)
        · exact (pre_inj hS hy hx (List.prefix_of_prefix_length_le p2 p1 hl)).symm
      subst exy
      exact ⟨rfl, List.append_cancel_left heq⟩
    | _ => simp [kdD] at this
  | @tup ds hd ih =>
    intro e he r s hr hs heq
    have := kd_eq hS (.tup hd) he heq
    cases he with
    | @tup es hes =>
      rw [tl_tup, tl_tup] at heq
      cases ds with
      | nil =>
        cases es with
        | nil => simp only [List.cons.injEq, true_and] at heq; exact ⟨rfl, heq⟩
        | cons e es =>
          simp only [List.cons.injEq, true_and] at heq
          exact (no_close hS (hes e (List.mem_cons_self ..)) heq (.inl rfl)).elim
      | cons d ds =>
        cases es with
        | nil =>
          simp only [List.cons.injEq, true_and] at heq
          exact (no_close hS (hd d (List.mem_cons_self ..)) heq.symm (.inl rfl)).elim
        | cons e es =>
          simp only [List.cons.injEq, true_and] at heq
          obtain ⟨g1, g2⟩ := ih d (List.mem_cons_self ..) e (hes e (List.mem_cons_self ..)) _ _ (TM_ed (clT_cl _ _) _) (TM_ed (clT_cl _ _) _) heq
          obtain ⟨g3, g4⟩ := TM_inj (fun x hx => ih x (List.mem_cons_of_mem _ hx)) (fun x hx => hes x (List.mem_cons_of_mem _ hx)) (clT_cl _ _) (clT_cl _ _) g2
          subst g1; subst g3
          exact ⟨rfl, List.append_cancel_left g4⟩
    | _ => simp [kdD] at this
  | @lst ds hd ih =>
    intro e he r s hr hs heq
    have := kd_eq hS (.lst hd) he heq
    cases he with
    | @lst es hes =>
      rw [tl_lst, tl_lst] at heq
      cases ds with
      | nil =>
        cases es with
        | nil => simp only [List.cons.injEq, true_and] at heq; exact ⟨rfl, heq⟩
        | cons e es =>
          simp only [List.cons.injEq, true_and] at heq
          exact (no_close hS (hes e (List.mem_cons_self ..)) heq (.inr rfl)).elim
      | cons d ds =>
        cases es with
        | nil =>
          simp only [List.cons.injEq, true_and] at heq
          exact (no_close hS (hd d (List.mem_cons_self ..)) heq.symm (.inr rfl)).elim
        | cons e es =>
          simp only [List.cons.injEq, true_and] at heq
          have c93 : ∀ r : Cs, Cl (93 :: r) := fun r => ⟨93, r, rfl, .inr (.inl rfl)⟩
          obtain ⟨g1, g2⟩ := ih d (List.mem_cons_self ..) e (hes e (List.mem_cons_self ..)) _ _ (TM_ed (c93 _) _) (TM_ed (c93 _) _) heq
          obtain ⟨g3, g4⟩ := TM_inj (fun x hx => ih x (List.mem_cons_of_mem _ hx)) (fun x hx => hes x (List.mem_cons_of_mem _ hx)) (c93 _) (c93 _) g2
          subst g1; subst g3
          simp only [List.cons.injEq, true_and] at g4
          exact ⟨rfl, g4⟩
    | _ => simp [kdD] at this
theorem shown_inj {d e : D} (h : Vd S d) (k : Vd S e) (he : d.shown = e.shown) : d = e := by
  have : tl d ++ [] = tl e ++ [] := by unfold tl; rw [he]
  exact (tl_inj1 hS h e k [] [] (.inl rfl) (.inl rfl) this).1
end
@[simp] theorem isN_dict (kvs : List (D × D)) : isNoneD (.dict kvs) = false := rfl
/-! two texts compared -/
theorem ne_strs2 {a b : Str} (h : so a) (k : so b) : neG (.str a) (.str b) = some (.fz (.bool (!decide (a = b)))) := by
  rw [ne_str (shp_str h) k]; rfl
theorem eq_strs2 {a b : Str} (h : so a) (k : so b) : eqG (.str a) (.str b) = some (.fz (.bool (decide (a = b)))) := by
  rw [eq_str (shp_str h) k]; rfl
/-! == of data without truth values -/
def nbD : D → Bool := fun d => match d with
  | .bool _ => false
  | _ => true
inductive Nb : D → Prop
  | none : Nb .none
  | int (i : Int) : Nb (.int i)
  | str (x : Str) : Nb (.str x)
  | tup {ds : List D} : (∀ d ∈ ds, Nb d) → Nb (.tuple ds)
  | lst {ds : List D} : (∀ d ∈ ds, Nb d) → Nb (.list ds)
theorem Nb.of_tup {ds : List D} (h : Nb (.tuple ds)) : ∀ d ∈ ds, Nb d := by cases h; assumption
theorem Nb.of_lst {ds : List D} (h : Nb (.list ds)) : ∀ d ∈ ds, Nb d := by cases h; assumption
theorem eqv_nb {d : D} (h : Nb d) : ∀ e, Nb e → (PyData.eqv d e = true ↔ d = e) := by
  have all : ∀ {ds : List D}, (∀ d ∈ ds, ∀ e, Nb e → (PyData.eqv d e = true ↔ d = e)) → ∀ es, (∀ e ∈ es, Nb e) → (PyData.eqvAll ds es = true ↔ ds = es) := fun {ds} => by
    induction ds with
    | nil => intro _ es _; cases es <;> simp [PyData.eqvAll]
    | cons d ds ih =>
      intro h es hs
      cases es with
      | nil => simp [PyData.eqvAll]
      | cons e es =>
        simp only [PyData.eqvAll, Bool.and_eq_true, List.cons.injEq]
        rw [h d (List.mem_cons_self ..) e (hs e (List.mem_cons_self ..)), ih (fun x hx => h x (List.mem_cons_of_mem _ hx)) es fun x hx => hs x (List.mem_cons_of_mem _ hx)]
  induction h with
  | none => intro e he; cases he <;> simp [PyData.eqv]
  | int i => intro e he; cases he <;> simp [PyData.eqv]
  | str x => intro e he; cases he <;> simp [PyData.eqv]
  | tup _ ih => intro e he; cases he with
    | tup hs => simp only [PyData.eqv, PyData.tuple.injEq]; exact all ih _ hs
    | _ => simp [PyData.eqv]
  | lst _ ih => intro e he; cases he with
    | lst hs => simp only [PyData.eqv, PyData.list.injEq]; exact all ih _ hs
    | _ => simp [PyData.eqv]
end DV
end
section
set_option Elab.async false
set_option linter.all false
set_option maxRecDepth 100000
set_option maxHeartbeats 4000000
namespace DV
open PySem PySem.Spec PyProof.Rows L2
/-! ### tuples as keys -/
noncomputable instance decD : DecidableEq D := fun a b => Classical.propDecidable (a = b)
theorem nkT {es : List D} {n : NestedKey} (h : nkOf (.tuple es) = some n) : ∃ ks, nkAll es = some ks ∧ n = .tup ks := by
  simp only [nkOf] at h
  split at h
  · rename_i ks hk; cases h; exact ⟨ks, hk, rfl⟩
  · cases h
mutual
theorem nk_inj : ∀ (d e : D) (n : NestedKey), nkOf d = some n → nkOf e = some n → d = e
  | .none, e, n, h, k => by
    simp only [nkOf, Option.some.injEq] at h; subst h
    cases e with
    | tuple es => obtain ⟨ks, _, e⟩ := nkT k; cases e
    | none => rfl
    | _ => simp [nkOf] at k
  | .bool b, e, n, h, k => by simp [nkOf] at h
  | .int i, e, n, h, k => by
    simp only [nkOf, Option.some.injEq] at h; subst h
    cases e with
    | tuple es => obtain ⟨ks, _, e⟩ := nkT k; cases e
    | int j => simp only [nkOf, Option.some.injEq, NestedKey.num.injEq] at k; rw [k]
    | _ => simp [nkOf] at k
  | .str x, e, n, h, k => by
    simp only [nkOf, Option.some.injEq] at h; subst h
    cases e with
    | tuple es => obtain ⟨ks, _, e⟩ := nkT k; cases e
    | str j => simp only [nkOf, Option.some.injEq, NestedKey.text.injEq] at k; rw [k]
    | _ => simp [nkOf] at k
  | .list ds, e, n, h, k => by simp [nkOf] at h
  | .dict ds, e, n, h, k => by simp [nkOf] at h
  | .tuple ds, e, n, h, k => by
    obtain ⟨ks, hk, rfl⟩ := nkT h
    cases e with
    | tuple es =>
      obtain ⟨ks2, hk2, e⟩ := nkT k
      cases e
      rw [nka_inj ds es ks hk hk2]
    | _ => simp [nkOf] at k
theorem nka_inj : ∀ (ds es : List D) (ks : List NestedKey), nkAll ds = some ks → nkAll es = some ks → ds = es
  | [], [], ks, _, _ => rfl
  | [], e :: es, ks, h, k => by
    simp only [nkAll, Option.some.injEq] at h; subst h
    simp only [nkAll] at k
    split at k <;> cases k
  | d :: ds, [], ks, h, k => by
    simp only [nkAll, Option.some.injEq] at k; subst k
    simp only [nkAll] at h
    split at h <;> cases h
  | d :: ds, e :: es, ks, h, k => by
    simp only [nkAll] at h k
    split at h
    · rename_i n ns h1 h2
      cases h
      split at k
      · rename_i n2 ns2 k1 k2
        cases k
        rw [nk_inj d e n h1 k1, nka_inj ds es ns h2 k2]
      · cases k
    · cases h
end
theorem tk_eq {d : D} {n : NestedKey} (h : tkOf d = some n) : nkOf d = some n := by
  unfold tkOf at h
  split at h
  · split at h
    · rename_i k hk
      split at h
      · cases h; exact hk
      · cases h
    · cases h
  · cases h
theorem tk_inj {d e : D} {n : NestedKey} (h : tkOf d = some n) (k : tkOf e = some n) : d = e := nk_inj d e n (tk_eq h) (tk_eq k)
/-- data that may be parts of keys -/
inductive Pk : D → Prop
  | none : Pk .none
  | int (i : Int) : Pk (.int i)
  | str (x : Str) : Pk (.str x)
  | tup {ds : List D} : (∀ d ∈ ds, Pk d) → Pk (.tuple ds)
theorem Pk.of_tup {ds : List D} (h : Pk (.tuple ds)) : ∀ d ∈ ds, Pk d := by cases h; assumption
theorem pk_nk {d : D} (h : Pk d) : ∃ n, nkOf d = some n ∧ n.depth ≤ d.depth := by
  have all : ∀ {ds : List D}, (∀ d ∈ ds, ∃ n, nkOf d = some n ∧ n.depth ≤ d.depth) → ∃ ks, nkAll ds = some ks ∧ NestedKey.depthAll ks ≤ PyData.depthAll ds := fun {ds} => by
    induction ds with
    | nil => exact fun _ => ⟨[], rfl, Nat.le_refl _⟩
    | cons d ds ih =>
      intro h
      obtain ⟨ks, h1, h2⟩ := ih fun x hx => h x (List.mem_cons_of_mem _ hx)
      obtain ⟨n, h3, h4⟩ := h d (List.mem_cons_self ..)
      refine ⟨n :: ks, by simp only [nkAll, h1, h3], ?_⟩
      simp only [NestedKey.depthAll, PyData.depthAll]
      omega
  induction h with
  | none => exact ⟨_, rfl, Nat.zero_le _⟩
  | int i => exact ⟨_, rfl, Nat.zero_le _⟩
  | str x => exact ⟨_, rfl, Nat.zero_le _⟩
  | @tup ds _ ih =>
    obtain ⟨ks, h1, h2⟩ := all ih
    refine ⟨.tup ks, by simp only [nkOf, h1], ?_⟩
    simp only [NestedKey.depth, PyData.depth]
    omega
structure TK (d : D) : Prop where
  t : ∃ ds, d = .tuple ds
  p : Pk d
  k : d.depth ≤ 8
theorem TK.of {d : D} (h : TK d) : ∃ n, tkOf d = some n := by
  obtain ⟨ds, rfl⟩ := h.t
  obtain ⟨n, h1, h2⟩ := pk_nk h.p
  have := h.k
  refine ⟨n, ?_⟩
  have e : tkOf (.tuple ds) = match nkOf (.tuple ds) with
    | some k => if k.depth ≤ 8 then some k else none
    | none => none := rfl
  rw [e, h1]
  exact if_pos (by omega)
theorem TK.dk {d : D} (h : TK d) : dKey d = none := by
  obtain ⟨ds, rfl⟩ := h.t; rfl
section
variable {α : Type}
noncomputable def lkD (x : D) : List (D × α) → Option α
  | [] => none
  | p :: r => if p.1 = x then some p.2 else lkD x r
def encT (f : α → D) (kvs : List (D × α)) : List (D × D) := kvs.map fun p => (p.1, f p.2)
noncomputable def upD (x : D) (v : α) (kvs : List (D × α)) : List (D × α) := if (lkD x kvs).isSome = true then kvs.map (fun p => if p.1 = x then (p.1, v) else p) else kvs ++ [(x, v)]
@[simp] theorem encT_len (f : α → D) (kvs : List (D × α)) : (encT f kvs).length = kvs.length := by simp [encT]
@[simp] theorem encT_nil (f : α → D) : encT f [] = [] := rfl
def KeysT (kvs : List (D × α)) : Prop := ∀ p ∈ kvs, TK p.1
theorem nst_enc (f : α → D) {kvs : List (D × α)} (h : KeysT kvs) : nstK (encT f kvs) = true := by
  unfold nstK encT
  rw [List.all_map, List.all_eq_true]
  intro p hp
  obtain ⟨n, hn⟩ := (h p hp).of
  show (tkOf p.1).isSome = true
  rw [hn]; rfl
theorem getT_enc (f : α → D) {x : D} {n : NestedKey} (hx : tkOf x = some n) : ∀ kvs : List (D × α), getT n (encT f kvs) = (lkD x kvs).map f
  | [] => rfl
  | p :: r => by
    show (if tkOf p.1 = some n then some (f p.2) else getT n (encT f r)) = _
    by_cases h : p.1 = x
    · rw [if_pos (by rw [h]; exact hx)]
      simp [lkD, h]
    · rw [if_neg (fun e => h (tk_inj e hx)), getT_enc f hx r]
      simp [lkD, h]
theorem putT_enc (f : α → D) {x : D} {n : NestedKey} (hx : tkOf x = some n) (v : α) (kvs : List (D × α)) : putT n x (f v) (encT f kvs) = encT f (upD x v kvs) := by
  unfold putT upD
  rw [getT_enc f hx]
  by_cases c : (lkD x kvs).isSome = true
  · rw [if_pos (by simpa using c), if_pos c]
    simp only [encT, List.map_map]
    refine List.map_congr_left fun p _ => ?_
    by_cases h : p.1 = x
    · simp [h, hx]
    · have : ¬ tkOf p.1 = some n := fun e => h (tk_inj e hx)
      simp [h, this]
  · rw [if_neg (by simpa using c), if_neg c]
    simp [encT]
theorem upD_len (x : D) (v : α) (kvs : List (D × α)) : (upD x v kvs).length ≤ kvs.length + 1 := by
  unfold upD; split <;> simp
theorem lkD_some {x : D} : ∀ {kvs : List (D × α)}, (lkD x kvs).isSome = true ↔ x ∈ kvs.map Prod.fst
  | [] => by simp [lkD]
  | p :: r => by
    have ih := lkD_some (x := x) (kvs := r)
    by_cases h : p.1 = x
    · simp [lkD, h]
    · have h2 : ¬ x = p.1 := fun e => h e.symm
      simp only [lkD, h, if_false, ih, List.map_cons, List.mem_cons, h2, false_or]
theorem upD_fst (x : D) (v : α) (kvs : List (D × α)) : (upD x v kvs).map Prod.fst = if x ∈ kvs.map Prod.fst then kvs.map Prod.fst else kvs.map Prod.fst ++ [x] := by
  unfold upD
  by_cases c : (lkD x kvs).isSome = true
  · rw [if_pos c, if_pos (lkD_some.mp c), List.map_map]
    refine List.map_congr_left fun p _ => ?_
    by_cases h : p.1 = x <;> simp [h]
  · rw [if_neg c, if_neg fun h => c (lkD_some.mpr h)]
    simp
theorem upD_keys {x : D} {v : α} {kvs : List (D × α)} (h : KeysT kvs) (hx : TK x) : KeysT (upD x v kvs) := fun p hp => by
  have : p.1 ∈ (upD x v kvs).map Prod.fst := List.mem_map.mpr ⟨p, hp, rfl⟩
  rw [upD_fst] at this
  have k : ∀ y ∈ kvs.map Prod.fst, TK y := fun y hy => by obtain ⟨q, hq, rfl⟩ := List.mem_map.mp hy; exact h q hq
  split at this
  · exact k _ this
  · rcases List.mem_append.mp this with this | this
    · exact k _ this
    · rw [List.mem_singleton.mp this]; exact hx
end
/-! the unlike ones of a list, the first of each -/
noncomputable def uqS (acc : List D) (a : D) : List D := if a ∈ acc then acc else acc ++ [a]
noncomputable def uq (l : List D) : List D := l.foldl uqS []
theorem uq_mem_acc : ∀ (l acc : List D) (x : D), x ∈ l.foldl uqS acc ↔ x ∈ acc ∨ x ∈ l
  | [], acc, x => by simp
  | a :: l, acc, x => by
    rw [List.foldl_cons, uq_mem_acc l]
    unfold uqS
    by_cases h : a ∈ acc
    · rw [if_pos h]
      constructor
      · rintro (h1 | h1)
        · exact .inl h1
        · exact .inr (List.mem_cons_of_mem _ h1)
      · rintro (h1 | h1)
        · exact .inl h1
        · rcases List.mem_cons.mp h1 with rfl | h1
          · exact .inl h
          · exact .inr h1
    · rw [if_neg h]
      simp only [List.mem_append, List.mem_cons, or_assoc, List.not_mem_nil, false_or]
theorem mem_uq {l : List D} {x : D} : x ∈ uq l ↔ x ∈ l := by unfold uq; rw [uq_mem_acc]; simp
theorem uq_nodup_acc : ∀ (l acc : List D), acc.Nodup → (l.foldl uqS acc).Nodup
  | [], acc, h => h
  | a :: l, acc, h => by
    rw [List.foldl_cons]
    refine uq_nodup_acc l _ ?_
    unfold uqS
    split
    · exact h
    · rename_i c
      rw [List.nodup_append]
      refine ⟨h, by simp, fun x hx y hy e => ?_⟩
      rw [List.mem_singleton.mp hy] at e
      exact c (e ▸ hx)
theorem uq_nodup (l : List D) : (uq l).Nodup := uq_nodup_acc l [] List.nodup_nil
theorem uq_len_acc : ∀ (l acc : List D), (l.foldl uqS acc).length ≤ acc.length + l.length
  | [], acc => by simp
  | a :: l, acc => by
    rw [List.foldl_cons]
    have := uq_len_acc l (uqS acc a)
    have h2 : (uqS acc a).length ≤ acc.length + 1 := by unfold uqS; split <;> simp
    simp only [List.length_cons]; omega
theorem uq_len (l : List D) : (uq l).length ≤ l.length := by have := uq_len_acc l []; simpa [uq] using this
theorem up_uq {kvs : List (D × Bool)} {a : D} : (upD a true kvs).map Prod.fst = uqS (kvs.map Prod.fst) a := by rw [upD_fst]; rfl
theorem hasB_mem {l : List D} {a : D} (ha : Nb a) (hl : ∀ z ∈ l, Nb z) : (l.any fun z => PyData.eqv z a) = decide (a ∈ l) := by
  rw [Bool.eq_iff_iff, List.any_eq_true, decide_eq_true_eq]
  constructor
  · rintro ⟨z, hz, e⟩
    rw [← (eqv_nb (hl z hz) a ha).mp e]; exact hz
  · intro h
    exact ⟨a, h, (eqv_nb ha a ha).mpr rfl⟩
end DV
end
section
set_option Elab.async false
set_option linter.all false
set_option maxRecDepth 100000
set_option maxHeartbeats 0
namespace K61
open PySem PySem.Spec PyProof.Rows L2 DV
def top (i : Nat) : Stmt := PySem.Challenge.pw_markedrows_k61_any_value_as_fold.main.body.getD i (.Pass ⟨0, 0, 0, 0⟩)
abbrev s_u_law_pot : Stmt := top 41
abbrev N_u_law_pot : List Str := ["script", "k", "cell"]
theorem sc_u_law_pot : FnScope N_u_law_pot ["script", "k"] (defScope s_u_law_pot) := ⟨rfl, rfl, rfl, by decide +kernel, rfl, by decide +kernel, by decide +kernel⟩
abbrev s_u_law_draw : Stmt := top 42
abbrev N_u_law_draw : List Str := ["pot", "size", "digit"]
theorem sc_u_law_draw : FnScope N_u_law_draw ["pot", "size"] (defScope s_u_law_draw) := ⟨rfl, rfl, rfl, by decide +kernel, rfl, by decide +kernel, by decide +kernel⟩
abbrev s_u_law_pick : Stmt := top 43
abbrev N_u_law_pick : List Str := ["pot", "some"]
theorem sc_u_law_pick : FnScope N_u_law_pick ["pot", "some"] (defScope s_u_law_pick) := ⟨rfl, rfl, rfl, by decide +kernel, rfl, by decide +kernel, by decide +kernel⟩
abbrev s_u_law_terms : Stmt := top 44
abbrev N_u_law_terms : List Str := ["pot", "many", "names", "values", "place"]
theorem sc_u_law_terms : FnScope N_u_law_terms ["pot", "many", "names", "values"] (defScope s_u_law_terms) := ⟨rfl, rfl, rfl, by decide +kernel, rfl, by decide +kernel, by decide +kernel⟩
abbrev s_u_law_question : Stmt := top 45
abbrev N_u_law_question : List Str := ["pot", "most", "long", "names", "values", "atoms", "turn", "table", "many", "there", "terms", "head", "place", "term"]
theorem sc_u_law_question : FnScope N_u_law_question ["pot", "most", "long"] (defScope s_u_law_question) := ⟨rfl, rfl, rfl, by decide +kernel, rfl, by decide +kernel, by decide +kernel⟩
abbrev s_unlike_ones : Stmt := top 16
abbrev N_unlike_ones : List Str := ["items", "found", "item"]
theorem sc_unlike_ones : FnScope N_unlike_ones ["items"] (defScope s_unlike_ones) := ⟨rfl, rfl, rfl, by decide +kernel, rfl, by decide +kernel, by decide +kernel⟩
abbrev s_is_name : Stmt := top 12
abbrev N_is_name : List Str := ["value", "sign"]
theorem sc_is_name : FnScope N_is_name ["value"] (defScope s_is_name) := ⟨rfl, rfl, rfl, by decide +kernel, rfl, by decide +kernel, by decide +kernel⟩
abbrev s_agreed : Stmt := top 31
abbrev N_agreed : List Str := ["terms", "goal", "led", "found", "term", "other"]
theorem sc_agreed : FnScope N_agreed ["terms", "goal", "led"] (defScope s_agreed) := ⟨rfl, rfl, rfl, by decide +kernel, rfl, by decide +kernel, by decide +kernel⟩
abbrev s_led_into : Stmt := top 32
abbrev N_led_into : List Str := ["atoms", "goals", "led", "table", "terms", "other", "goal", "more", "found"]
theorem sc_led_into : FnScope N_led_into ["atoms", "goals", "led"] (defScope s_led_into) := ⟨rfl, rfl, rfl, by decide +kernel, rfl, by decide +kernel, by decide +kernel⟩
abbrev s_map_into : Stmt := top 33
abbrev N_map_into : List Str := ["question", "goals", "head", "start"]
theorem sc_map_into : FnScope N_map_into ["question", "goals", "head"] (defScope s_map_into) := ⟨rfl, rfl, rfl, by decide +kernel, rfl, by decide +kernel, by decide +kernel⟩
abbrev s_fold_of : Stmt := top 37
abbrev N_fold_of : List Str := ["question", "rows", "row", "found", "atom"]
theorem sc_fold_of : FnScope N_fold_of ["question"] (defScope s_fold_of) := ⟨rfl, rfl, rfl, by decide +kernel, rfl, by decide +kernel, by decide +kernel⟩
abbrev s_is_row : Stmt := top 11
abbrev N_is_row : List Str := ["value", "many"]
theorem sc_is_row : FnScope N_is_row ["value", "many"] (defScope s_is_row) := ⟨rfl, rfl, rfl, by decide +kernel, rfl, by decide +kernel, by decide +kernel⟩
abbrev s_is_word : Stmt := top 13
abbrev N_is_word : List Str := ["value", "sign"]
theorem sc_is_word : FnScope N_is_word ["value"] (defScope s_is_word) := ⟨rfl, rfl, rfl, by decide +kernel, rfl, by decide +kernel, by decide +kernel⟩
abbrev s_is_integer : Stmt := top 10
abbrev N_is_integer : List Str := ["value"]
theorem sc_is_integer : FnScope N_is_integer ["value"] (defScope s_is_integer) := ⟨rfl, rfl, rfl, by decide +kernel, rfl, by decide +kernel, by decide +kernel⟩
abbrev s_is_value : Stmt := top 14
abbrev N_is_value : List Str := ["value"]
theorem sc_is_value : FnScope N_is_value ["value"] (defScope s_is_value) := ⟨rfl, rfl, rfl, by decide +kernel, rfl, by decide +kernel, by decide +kernel⟩
abbrev s_is_term : Stmt := top 15
abbrev N_is_term : List Str := ["value"]
theorem sc_is_term : FnScope N_is_term ["value"] (defScope s_is_term) := ⟨rfl, rfl, rfl, by decide +kernel, rfl, by decide +kernel, by decide +kernel⟩
abbrev s_is_terms : Stmt := top 22
abbrev N_is_terms : List Str := ["value", "least", "most", "term"]
theorem sc_is_terms : FnScope N_is_terms ["value", "least", "most"] (defScope s_is_terms) := ⟨rfl, rfl, rfl, by decide +kernel, rfl, by decide +kernel, by decide +kernel⟩
abbrev s_is_atom : Stmt := top 23
abbrev N_is_atom : List Str := ["value"]
theorem sc_is_atom : FnScope N_is_atom ["value"] (defScope s_is_atom) := ⟨rfl, rfl, rfl, by decide +kernel, rfl, by decide +kernel, by decide +kernel⟩
abbrev s_names_in : Stmt := top 25
abbrev N_names_in : List Str := ["atoms", "found", "table", "terms", "term"]
theorem sc_names_in : FnScope N_names_in ["atoms"] (defScope s_names_in) := ⟨rfl, rfl, rfl, by decide +kernel, rfl, by decide +kernel, by decide +kernel⟩
abbrev s_unlike_table : Stmt := top 24
abbrev N_unlike_table : List Str := ["atoms", "many", "found", "table", "terms"]
theorem sc_unlike_table : FnScope N_unlike_table ["atoms"] (defScope s_unlike_table) := ⟨rfl, rfl, rfl, by decide +kernel, rfl, by decide +kernel, by decide +kernel⟩
abbrev s_is_question_of : Stmt := top 26
abbrev N_is_question_of : List Str := ["value", "names", "atom", "term"]
theorem sc_is_question_of : FnScope N_is_question_of ["value"] (defScope s_is_question_of) := ⟨rfl, rfl, rfl, by decide +kernel, rfl, by decide +kernel, by decide +kernel⟩
abbrev s_want_question : Stmt := top 29
abbrev N_want_question : List Str := ["value"]
theorem sc_want_question : FnScope N_want_question ["value"] (defScope s_want_question) := ⟨rfl, rfl, rfl, by decide +kernel, rfl, by decide +kernel, by decide +kernel⟩
abbrev s_told_map : Stmt := top 34
abbrev N_told_map : List Str := ["led"]
theorem sc_told_map : FnScope N_told_map ["led"] (defScope s_told_map) := ⟨rfl, rfl, rfl, by decide +kernel, rfl, by decide +kernel, by decide +kernel⟩
abbrev s_fold : Stmt := top 38
abbrev N_fold : List Str := ["question", "found"]
theorem sc_fold : FnScope N_fold ["question"] (defScope s_fold) := ⟨rfl, rfl, rfl, by decide +kernel, rfl, by decide +kernel, by decide +kernel⟩
abbrev s_u_law_is_name : Stmt := top 46
abbrev N_u_law_is_name : List Str := ["term"]
theorem sc_u_law_is_name : FnScope N_u_law_is_name ["term"] (defScope s_u_law_is_name) := ⟨rfl, rfl, rfl, by decide +kernel, rfl, by decide +kernel, by decide +kernel⟩
abbrev s_u_law_fits : Stmt := top 49
abbrev N_u_law_fits : List Str := ["terms", "goal", "led", "found", "term", "other"]
theorem sc_u_law_fits : FnScope N_u_law_fits ["terms", "goal", "led"] (defScope s_u_law_fits) := ⟨rfl, rfl, rfl, by decide +kernel, rfl, by decide +kernel, by decide +kernel⟩
abbrev s_u_law_maps : Stmt := top 50
abbrev N_u_law_maps : List Str := ["question", "goals", "head", "start", "found", "table", "terms", "late", "led", "other", "goal", "more"]
theorem sc_u_law_maps : FnScope N_u_law_maps ["question", "goals", "head"] (defScope s_u_law_maps) := ⟨rfl, rfl, rfl, by decide +kernel, rfl, by decide +kernel, by decide +kernel⟩
abbrev s_u_law_unlike : Stmt := top 52
abbrev N_u_law_unlike : List Str := ["items", "found", "item"]
theorem sc_u_law_unlike : FnScope N_u_law_unlike ["items"] (defScope s_u_law_unlike) := ⟨rfl, rfl, rfl, by decide +kernel, rfl, by decide +kernel, by decide +kernel⟩
abbrev s_u_law_names : Stmt := top 47
abbrev N_u_law_names : List Str := ["question", "found", "table", "terms", "term"]
theorem sc_u_law_names : FnScope N_u_law_names ["question"] (defScope s_u_law_names) := ⟨rfl, rfl, rfl, by decide +kernel, rfl, by decide +kernel, by decide +kernel⟩
abbrev s_u_law_told_map : Stmt := top 53
abbrev N_u_law_told_map : List Str := ["question", "led", "name"]
theorem sc_u_law_told_map : FnScope N_u_law_told_map ["question", "led"] (defScope s_u_law_told_map) := ⟨rfl, rfl, rfl, by decide +kernel, rfl, by decide +kernel, by decide +kernel⟩
abbrev s_u_law_bent : Stmt := top 56
abbrev N_u_law_bent : List Str := ["pot", "value", "found", "at", "name", "term", "rows", "one", "row"]
theorem sc_u_law_bent : FnScope N_u_law_bent ["pot", "value"] (defScope s_u_law_bent) := ⟨rfl, rfl, rfl, by decide +kernel, rfl, by decide +kernel, by decide +kernel⟩
abbrev s_u_law_led : Stmt := top 48
abbrev N_u_law_led : List Str := ["terms", "led", "term"]
theorem sc_u_law_led : FnScope N_u_law_led ["terms", "led"] (defScope s_u_law_led) := ⟨rfl, rfl, rfl, by decide +kernel, rfl, by decide +kernel, by decide +kernel⟩
abbrev s_u_law_atoms : Stmt := top 51
abbrev N_u_law_atoms : List Str := ["question", "led", "table", "terms"]
theorem sc_u_law_atoms : FnScope N_u_law_atoms ["question", "led"] (defScope s_u_law_atoms) := ⟨rfl, rfl, rfl, by decide +kernel, rfl, by decide +kernel, by decide +kernel⟩
abbrev s_u_law_map_of : Stmt := top 54
abbrev N_u_law_map_of : List Str := ["question", "goals", "head", "value", "names", "led", "there", "atom", "name", "row"]
theorem sc_u_law_map_of : FnScope N_u_law_map_of ["question", "goals", "head", "value"] (defScope s_u_law_map_of) := ⟨rfl, rfl, rfl, by decide +kernel, rfl, by decide +kernel, by decide +kernel⟩
abbrev s_u_law_is_fold : Stmt := top 55
abbrev N_u_law_is_fold : List Str := ["question", "value", "led", "atom"]
theorem sc_u_law_is_fold : FnScope N_u_law_is_fold ["question", "value"] (defScope s_u_law_is_fold) := ⟨rfl, rfl, rfl, by decide +kernel, rfl, by decide +kernel, by decide +kernel⟩
abbrev s_map_dict : Stmt := top 35
abbrev N_map_dict : List Str := ["question", "value", "names", "row"]
theorem sc_map_dict : FnScope N_map_dict ["question", "value"] (defScope s_map_dict) := ⟨rfl, rfl, rfl, by decide +kernel, rfl, by decide +kernel, by decide +kernel⟩
abbrev s_led_terms : Stmt := top 27
abbrev N_led_terms : List Str := ["terms", "led", "term"]
theorem sc_led_terms : FnScope N_led_terms ["terms", "led"] (defScope s_led_terms) := ⟨rfl, rfl, rfl, by decide +kernel, rfl, by decide +kernel, by decide +kernel⟩
abbrev s_led_atoms : Stmt := top 28
abbrev N_led_atoms : List Str := ["question", "led", "table", "terms"]
theorem sc_led_atoms : FnScope N_led_atoms ["question", "led"] (defScope s_led_atoms) := ⟨rfl, rfl, rfl, by decide +kernel, rfl, by decide +kernel, by decide +kernel⟩
abbrev s_leads_to : Stmt := top 36
abbrev N_leads_to : List Str := ["question", "led", "goals", "head", "atom"]
theorem sc_leads_to : FnScope N_leads_to ["question", "led", "goals", "head"] (defScope s_leads_to) := ⟨rfl, rfl, rfl, by decide +kernel, rfl, by decide +kernel, by decide +kernel⟩
abbrev s_is_fold : Stmt := top 39
abbrev N_is_fold : List Str := ["question", "value", "led", "used", "atom"]
theorem sc_is_fold : FnScope N_is_fold ["question", "value"] (defScope s_is_fold) := ⟨rfl, rfl, rfl, by decide +kernel, rfl, by decide +kernel, by decide +kernel⟩
abbrev s_law : Stmt := top 57
abbrev N_law : List Str := ["script", "pot", "turn", "question", "told", "own", "value", "due", "led"]
theorem sc_law : FnScope N_law ["script"] (defScope s_law) := ⟨rfl, rfl, rfl, by decide +kernel, rfl, by decide +kernel, by decide +kernel⟩
/-! what they do -/
def B_u_law_pot : M Fl :=
    (seqM (setM 2 (iteM (tstM (op2 ltG (slM 1) (opN (g1 lenG) (consM (slM 0) (ret []))))) (opN (g1 absG) (consM (op2 ixG (slM 0) (slM 1)) (ret []))) (op2 addG (op2 mulG (fzM (.int 13309)) (slM 1)) (fzM (.int 14107)))))
    (retM (lstM (consF (opN (g2 maxG) (consM (fzM (.int 0)) (consM (op2 subG (slM 2) (op2 (intG powF) (fzM (.int 10)) (fzM (.int 18)))) (ret [])))) (consF (op2 addG (op2 (intG modF) (opN (g1 int1G) (consM (op2 addG (op2 addG (op2 mulG (op2 (intG modF) (opN (g1 int1G) (consM (slM 2) (ret []))) (fzM (.int 2147483549))) (fzM (.int 12809))) (op2 mulG (fzM (.int 13217)) (slM 1))) (fzM (.int 907))) (ret []))) (fzM (.int 2147483563))) (fzM (.int 1))) (ret []))))))
def F_u_law_pot : Fn := fnOf 2 3 B_u_law_pot
theorem ar_u_law_pot : Arity F_u_law_pot 2 := Arity.of _ _ _
def B_u_law_draw : M Fl :=
    (seqM (iteM (tstM (op2 gtG (op2 ixG (slM 0) (fzM (.int 0))) (fzM (.int 0)))) (seqM (drwM 0 2 (opN (g2 divmodG) (consM (op2 ixG (slM 0) (fzM (.int 0))) (consM (slM 1) (ret [])))))
    (retM (slM 2))) (ret .nx))
    (seqM (stcM 0 1 (op2 (intG modF) (opN (g1 int1G) (consM (op2 addG (op2 mulG (op2 ixG (slM 0) (fzM (.int 1))) (fzM (.int 40692))) (fzM (.int 13217))) (ret []))) (fzM (.int 2147483399))))
    (retM (op2 (intG modF) (opN (g1 int1G) (consM (op2 (intG fdivF) (op2 (intG modF) (opN (g1 int1G) (consM (op2 mulG (op2 ixG (slM 0) (fzM (.int 1))) (op2 ixG (slM 0) (fzM (.int 1)))) (ret []))) (fzM (.int 2147483323))) (fzM (.int 19))) (ret []))) (slM 1)))))
def F_u_law_draw : Fn := fnOf 2 3 B_u_law_draw
theorem ar_u_law_draw : Arity F_u_law_draw 2 := Arity.of _ _ _
def B_u_law_pick : M Fl :=
    (retM (op2 ixG (slM 1) (callM F_u_law_draw (consM (slM 0) (consM (opN (g1 lenG) (consM (slM 1) (ret []))) (ret []))))))
def F_u_law_pick : Fn := fnOf 2 2 B_u_law_pick
theorem ar_u_law_pick : Arity F_u_law_pick 2 := Arity.of _ _ _
def C_u_law_terms_1 : M Rs :=
    (iteM (orM (tstM (op2 gtG (callM F_u_law_draw (consM (slM 0) (consM (fzM (.int 6)) (ret [])))) (fzM (.int 0)))) (tstM (op2 eqG (slM 3) (lstM (ret []))))) (callM F_u_law_pick (consM (slM 0) (consM (slM 2) (ret [])))) (callM F_u_law_pick (consM (slM 0) (consM (slM 3) (ret [])))))
def B_u_law_terms : M Fl :=
    (retM (opN (g1 tupleG) (consM (lcM [4] (rng1M (consM (slM 1) (ret []))) (tgN 4) (ret true) C_u_law_terms_1) (ret []))))
def F_u_law_terms : Fn := fnOf 4 5 B_u_law_terms
theorem ar_u_law_terms : Arity F_u_law_terms 4 := Arity.of _ _ _
def L_u_law_question_1b : M Fl :=
    (seqM (asgM (callM F_u_law_pick (consM (slM 0) (consM (lstM (consF (tupM (consF (fzM (.str "R")) (consF (fzM (.int 2)) (ret [])))) (consF (tupM (consF (fzM (.str "R")) (consF (fzM (.int 2)) (ret [])))) (consF (tupM (consF (fzM (.str "S")) (consF (fzM (.int 1)) (ret [])))) (consF (tupM (consF (fzM (.str "T")) (consF (fzM (.int 3)) (ret [])))) (ret [])))))) (ret [])))) (tgT 2 (tgCons (tgN 7) (tgCons (tgN 8) tgNil))))
    (drpM (mtM "list" 5 appG (consF (iteM (andM (tstM (op2 neG (slM 5) (lstM (ret [])))) (tstM (op2 eqG (callM F_u_law_draw (consM (slM 0) (consM (fzM (.int 9)) (ret [])))) (fzM (.int 0))))) (callM F_u_law_pick (consM (slM 0) (consM (slM 5) (ret [])))) (tupM (consF (slM 7) (consF (callM F_u_law_terms (consM (slM 0) (consM (slM 8) (consM (slM 3) (consM (slM 4) (ret [])))))) (ret []))))) (ret [])))))
def L_u_law_question_1 : M Fl :=
    (kilM [6, 7, 8] L_u_law_question_1b)
def C_u_law_question_1 : M Rs :=
    (slM 13)
def L_u_law_question_2b : M Fl :=
    (drpM (extM 9 (lcM [13] (seqS (slM 10)) (tgN 13) (tstM (op2 inG (slM 13) (slM 3))) C_u_law_question_1)))
def L_u_law_question_2 : M Fl :=
    (kilM [7, 10] L_u_law_question_2b)
def C_u_law_question_2 : M Rs :=
    (iteM (andM (tstM (op2 neG (slM 9) (lstM (ret [])))) (tstM (op2 gtG (callM F_u_law_draw (consM (slM 0) (consM (fzM (.int 7)) (ret [])))) (fzM (.int 0))))) (callM F_u_law_pick (consM (slM 0) (consM (slM 9) (ret [])))) (callM F_u_law_pick (consM (slM 0) (consM (slM 4) (ret [])))))
def B_u_law_question : M Fl :=
    (seqM (parM 3 4 (slcM2 (lstM (consF (fzM (.str "x")) (consF (fzM (.str "y")) (consF (fzM (.str "z")) (consF (fzM (.str "u")) (ret [])))))) (ret none) (partM (op2 addG (fzM (.int 2)) (callM F_u_law_draw (consM (slM 0) (consM (fzM (.int 3)) (ret []))))))) (lstM (consF (fzM (.int 1)) (consF (fzM (.int 2)) (consF (fzM (.str "Red")) (ret []))))))
    (seqM (setM 5 (lstM (ret [])))
    (seqM (forS (rng1M (consM (op2 addG (fzM (.int 1)) (callM F_u_law_draw (consM (slM 0) (consM (slM 1) (ret []))))) (ret []))) (tgN 6) L_u_law_question_1)
    (seqM (setM 9 (lstM (ret [])))
    (seqM (forS (seqS (slM 5)) (tgT 2 (tgCons (tgN 7) (tgCons (tgN 10) tgNil))) L_u_law_question_2)
    (seqM (setM 9 (op1 ssetG (slM 9)))
    (seqM (setM 11 (opN (g1 tupleG) (consM (lcM [12] (rng1M (consM (slM 2) (ret []))) (tgN 12) (ret true) C_u_law_question_2) (ret []))))
    (retM (tupM (consF (fzM (.str "ask")) (consF (slM 11) (consF (opN (g1 tupleG) (consM (slM 5) (ret []))) (ret [])))))))))))))
def F_u_law_question : Fn := fnOf 3 14 B_u_law_question
theorem ar_u_law_question : Arity F_u_law_question 3 := Arity.of _ _ _
def L_unlike_ones_1b : M Fl :=
    (putM 1 (slM 2) (fzM (.bool true)))
def L_unlike_ones_1 : M Fl :=
    (kilM [2] L_unlike_ones_1b)
def B_unlike_ones : M Fl :=
    (seqM (setM 1 (ret (.fr (.dict []))))
    (seqM (forS (seqS (slM 0)) (tgN 2) L_unlike_ones_1)
    (retM (opN (g1 listA) (consM (slM 1) (ret []))))))
def F_unlike_ones : Fn := fnOf 1 3 B_unlike_ones
theorem ar_unlike_ones : Arity F_unlike_ones 1 := Arity.of _ _ _
def C_is_name_1 : M Rs :=
    (op2 inG (slM 1) (fzM (.str "abcdefghijklmnopqrstuvwxyz")))
def B_is_name : M Fl :=
    (seqM (iteM (orM (notM (tstM (op1 (isiG "str") (slM 0)))) (notM (tstM (chnM leG leG (fzM (.int 1)) (opN (g1 lenG) (consM (slM 0) (ret []))) (fzM (.int 8)))))) (retM (fzM (.bool false))) (ret .nx))
    (retM (opN (g1 allG) (consM (lcM [1] (seqS (slM 0)) (tgN 1) (ret true) C_is_name_1) (ret [])))))
def F_is_name : Fn := fnOf 1 2 B_is_name
theorem ar_is_name : Arity F_is_name 1 := Arity.of _ _ _
def L_agreed_1b : M Fl :=
    (iteM (notM (tstM (callM F_is_name (consM (slM 4) (ret []))))) (iteM (orM (tstM (callM F_is_name (consM (slM 5) (ret [])))) (tstM (op2 neG (slM 4) (slM 5)))) (retM (fzM .none)) (ret .nx)) (iteM (tstM (op2 neG (mtM "dict" 3 sdG (consF (slM 4) (consF (slM 5) (ret [])))) (slM 5))) (retM (fzM .none)) (ret .nx)))
def L_agreed_1 : M Fl :=
    (kilM [4, 5] L_agreed_1b)
def B_agreed : M Fl :=
    (seqM (setM 3 (opN (g1 dictG) (consM (slM 2) (ret []))))
    (seqM (forS (zipS (consF (slM 0) (consF (slM 1) (ret [])))) (tgT 2 (tgCons (tgN 4) (tgCons (tgN 5) tgNil))) L_agreed_1)
    (retM (slM 3))))
def F_agreed : Fn := fnOf 3 6 B_agreed
theorem ar_agreed : Arity F_agreed 3 := Arity.of _ _ _
def L_led_into_1b (F : Fn) : M Fl :=
    (iteM (tstM (op2 eqG (slM 5) (slM 3))) (seqM (setM 7 (callM F_agreed (consM (slM 4) (consM (slM 6) (consM (slM 2) (ret []))))))
    (seqM (setM 8 (iteM (tstM (op2 isntG (slM 7) (fzM .none))) (callM F (consM (slcM2 (slM 0) (partM (fzM (.int 1))) (ret none)) (consM (slM 1) (consM (gvM (slM 7)) (ret []))))) (fzM .none)))
    (iteM (tstM (op2 isntG (slM 8) (fzM .none))) (retM (slM 8)) (ret .nx)))) (ret .nx))
def L_led_into_1 (F : Fn) : M Fl :=
    (kilM [5, 6, 7, 8] (L_led_into_1b F))
def B_led_into (F : Fn) : M Fl :=
    (seqM (iteM (tstM (op2 eqG (slM 0) (lstM (ret [])))) (retM (slM 2)) (ret .nx))
    (seqM (asgM (op2 ixG (slM 0) (fzM (.int 0))) (tgT 2 (tgCons (tgN 3) (tgCons (tgN 4) tgNil))))
    (seqM (forS (seqS (slM 1)) (tgT 2 (tgCons (tgN 5) (tgCons (tgN 6) tgNil))) (L_led_into_1 F))
    (retM (fzM .none)))))
def F_led_into_ : Nat → Fn
  | 0 => fun _ _ => none
  | n + 1 => fnOf 3 9 (B_led_into (F_led_into_ n))
abbrev F_led_into : Fn := F_led_into_ 12
theorem ar_led_into_ : ∀ n, Arity (F_led_into_ n) 3
  | 0 => Arity.no 3
  | n + 1 => Arity.of _ _ _
theorem ar_led_into : Arity F_led_into 3 := ar_led_into_ 12
def B_map_into : M Fl :=
    (seqM (setM 3 (callM F_agreed (consM (op2 ixG (slM 0) (fzM (.int 1))) (consM (slM 2) (consM (ret (.fr (.dict []))) (ret []))))))
    (retM (iteM (tstM (op2 isG (slM 3) (fzM .none))) (fzM .none) (callM F_led_into (consM (opN (g1 listA) (consM (op2 ixG (slM 0) (fzM (.int 2))) (ret []))) (consM (slM 1) (consM (gvM (slM 3)) (ret []))))))))
def F_map_into : Fn := fnOf 3 4 B_map_into
theorem ar_map_into : Arity F_map_into 3 := Arity.of _ _ _
def C_fold_of_1 : M Rs :=
    (slM 4)
def L_fold_of_1b : M Fl :=
    (seqM (setM 3 (callM F_map_into (consM (slM 0) (consM (lcM [4] (seqS (slM 1)) (tgN 4) (tstM (op2 neG (slM 4) (slM 2))) C_fold_of_1) (consM (op2 ixG (slM 0) (fzM (.int 1))) (ret []))))))
    (iteM (tstM (op2 isntG (slM 3) (fzM .none))) (retM (slM 3)) (ret .nx)))
def L_fold_of_1 : M Fl :=
    (kilM [2, 3] L_fold_of_1b)
def B_fold_of : M Fl :=
    (seqM (setM 1 (callM F_unlike_ones (consM (op2 ixG (slM 0) (fzM (.int 2))) (ret []))))
    (seqM (forS (seqS (slM 1)) (tgN 2) L_fold_of_1)
    (retM (fzM .none))))
def F_fold_of : Fn := fnOf 1 5 B_fold_of
theorem ar_fold_of : Arity F_fold_of 1 := Arity.of _ _ _
def B_is_row : M Fl :=
    (retM (andV (op1 (isiG "tuple") (slM 0)) (op2 eqG (opN (g1 lenG) (consM (slM 0) (ret []))) (slM 1))))
def F_is_row : Fn := fnOf 2 2 B_is_row
theorem ar_is_row : Arity F_is_row 2 := Arity.of _ _ _
def C_is_word_1 : M Rs :=
    (orV (op2 inG (slM 1) (fzM (.str "abcdefghijklmnopqrstuvwxyz"))) (orV (op2 inG (slM 1) (fzM (.str "ABCDEFGHIJKLMNOPQRSTUVWXYZ"))) (op2 inG (slM 1) (fzM (.str "0123456789")))))
def B_is_word : M Fl :=
    (seqM (iteM (orM (notM (tstM (op1 (isiG "str") (slM 0)))) (orM (notM (tstM (chnM leG leG (fzM (.int 1)) (opN (g1 lenG) (consM (slM 0) (ret []))) (fzM (.int 12))))) (tstM (op2 notInG (op2 ixG (slM 0) (fzM (.int 0))) (fzM (.str "ABCDEFGHIJKLMNOPQRSTUVWXYZ")))))) (retM (fzM (.bool false))) (ret .nx))
    (retM (opN (g1 allG) (consM (lcM [1] (seqS (slM 0)) (tgN 1) (ret true) C_is_word_1) (ret [])))))
def F_is_word : Fn := fnOf 1 2 B_is_word
theorem ar_is_word : Arity F_is_word 1 := Arity.of _ _ _
def B_is_integer : M Fl :=
    (retM (andV (op1 (isiG "int") (slM 0)) (blM (notM (tstM (op1 (isiG "bool") (slM 0)))))))
def F_is_integer : Fn := fnOf 1 1 B_is_integer
theorem ar_is_integer : Arity F_is_integer 1 := Arity.of _ _ _
def B_is_value : M Fl :=
    (retM (orV (callM F_is_word (consM (slM 0) (ret []))) (andV (callM F_is_integer (consM (slM 0) (ret []))) (op2 ltG (opN (g1 absG) (consM (slM 0) (ret []))) (fzM (.int 1000000000))))))
def F_is_value : Fn := fnOf 1 1 B_is_value
theorem ar_is_value : Arity F_is_value 1 := Arity.of _ _ _
def B_is_term : M Fl :=
    (retM (orV (callM F_is_name (consM (slM 0) (ret []))) (callM F_is_value (consM (slM 0) (ret [])))))
def F_is_term : Fn := fnOf 1 1 B_is_term
theorem ar_is_term : Arity F_is_term 1 := Arity.of _ _ _
def C_is_terms_1 : M Rs :=
    (callM F_is_term (consM (slM 3) (ret [])))
def B_is_terms : M Fl :=
    (retM (andV (op1 (isiG "tuple") (slM 0)) (andV (chnM leG leG (slM 1) (opN (g1 lenG) (consM (slM 0) (ret []))) (slM 2)) (opN (g1 allG) (consM (lcM [3] (seqS (slM 0)) (tgN 3) (ret true) C_is_terms_1) (ret []))))))
def F_is_terms : Fn := fnOf 3 4 B_is_terms
theorem ar_is_terms : Arity F_is_terms 3 := Arity.of _ _ _
def B_is_atom : M Fl :=
    (retM (andV (callM F_is_row (consM (slM 0) (consM (fzM (.int 2)) (ret [])))) (andV (callM F_is_word (consM (op2 ixG (slM 0) (fzM (.int 0))) (ret []))) (callM F_is_terms (consM (op2 ixG (slM 0) (fzM (.int 1))) (consM (fzM (.int 1)) (consM (fzM (.int 4)) (ret []))))))))
def F_is_atom : Fn := fnOf 1 1 B_is_atom
theorem ar_is_atom : Arity F_is_atom 1 := Arity.of _ _ _
def C_names_in_1 : M Rs :=
    (slM 4)
def L_names_in_1b : M Fl :=
    (drpM (extM 1 (lcM [4] (seqS (slM 3)) (tgN 4) (tstM (callM F_is_name (consM (slM 4) (ret [])))) C_names_in_1)))
def L_names_in_1 : M Fl :=
    (kilM [2, 3] L_names_in_1b)
def B_names_in : M Fl :=
    (seqM (setM 1 (lstM (ret [])))
    (seqM (forS (seqS (slM 0)) (tgT 2 (tgCons (tgN 2) (tgCons (tgN 3) tgNil))) L_names_in_1)
    (retM (op1 ssetG (slM 1)))))
def F_names_in : Fn := fnOf 1 5 B_names_in
theorem ar_names_in : Arity F_names_in 1 := Arity.of _ _ _
def L_unlike_table_1b : M Fl :=
    (iteM (tstM (op2 neG (mtM "dict" 1 sdG (consF (slM 3) (consF (opN (g1 lenG) (consM (slM 4) (ret []))) (ret [])))) (opN (g1 lenG) (consM (slM 4) (ret []))))) (drpM (mtM "list" 2 appG (consF (slM 3) (ret [])))) (ret .nx))
def L_unlike_table_1 : M Fl :=
    (kilM [3, 4] L_unlike_table_1b)
def B_unlike_table : M Fl :=
    (seqM (parM 1 2 (ret (.fr (.dict []))) (lstM (ret [])))
    (seqM (forS (seqS (slM 0)) (tgT 2 (tgCons (tgN 3) (tgCons (tgN 4) tgNil))) L_unlike_table_1)
    (retM (iteM (tstM (op2 neG (slM 2) (lstM (ret [])))) (opN (g1 minG) (consM (slM 2) (ret []))) (fzM .none)))))
def F_unlike_table : Fn := fnOf 1 5 B_unlike_table
theorem ar_unlike_table : Arity F_unlike_table 1 := Arity.of _ _ _
def C_is_question_of_1 : M Rs :=
    (callM F_is_atom (consM (slM 2) (ret [])))
def C_is_question_of_2 : M Rs :=
    (op2 inG (slM 3) (slM 1))
def B_is_question_of : M Fl :=
    (seqM (iteM (orM (notM (tstM (callM F_is_row (consM (slM 0) (consM (fzM (.int 3)) (ret [])))))) (orM (tstM (op2 neG (op2 ixG (slM 0) (fzM (.int 0))) (fzM (.str "ask")))) (notM (tstM (callM F_is_terms (consM (op2 ixG (slM 0) (fzM (.int 1))) (consM (fzM (.int 0)) (consM (fzM (.int 4)) (ret []))))))))) (retM (fzM (.bool false))) (ret .nx))
    (seqM (iteM (orM (notM (tstM (op1 (isiG "tuple") (op2 ixG (slM 0) (fzM (.int 2)))))) (notM (tstM (chnM leG leG (fzM (.int 1)) (opN (g1 lenG) (consM (op2 ixG (slM 0) (fzM (.int 2))) (ret []))) (fzM (.int 6)))))) (retM (fzM (.bool false))) (ret .nx))
    (seqM (iteM (notM (tstM (opN (g1 allG) (consM (lcM [2] (seqS (op2 ixG (slM 0) (fzM (.int 2)))) (tgN 2) (ret true) C_is_question_of_1) (ret []))))) (retM (fzM (.bool false))) (ret .nx))
    (seqM (setM 1 (callM F_names_in (consM (op2 ixG (slM 0) (fzM (.int 2))) (ret []))))
    (retM (andV (op2 isG (callM F_unlike_table (consM (op2 ixG (slM 0) (fzM (.int 2))) (ret []))) (fzM .none)) (opN (g1 allG) (consM (lcM [3] (seqS (op2 ixG (slM 0) (fzM (.int 1)))) (tgN 3) (tstM (callM F_is_name (consM (slM 3) (ret [])))) C_is_question_of_2) (ret [])))))))))
def F_is_question_of : Fn := fnOf 1 4 B_is_question_of
theorem ar_is_question_of : Arity F_is_question_of 1 := Arity.of _ _ _
def B_want_question : M Fl :=
    (seqM (iteM (notM (tstM (callM F_is_question_of (consM (slM 0) (ret []))))) noM (ret .nx))
    (retM (slM 0)))
def F_want_question : Fn := fnOf 1 1 B_want_question
theorem ar_want_question : Arity F_want_question 1 := Arity.of _ _ _
def B_told_map : M Fl :=
    (retM (opN (g1 tupleG) (consM (op1 sitG (slM 0)) (ret []))))
def F_told_map : Fn := fnOf 1 1 B_told_map
theorem ar_told_map : Arity F_told_map 1 := Arity.of _ _ _
def B_fold : M Fl :=
    (seqM (setM 1 (callM F_fold_of (consM (callM F_want_question (consM (gvM (slM 0)) (ret []))) (ret []))))
    (retM (iteM (tstM (op2 isG (slM 1) (fzM .none))) (fzM .none) (callM F_told_map (consM (slM 1) (ret []))))))
def F_fold : Fn := fnOf 1 2 B_fold
theorem ar_fold : Arity F_fold 1 := Arity.of _ _ _
def B_u_law_is_name : M Fl :=
    (retM (andV (op1 (isiG "str") (slM 0)) (op2 inG (op2 ixG (slM 0) (fzM (.int 0))) (fzM (.str "abcdefghijklmnopqrstuvwxyz")))))
def F_u_law_is_name : Fn := fnOf 1 1 B_u_law_is_name
theorem ar_u_law_is_name : Arity F_u_law_is_name 1 := Arity.of _ _ _
def L_u_law_fits_1b : M Fl :=
    (iteM (notM (tstM (callM F_u_law_is_name (consM (slM 4) (ret []))))) (iteM (tstM (op2 neG (opN (g1 reprA) (consM (slM 4) (ret []))) (opN (g1 reprA) (consM (slM 5) (ret []))))) (retM (fzM .none)) (ret .nx)) (iteM (tstM (op2 neG (opN (g1 reprA) (consM (getM (slM 3) (consF (slM 4) (consF (slM 5) (ret [])))) (ret []))) (opN (g1 reprA) (consM (slM 5) (ret []))))) (retM (fzM .none)) (putM 3 (slM 4) (slM 5))))
def L_u_law_fits_1 : M Fl :=
    (kilM [4, 5] L_u_law_fits_1b)
def B_u_law_fits : M Fl :=
    (seqM (setM 3 (opN (g1 dictG) (consM (slM 2) (ret []))))
    (seqM (forS (zipS (consF (slM 0) (consF (slM 1) (ret [])))) (tgT 2 (tgCons (tgN 4) (tgCons (tgN 5) tgNil))) L_u_law_fits_1)
    (retM (slM 3))))
def F_u_law_fits : Fn := fnOf 3 6 B_u_law_fits
theorem ar_u_law_fits : Arity F_u_law_fits 3 := Arity.of _ _ _
def L_u_law_maps_1b : M Fl :=
    (seqM (setM 11 (iteM (tstM (op2 eqG (slM 9) (slM 5))) (callM F_u_law_fits (consM (slM 6) (consM (slM 10) (consM (slM 8) (ret []))))) (fzM .none)))
    (iteM (andM (tstM (op2 isntG (slM 11) (fzM .none))) (tstM (op2 (hasDG true) (slM 11) (slM 7)))) (drpM (mtM "list" 7 appG (consF (slM 11) (ret [])))) (ret .nx)))
def L_u_law_maps_1 : M Fl :=
    (kilM [9, 10, 11] L_u_law_maps_1b)
def L_u_law_maps_2b : M Fl :=
    (forS (seqS (slM 1)) (tgT 2 (tgCons (tgN 9) (tgCons (tgN 10) tgNil))) L_u_law_maps_1)
def L_u_law_maps_2 : M Fl :=
    (kilM [8, 9, 10, 11] L_u_law_maps_2b)
def L_u_law_maps_3b : M Fl :=
    (seqM (setM 7 (lstM (ret [])))
    (seqM (forS (seqS (slM 4)) (tgN 8) L_u_law_maps_2)
    (setM 4 (slM 7))))
def L_u_law_maps_3 : M Fl :=
    (kilM [5, 6, 7, 8, 9, 10, 11] L_u_law_maps_3b)
def B_u_law_maps : M Fl :=
    (seqM (setM 3 (callM F_u_law_fits (consM (op2 ixG (slM 0) (fzM (.int 1))) (consM (slM 2) (consM (ret (.fr (.dict []))) (ret []))))))
    (seqM (setM 4 (iteM (tstM (op2 isG (slM 3) (fzM .none))) (lstM (ret [])) (lstM (consF (slM 3) (ret [])))))
    (seqM (forS (seqS (op2 ixG (slM 0) (fzM (.int 2)))) (tgT 2 (tgCons (tgN 5) (tgCons (tgN 6) tgNil))) L_u_law_maps_3)
    (retM (slM 4)))))
def F_u_law_maps : Fn := fnOf 3 12 B_u_law_maps
theorem ar_u_law_maps : Arity F_u_law_maps 3 := Arity.of _ _ _
def L_u_law_unlike_1b : M Fl :=
    (iteM (tstM (op2 notInG (slM 2) (slM 1))) (drpM (mtM "list" 1 appG (consF (slM 2) (ret [])))) (ret .nx))
def L_u_law_unlike_1 : M Fl :=
    (kilM [2] L_u_law_unlike_1b)
def B_u_law_unlike : M Fl :=
    (seqM (setM 1 (lstM (ret [])))
    (seqM (forS (seqS (slM 0)) (tgN 2) L_u_law_unlike_1)
    (retM (slM 1))))
def F_u_law_unlike : Fn := fnOf 1 3 B_u_law_unlike
theorem ar_u_law_unlike : Arity F_u_law_unlike 1 := Arity.of _ _ _
def C_u_law_names_1 : M Rs :=
    (slM 4)
def L_u_law_names_1b : M Fl :=
    (drpM (extM 1 (lcM [4] (seqS (slM 3)) (tgN 4) (tstM (callM F_u_law_is_name (consM (slM 4) (ret [])))) C_u_law_names_1)))
def L_u_law_names_1 : M Fl :=
    (kilM [2, 3] L_u_law_names_1b)
def B_u_law_names : M Fl :=
    (seqM (setM 1 (lstM (ret [])))
    (seqM (forS (seqS (op2 ixG (slM 0) (fzM (.int 2)))) (tgT 2 (tgCons (tgN 2) (tgCons (tgN 3) tgNil))) L_u_law_names_1)
    (retM (op1 ssetG (slM 1)))))
def F_u_law_names : Fn := fnOf 1 5 B_u_law_names
theorem ar_u_law_names : Arity F_u_law_names 1 := Arity.of _ _ _
def C_u_law_told_map_1 : M Rs :=
    (tupM (consF (slM 2) (consF (op2 ixG (slM 1) (slM 2)) (ret []))))
def B_u_law_told_map : M Fl :=
    (retM (opN (g1 tupleG) (consM (lcM [2] (seqS (callM F_u_law_names (consM (slM 0) (ret [])))) (tgN 2) (ret true) C_u_law_told_map_1) (ret []))))
def F_u_law_told_map : Fn := fnOf 2 3 B_u_law_told_map
theorem ar_u_law_told_map : Arity F_u_law_told_map 2 := Arity.of _ _ _
def C_u_law_bent_1 : M Rs :=
    (tupM (consF (slM 4) (consF (slM 7) (ret []))))
def C_u_law_bent_2 : M Rs :=
    (op2 addG (op2 addG (slcM2 (slM 1) (ret none) (partM (slM 3))) (tupM (consF (slM 8) (ret [])))) (slcM2 (slM 1) (partM (op2 addG (slM 3) (fzM (.int 1)))) (ret none)))
def B_u_law_bent : M Fl :=
    (seqM (setM 2 (lstM (consF (fzM .none) (consF (fzM (.int 0)) (consF (tupM (ret [])) (consF (ret (.fr (.dict []))) (consF (opN (g1 listA) (consM (slM 1) (ret []))) (consF (slcM2 (slM 1) (partM (fzM (.int 1))) (ret none)) (consF (op2 addG (slM 1) (slcM2 (slM 1) (ret none) (partM (fzM (.int 1))))) (consF (op1 revG2 (slM 1)) (consF (opN (g1 dictG) (consM (slM 1) (ret []))) (ret []))))))))))))
    (seqM (iteM (tstM (op2 neG (slM 1) (tupM (ret [])))) (seqM (setM 3 (callM F_u_law_draw (consM (slM 0) (consM (opN (g1 lenG) (consM (slM 1) (ret []))) (ret [])))))
    (seqM (asgM (op2 ixG (slM 1) (slM 3)) (tgT 2 (tgCons (tgN 4) (tgCons (tgN 5) tgNil))))
    (seqM (setM 6 (op2 addG (lcM [7] (seqS (lstM (consF (fzM (.str "x")) (consF (fzM (.str "y")) (consF (fzM (.str "z")) (consF (fzM (.str "u")) (consF (fzM (.int 1)) (consF (fzM (.int 2)) (consF (fzM (.str "Red")) (consF (fzM (.str "Blue")) (consF (fzM .none) (consF (fzM (.bool true)) (consF (fzM (.str "aB")) (consF (fzM (.str "")) (ret []))))))))))))))) (tgN 7) (ret true) C_u_law_bent_1) (lstM (consF (tupM (consF (slM 4) (ret []))) (consF (lstM (consF (slM 4) (consF (slM 5) (ret [])))) (consF (tupM (consF (slM 5) (consF (slM 4) (ret [])))) (ret [])))))))
    (drpM (extM 2 (lcM [8] (seqS (slM 6)) (tgN 8) (ret true) C_u_law_bent_2)))))) (ret .nx))
    (retM (slM 2))))
def F_u_law_bent : Fn := fnOf 2 9 B_u_law_bent
theorem ar_u_law_bent : Arity F_u_law_bent 2 := Arity.of _ _ _
def C_u_law_led_1 : M Rs :=
    (iteM (tstM (callM F_u_law_is_name (consM (slM 2) (ret [])))) (op2 ixG (slM 1) (slM 2)) (slM 2))
def B_u_law_led : M Fl :=
    (retM (opN (g1 tupleG) (consM (lcM [2] (seqS (slM 0)) (tgN 2) (ret true) C_u_law_led_1) (ret []))))
def F_u_law_led : Fn := fnOf 2 3 B_u_law_led
theorem ar_u_law_led : Arity F_u_law_led 2 := Arity.of _ _ _
def C_u_law_atoms_1 : M Rs :=
    (tupM (consF (slM 2) (consF (callM F_u_law_led (consM (slM 3) (consM (slM 1) (ret [])))) (ret []))))
def B_u_law_atoms : M Fl :=
    (retM (lcM [2, 3] (seqS (op2 ixG (slM 0) (fzM (.int 2)))) (tgT 2 (tgCons (tgN 2) (tgCons (tgN 3) tgNil))) (ret true) C_u_law_atoms_1))
def F_u_law_atoms : Fn := fnOf 2 4 B_u_law_atoms
theorem ar_u_law_atoms : Arity F_u_law_atoms 2 := Arity.of _ _ _
def C_u_law_map_of_1 : M Rs :=
    (slM 9)
def C_u_law_map_of_2 : M Rs :=
    (op2 ixG (slM 9) (fzM (.int 0)))
def C_u_law_map_of_3 : M Rs :=
    (slM 8)
def C_u_law_map_of_4 : M Rs :=
    (opN (g1 reprA) (consM (slM 7) (ret [])))
def C_u_law_map_of_5 : M Rs :=
    (slM 7)
def B_u_law_map_of : M Fl :=
    (seqM (setM 4 (callM F_u_law_names (consM (slM 0) (ret []))))
    (seqM (iteM (orM (notM (tstM (op1 (isiG "tuple") (slM 3)))) (orM (tstM (op2 neG (lcM [9] (seqS (slM 3)) (tgN 9) (orM (notM (tstM (op1 (isiG "tuple") (slM 9)))) (tstM (op2 neG (opN (g1 lenG) (consM (slM 9) (ret []))) (fzM (.int 2))))) C_u_law_map_of_1) (lstM (ret [])))) (tstM (op2 neG (lcM [9] (seqS (slM 3)) (tgN 9) (ret true) C_u_law_map_of_2) (slM 4))))) (retM (fzM .none)) (ret .nx))
    (seqM (setM 5 (opN (g1 dictG) (consM (slM 3) (ret []))))
    (seqM (iteM (tstM (op2 neG (lcM [8] (seqS (slM 4)) (tgN 8) (orM (tstM (op1 (isiG "bool") (op2 ixG (slM 5) (slM 8)))) (notM (tstM (op1 (isiG2 "int" "str") (op2 ixG (slM 5) (slM 8)))))) C_u_law_map_of_3) (lstM (ret [])))) (retM (fzM .none)) (ret .nx))
    (seqM (iteM (tstM (op2 neG (opN (g1 reprA) (consM (callM F_u_law_led (consM (op2 ixG (slM 0) (fzM (.int 1))) (consM (slM 5) (ret [])))) (ret []))) (opN (g1 reprA) (consM (slM 2) (ret []))))) (retM (fzM .none)) (ret .nx))
    (seqM (setM 6 (lcM [7] (seqS (slM 1)) (tgN 7) (ret true) C_u_law_map_of_4))
    (retM (iteM (tstM (op2 eqG (lcM [7] (seqS (callM F_u_law_atoms (consM (slM 0) (consM (slM 5) (ret []))))) (tgN 7) (tstM (op2 notInG (opN (g1 reprA) (consM (slM 7) (ret []))) (slM 6))) C_u_law_map_of_5) (lstM (ret [])))) (slM 5) (fzM .none)))))))))
def F_u_law_map_of : Fn := fnOf 4 10 B_u_law_map_of
theorem ar_u_law_map_of : Arity F_u_law_map_of 4 := Arity.of _ _ _
def C_u_law_is_fold_1 : M Rs :=
    (slM 3)
def B_u_law_is_fold : M Fl :=
    (seqM (setM 2 (callM F_u_law_map_of (consM (slM 0) (consM (op2 ixG (slM 0) (fzM (.int 2))) (consM (op2 ixG (slM 0) (fzM (.int 1))) (consM (slM 1) (ret [])))))))
    (retM (andV (op2 isntG (slM 2) (fzM .none)) (op2 neG (lcM [3] (seqS (op2 ixG (slM 0) (fzM (.int 2)))) (tgN 3) (tstM (op2 notInG (slM 3) (callM F_u_law_atoms (consM (slM 0) (consM (slM 2) (ret [])))))) C_u_law_is_fold_1) (lstM (ret []))))))
def F_u_law_is_fold : Fn := fnOf 2 4 B_u_law_is_fold
theorem ar_u_law_is_fold : Arity F_u_law_is_fold 2 := Arity.of _ _ _
def C_map_dict_1 : M Rs :=
    (andV (callM F_is_row (consM (slM 3) (consM (fzM (.int 2)) (ret [])))) (callM F_is_term (consM (op2 ixG (slM 3) (fzM (.int 1))) (ret []))))
def C_map_dict_2 : M Rs :=
    (op2 ixG (slM 3) (fzM (.int 0)))
def B_map_dict : M Fl :=
    (seqM (setM 2 (callM F_names_in (consM (op2 ixG (slM 0) (fzM (.int 2))) (ret []))))
    (seqM (iteM (orM (notM (tstM (callM F_is_row (consM (slM 1) (consM (opN (g1 lenG) (consM (slM 2) (ret []))) (ret [])))))) (notM (tstM (opN (g1 allG) (consM (lcM [3] (seqS (slM 1)) (tgN 3) (ret true) C_map_dict_1) (ret [])))))) (retM (fzM .none)) (ret .nx))
    (retM (iteM (tstM (op2 eqG (lcM [3] (seqS (slM 1)) (tgN 3) (ret true) C_map_dict_2) (slM 2))) (opN (g1 dictG) (consM (slM 1) (ret []))) (fzM .none)))))
def F_map_dict : Fn := fnOf 2 4 B_map_dict
theorem ar_map_dict : Arity F_map_dict 2 := Arity.of _ _ _
def C_led_terms_1 : M Rs :=
    (iteM (tstM (callM F_is_name (consM (slM 2) (ret [])))) (op2 ixG (slM 1) (slM 2)) (slM 2))
def B_led_terms : M Fl :=
    (retM (opN (g1 tupleG) (consM (lcM [2] (seqS (slM 0)) (tgN 2) (ret true) C_led_terms_1) (ret []))))
def F_led_terms : Fn := fnOf 2 3 B_led_terms
theorem ar_led_terms : Arity F_led_terms 2 := Arity.of _ _ _
def C_led_atoms_1 : M Rs :=
    (tupM (consF (slM 2) (consF (callM F_led_terms (consM (slM 3) (consM (slM 1) (ret [])))) (ret []))))
def B_led_atoms : M Fl :=
    (retM (lcM [2, 3] (seqS (op2 ixG (slM 0) (fzM (.int 2)))) (tgT 2 (tgCons (tgN 2) (tgCons (tgN 3) tgNil))) (ret true) C_led_atoms_1))
def F_led_atoms : Fn := fnOf 2 4 B_led_atoms
theorem ar_led_atoms : Arity F_led_atoms 2 := Arity.of _ _ _
def C_leads_to_1 : M Rs :=
    (op2 inG (slM 4) (slM 2))
def B_leads_to : M Fl :=
    (retM (andV (op2 eqG (callM F_led_terms (consM (op2 ixG (slM 0) (fzM (.int 1))) (consM (slM 1) (ret [])))) (slM 3)) (opN (g1 allG) (consM (lcM [4] (seqS (callM F_led_atoms (consM (slM 0) (consM (slM 1) (ret []))))) (tgN 4) (ret true) C_leads_to_1) (ret [])))))
def F_leads_to : Fn := fnOf 4 5 B_leads_to
theorem ar_leads_to : Arity F_leads_to 4 := Arity.of _ _ _
def C_is_fold_1 : M Rs :=
    (op2 notInG (slM 4) (slM 3))
def B_is_fold : M Fl :=
    (seqM (setM 2 (callM F_map_dict (consM (callM F_want_question (consM (gvM (slM 0)) (ret []))) (consM (slM 1) (ret [])))))
    (seqM (iteM (orM (tstM (op2 isG (slM 2) (fzM .none))) (notM (tstM (callM F_leads_to (consM (slM 0) (consM (slM 2) (consM (op2 ixG (slM 0) (fzM (.int 2))) (consM (op2 ixG (slM 0) (fzM (.int 1))) (ret []))))))))) (retM (fzM (.bool false))) (ret .nx))
    (seqM (setM 3 (callM F_led_atoms (consM (slM 0) (consM (slM 2) (ret [])))))
    (retM (opN (g1 anyG) (consM (lcM [4] (seqS (op2 ixG (slM 0) (fzM (.int 2)))) (tgN 4) (ret true) C_is_fold_1) (ret [])))))))
def F_is_fold : Fn := fnOf 2 5 B_is_fold
theorem ar_is_fold : Arity F_is_fold 2 := Arity.of _ _ _
def C_law_1 : M Rs :=
    (callM F_u_law_told_map (consM (slM 3) (consM (slM 8) (ret []))))
def L_law_1b : M Fl :=
    (seqM (setM 7 (callM F_u_law_is_fold (consM (slM 3) (consM (slM 6) (ret [])))))
    (iteM (tstM (op2 neG (opN (g1 reprA) (consM (lstM (consF (callM F_is_fold (consM (gvM (slM 3)) (consM (slM 6) (ret [])))) (consF (callKM 0 2 [1, 0] F_is_fold (ret []) (consM (slM 6) (consM (gvM (slM 3)) (ret [])))) (ret [])))) (ret []))) (opN (g1 reprA) (consM (lstM (consF (slM 7) (consF (slM 7) (ret [])))) (ret []))))) (retM (fzM (.bool false))) (ret .nx)))
def L_law_1 : M Fl :=
    (kilM [6, 7] L_law_1b)
def L_law_2b : M Fl :=
    (seqM (setM 3 (callM F_u_law_question (consM (slM 1) (consM (fzM (.int 4)) (consM (callM F_u_law_draw (consM (slM 1) (consM (fzM (.int 3)) (ret [])))) (ret []))))))
    (seqM (setM 4 (callM F_fold (consM (gvM (slM 3)) (ret []))))
    (seqM (setM 5 (op2 addG (slcM2 (lcM [8] (seqS (callM F_u_law_maps (consM (slM 3) (consM (callM F_u_law_unlike (consM (op2 ixG (slM 3) (fzM (.int 2))) (ret []))) (consM (op2 ixG (slM 3) (fzM (.int 1))) (ret [])))))) (tgN 8) (ret true) C_law_1) (ret none) (partM (fzM (.int 6)))) (iteM (tstM (op2 isntG (slM 4) (fzM .none))) (lstM (consF (slM 4) (ret []))) (lstM (ret [])))))
    (forS (seqS (op2 addG (slM 5) (callM F_u_law_bent (consM (slM 1) (consM (callM F_u_law_pick (consM (slM 1) (consM (slM 5) (ret [])))) (ret [])))))) (tgN 6) L_law_1))))
def L_law_2 : M Fl :=
    (kilM [2, 3, 4, 5, 6, 7] L_law_2b)
def B_law : M Fl :=
    (seqM (potM 1 (callM F_u_law_pot (consM (slM 0) (consM (fzM (.int 0)) (ret [])))))
    (seqM (forS (rng1M (consM (fzM (.int 3)) (ret []))) (tgN 2) L_law_2)
    (retM (fzM (.bool true)))))
def F_law : Fn := fnOf 1 9 B_law
theorem ar_law : Arity F_law 1 := Arity.of _ _ _
/-! where they stand -/
structure Wd (K : PySem.W.Frag) (mg : Str → Option Value) : Type where
  a_u_law_pot : Addr
  d_u_law_pot : FuncData
  p_u_law_pot : FnP K "_law_pot" s_u_law_pot a_u_law_pot d_u_law_pot
  m_u_law_pot : mg "_law_pot" = some (.ref a_u_law_pot)
  a_u_law_draw : Addr
  d_u_law_draw : FuncData
  p_u_law_draw : FnP K "_law_draw" s_u_law_draw a_u_law_draw d_u_law_draw
  m_u_law_draw : mg "_law_draw" = some (.ref a_u_law_draw)
  a_u_law_pick : Addr
  d_u_law_pick : FuncData
  p_u_law_pick : FnP K "_law_pick" s_u_law_pick a_u_law_pick d_u_law_pick
  m_u_law_pick : mg "_law_pick" = some (.ref a_u_law_pick)
  a_u_law_terms : Addr
  d_u_law_terms : FuncData
  p_u_law_terms : FnP K "_law_terms" s_u_law_terms a_u_law_terms d_u_law_terms
  m_u_law_terms : mg "_law_terms" = some (.ref a_u_law_terms)
  a_u_law_question : Addr
  d_u_law_question : FuncData
  p_u_law_question : FnP K "_law_question" s_u_law_question a_u_law_question d_u_law_question
  m_u_law_question : mg "_law_question" = some (.ref a_u_law_question)
  a_unlike_ones : Addr
  d_unlike_ones : FuncData
  p_unlike_ones : FnP K "unlike_ones" s_unlike_ones a_unlike_ones d_unlike_ones
  m_unlike_ones : mg "unlike_ones" = some (.ref a_unlike_ones)
  a_is_name : Addr
  d_is_name : FuncData
  p_is_name : FnP K "is_name" s_is_name a_is_name d_is_name
  m_is_name : mg "is_name" = some (.ref a_is_name)
  a_agreed : Addr
  d_agreed : FuncData
  p_agreed : FnP K "agreed" s_agreed a_agreed d_agreed
  m_agreed : mg "agreed" = some (.ref a_agreed)
  a_led_into : Addr
  d_led_into : FuncData
  p_led_into : FnP K "led_into" s_led_into a_led_into d_led_into
  m_led_into : mg "led_into" = some (.ref a_led_into)
  a_map_into : Addr
  d_map_into : FuncData
  p_map_into : FnP K "map_into" s_map_into a_map_into d_map_into
  m_map_into : mg "map_into" = some (.ref a_map_into)
  a_fold_of : Addr
  d_fold_of : FuncData
  p_fold_of : FnP K "fold_of" s_fold_of a_fold_of d_fold_of
  m_fold_of : mg "fold_of" = some (.ref a_fold_of)
  a_is_row : Addr
  d_is_row : FuncData
  p_is_row : FnP K "is_row" s_is_row a_is_row d_is_row
  m_is_row : mg "is_row" = some (.ref a_is_row)
  a_is_word : Addr
  d_is_word : FuncData
  p_is_word : FnP K "is_word" s_is_word a_is_word d_is_word
  m_is_word : mg "is_word" = some (.ref a_is_word)
  a_is_integer : Addr
  d_is_integer : FuncData
  p_is_integer : FnP K "is_integer" s_is_integer a_is_integer d_is_integer
  m_is_integer : mg "is_integer" = some (.ref a_is_integer)
  a_is_value : Addr
  d_is_value : FuncData
  p_is_value : FnP K "is_value" s_is_value a_is_value d_is_value
  m_is_value : mg "is_value" = some (.ref a_is_value)
  a_is_term : Addr
  d_is_term : FuncData
  p_is_term : FnP K "is_term" s_is_term a_is_term d_is_term
  m_is_term : mg "is_term" = some (.ref a_is_term)
  a_is_terms : Addr
  d_is_terms : FuncData
  p_is_terms : FnP K "is_terms" s_is_terms a_is_terms d_is_terms
  m_is_terms : mg "is_terms" = some (.ref a_is_terms)
  a_is_atom : Addr
  d_is_atom : FuncData
  p_is_atom : FnP K "is_atom" s_is_atom a_is_atom d_is_atom
  m_is_atom : mg "is_atom" = some (.ref a_is_atom)
  a_names_in : Addr
  d_names_in : FuncData
  p_names_in : FnP K "names_in" s_names_in a_names_in d_names_in
  m_names_in : mg "names_in" = some (.ref a_names_in)
  a_unlike_table : Addr
  d_unlike_table : FuncData
  p_unlike_table : FnP K "unlike_table" s_unlike_table a_unlike_table d_unlike_table
  m_unlike_table : mg "unlike_table" = some (.ref a_unlike_table)
  a_is_question_of : Addr
  d_is_question_of : FuncData
  p_is_question_of : FnP K "is_question_of" s_is_question_of a_is_question_of d_is_question_of
  m_is_question_of : mg "is_question_of" = some (.ref a_is_question_of)
  a_want_question : Addr
  d_want_question : FuncData
  p_want_question : FnP K "want_question" s_want_question a_want_question d_want_question
  m_want_question : mg "want_question" = some (.ref a_want_question)
  a_told_map : Addr
  d_told_map : FuncData
  p_told_map : FnP K "told_map" s_told_map a_told_map d_told_map
  m_told_map : mg "told_map" = some (.ref a_told_map)
  a_fold : Addr
  d_fold : FuncData
  p_fold : FnP K "fold" s_fold a_fold d_fold
  m_fold : mg "fold" = some (.ref a_fold)
  a_u_law_is_name : Addr
  d_u_law_is_name : FuncData
  p_u_law_is_name : FnP K "_law_is_name" s_u_law_is_name a_u_law_is_name d_u_law_is_name
  m_u_law_is_name : mg "_law_is_name" = some (.ref a_u_law_is_name)
  a_u_law_fits : Addr
  d_u_law_fits : FuncData
  p_u_law_fits : FnP K "_law_fits" s_u_law_fits a_u_law_fits d_u_law_fits
  m_u_law_fits : mg "_law_fits" = some (.ref a_u_law_fits)
  a_u_law_maps : Addr
  d_u_law_maps : FuncData
  p_u_law_maps : FnP K "_law_maps" s_u_law_maps a_u_law_maps d_u_law_maps
  m_u_law_maps : mg "_law_maps" = some (.ref a_u_law_maps)
  a_u_law_unlike : Addr
  d_u_law_unlike : FuncData
  p_u_law_unlike : FnP K "_law_unlike" s_u_law_unlike a_u_law_unlike d_u_law_unlike
  m_u_law_unlike : mg "_law_unlike" = some (.ref a_u_law_unlike)
  a_u_law_names : Addr
  d_u_law_names : FuncData
  p_u_law_names : FnP K "_law_names" s_u_law_names a_u_law_names d_u_law_names
  m_u_law_names : mg "_law_names" = some (.ref a_u_law_names)
  a_u_law_told_map : Addr
  d_u_law_told_map : FuncData
  p_u_law_told_map : FnP K "_law_told_map" s_u_law_told_map a_u_law_told_map d_u_law_told_map
  m_u_law_told_map : mg "_law_told_map" = some (.ref a_u_law_told_map)
  a_u_law_bent : Addr
  d_u_law_bent : FuncData
  p_u_law_bent : FnP K "_law_bent" s_u_law_bent a_u_law_bent d_u_law_bent
  m_u_law_bent : mg "_law_bent" = some (.ref a_u_law_bent)
  a_u_law_led : Addr
  d_u_law_led : FuncData
  p_u_law_led : FnP K "_law_led" s_u_law_led a_u_law_led d_u_law_led
  m_u_law_led : mg "_law_led" = some (.ref a_u_law_led)
  a_u_law_atoms : Addr
  d_u_law_atoms : FuncData
  p_u_law_atoms : FnP K "_law_atoms" s_u_law_atoms a_u_law_atoms d_u_law_atoms
  m_u_law_atoms : mg "_law_atoms" = some (.ref a_u_law_atoms)
  a_u_law_map_of : Addr
  d_u_law_map_of : FuncData
  p_u_law_map_of : FnP K "_law_map_of" s_u_law_map_of a_u_law_map_of d_u_law_map_of
  m_u_law_map_of : mg "_law_map_of" = some (.ref a_u_law_map_of)
  a_u_law_is_fold : Addr
  d_u_law_is_fold : FuncData
  p_u_law_is_fold : FnP K "_law_is_fold" s_u_law_is_fold a_u_law_is_fold d_u_law_is_fold
  m_u_law_is_fold : mg "_law_is_fold" = some (.ref a_u_law_is_fold)
  a_map_dict : Addr
  d_map_dict : FuncData
  p_map_dict : FnP K "map_dict" s_map_dict a_map_dict d_map_dict
  m_map_dict : mg "map_dict" = some (.ref a_map_dict)
  a_led_terms : Addr
  d_led_terms : FuncData
  p_led_terms : FnP K "led_terms" s_led_terms a_led_terms d_led_terms
  m_led_terms : mg "led_terms" = some (.ref a_led_terms)
  a_led_atoms : Addr
  d_led_atoms : FuncData
  p_led_atoms : FnP K "led_atoms" s_led_atoms a_led_atoms d_led_atoms
  m_led_atoms : mg "led_atoms" = some (.ref a_led_atoms)
  a_leads_to : Addr
  d_leads_to : FuncData
  p_leads_to : FnP K "leads_to" s_leads_to a_leads_to d_leads_to
  m_leads_to : mg "leads_to" = some (.ref a_leads_to)
  a_is_fold : Addr
  d_is_fold : FuncData
  p_is_fold : FnP K "is_fold" s_is_fold a_is_fold d_is_fold
  m_is_fold : mg "is_fold" = some (.ref a_is_fold)
  n_range : mg "range" = none
  n_repr : mg "repr" = none
  n_len : mg "len" = none
  n_abs : mg "abs" = none
  n_max : mg "max" = none
  n_int : mg "int" = none
  n_sorted : mg "sorted" = none
  n_set : mg "set" = none
  n_tuple : mg "tuple" = none
  n_divmod : mg "divmod" = none
  n_list : mg "list" = none
  n_dict : mg "dict" = none
  n_zip : mg "zip" = none
  n_isinstance : mg "isinstance" = none
  n_str : mg "str" = none
  n_all : mg "all" = none
  n_bool : mg "bool" = none
  n_min : mg "min" = none
  n_any : mg "any" = none
  c_MOST_NAME : ∃ t, mg "MOST_NAME" = some (.int 8 t)
  c_SMALL : ∃ t, mg "SMALL" = some (.str "abcdefghijklmnopqrstuvwxyz" t)
  c_ASK : ∃ t, mg "ASK" = some (.str "ask" t)
  c_MOST_HEAD : ∃ t, mg "MOST_HEAD" = some (.int 4 t)
  c_MOST_ATOMS : ∃ t, mg "MOST_ATOMS" = some (.int 6 t)
  c_MOST_VALUE : ∃ t, mg "MOST_VALUE" = some (.int 1000000000 t)
  c_MOST_WORD : ∃ t, mg "MOST_WORD" = some (.int 12 t)
  c_CAPITALS : ∃ t, mg "CAPITALS" = some (.str "ABCDEFGHIJKLMNOPQRSTUVWXYZ" t)
  c_DIGITS : ∃ t, mg "DIGITS" = some (.str "0123456789" t)
  c_MOST_TERMS : ∃ t, mg "MOST_TERMS" = some (.int 4 t)
theorem Wd.b_u_law_pot {K : PySem.W.Frag} {mg : Str → Option Value} (W : Wd K mg) : Binds K W.d_u_law_pot ["script", "k"] [] := W.p_u_law_pot.bindsN fun _ _ _ _ _ _ us hl => match us, hl with | [_, _], _ => rfl
theorem Wd.b_u_law_draw {K : PySem.W.Frag} {mg : Str → Option Value} (W : Wd K mg) : Binds K W.d_u_law_draw ["pot", "size"] [] := W.p_u_law_draw.bindsN fun _ _ _ _ _ _ us hl => match us, hl with | [_, _], _ => rfl
theorem Wd.b_u_law_pick {K : PySem.W.Frag} {mg : Str → Option Value} (W : Wd K mg) : Binds K W.d_u_law_pick ["pot", "some"] [] := W.p_u_law_pick.bindsN fun _ _ _ _ _ _ us hl => match us, hl with | [_, _], _ => rfl
theorem Wd.b_u_law_terms {K : PySem.W.Frag} {mg : Str → Option Value} (W : Wd K mg) : Binds K W.d_u_law_terms ["pot", "many", "names", "values"] [] := W.p_u_law_terms.bindsN fun _ _ _ _ _ _ us hl => match us, hl with | [_, _, _, _], _ => rfl
theorem Wd.b_u_law_question {K : PySem.W.Frag} {mg : Str → Option Value} (W : Wd K mg) : Binds K W.d_u_law_question ["pot", "most", "long"] [] := W.p_u_law_question.bindsN fun _ _ _ _ _ _ us hl => match us, hl with | [_, _, _], _ => rfl
theorem Wd.b_unlike_ones {K : PySem.W.Frag} {mg : Str → Option Value} (W : Wd K mg) : Binds K W.d_unlike_ones ["items"] [] := W.p_unlike_ones.bindsN fun _ _ _ _ _ _ us hl => match us, hl with | [_], _ => rfl
theorem Wd.b_is_name {K : PySem.W.Frag} {mg : Str → Option Value} (W : Wd K mg) : Binds K W.d_is_name ["value"] [] := W.p_is_name.bindsN fun _ _ _ _ _ _ us hl => match us, hl with | [_], _ => rfl
theorem Wd.b_agreed {K : PySem.W.Frag} {mg : Str → Option Value} (W : Wd K mg) : Binds K W.d_agreed ["terms", "goal", "led"] [] := W.p_agreed.bindsN fun _ _ _ _ _ _ us hl => match us, hl with | [_, _, _], _ => rfl
theorem Wd.b_led_into {K : PySem.W.Frag} {mg : Str → Option Value} (W : Wd K mg) : Binds K W.d_led_into ["atoms", "goals", "led"] [] := W.p_led_into.bindsN fun _ _ _ _ _ _ us hl => match us, hl with | [_, _, _], _ => rfl
theorem Wd.b_map_into {K : PySem.W.Frag} {mg : Str → Option Value} (W : Wd K mg) : Binds K W.d_map_into ["question", "goals", "head"] [] := W.p_map_into.bindsN fun _ _ _ _ _ _ us hl => match us, hl with | [_, _, _], _ => rfl
theorem Wd.b_fold_of {K : PySem.W.Frag} {mg : Str → Option Value} (W : Wd K mg) : Binds K W.d_fold_of ["question"] [] := W.p_fold_of.bindsN fun _ _ _ _ _ _ us hl => match us, hl with | [_], _ => rfl
theorem Wd.b_is_row {K : PySem.W.Frag} {mg : Str → Option Value} (W : Wd K mg) : Binds K W.d_is_row ["value", "many"] [] := W.p_is_row.bindsN fun _ _ _ _ _ _ us hl => match us, hl with | [_, _], _ => rfl
theorem Wd.b_is_word {K : PySem.W.Frag} {mg : Str → Option Value} (W : Wd K mg) : Binds K W.d_is_word ["value"] [] := W.p_is_word.bindsN fun _ _ _ _ _ _ us hl => match us, hl with | [_], _ => rfl
theorem Wd.b_is_integer {K : PySem.W.Frag} {mg : Str → Option Value} (W : Wd K mg) : Binds K W.d_is_integer ["value"] [] := W.p_is_integer.bindsN fun _ _ _ _ _ _ us hl => match us, hl with | [_], _ => rfl
theorem Wd.b_is_value {K : PySem.W.Frag} {mg : Str → Option Value} (W : Wd K mg) : Binds K W.d_is_value ["value"] [] := W.p_is_value.bindsN fun _ _ _ _ _ _ us hl => match us, hl with | [_], _ => rfl
theorem Wd.b_is_term {K : PySem.W.Frag} {mg : Str → Option Value} (W : Wd K mg) : Binds K W.d_is_term ["value"] [] := W.p_is_term.bindsN fun _ _ _ _ _ _ us hl => match us, hl with | [_], _ => rfl
theorem Wd.b_is_terms {K : PySem.W.Frag} {mg : Str → Option Value} (W : Wd K mg) : Binds K W.d_is_terms ["value", "least", "most"] [] := W.p_is_terms.bindsN fun _ _ _ _ _ _ us hl => match us, hl with | [_, _, _], _ => rfl
theorem Wd.b_is_atom {K : PySem.W.Frag} {mg : Str → Option Value} (W : Wd K mg) : Binds K W.d_is_atom ["value"] [] := W.p_is_atom.bindsN fun _ _ _ _ _ _ us hl => match us, hl with | [_], _ => rfl
theorem Wd.b_names_in {K : PySem.W.Frag} {mg : Str → Option Value} (W : Wd K mg) : Binds K W.d_names_in ["atoms"] [] := W.p_names_in.bindsN fun _ _ _ _ _ _ us hl => match us, hl with | [_], _ => rfl
theorem Wd.b_unlike_table {K : PySem.W.Frag} {mg : Str → Option Value} (W : Wd K mg) : Binds K W.d_unlike_table ["atoms"] [] := W.p_unlike_table.bindsN fun _ _ _ _ _ _ us hl => match us, hl with | [_], _ => rfl
theorem Wd.b_is_question_of {K : PySem.W.Frag} {mg : Str → Option Value} (W : Wd K mg) : Binds K W.d_is_question_of ["value"] [] := W.p_is_question_of.bindsN fun _ _ _ _ _ _ us hl => match us, hl with | [_], _ => rfl
theorem Wd.b_want_question {K : PySem.W.Frag} {mg : Str → Option Value} (W : Wd K mg) : Binds K W.d_want_question ["value"] [] := W.p_want_question.bindsN fun _ _ _ _ _ _ us hl => match us, hl with | [_], _ => rfl
theorem Wd.b_told_map {K : PySem.W.Frag} {mg : Str → Option Value} (W : Wd K mg) : Binds K W.d_told_map ["led"] [] := W.p_told_map.bindsN fun _ _ _ _ _ _ us hl => match us, hl with | [_], _ => rfl
theorem Wd.b_fold {K : PySem.W.Frag} {mg : Str → Option Value} (W : Wd K mg) : Binds K W.d_fold ["question"] [] := W.p_fold.bindsN fun _ _ _ _ _ _ us hl => match us, hl with | [_], _ => rfl
theorem Wd.b_u_law_is_name {K : PySem.W.Frag} {mg : Str → Option Value} (W : Wd K mg) : Binds K W.d_u_law_is_name ["term"] [] := W.p_u_law_is_name.bindsN fun _ _ _ _ _ _ us hl => match us, hl with | [_], _ => rfl
theorem Wd.b_u_law_fits {K : PySem.W.Frag} {mg : Str → Option Value} (W : Wd K mg) : Binds K W.d_u_law_fits ["terms", "goal", "led"] [] := W.p_u_law_fits.bindsN fun _ _ _ _ _ _ us hl => match us, hl with | [_, _, _], _ => rfl
theorem Wd.b_u_law_maps {K : PySem.W.Frag} {mg : Str → Option Value} (W : Wd K mg) : Binds K W.d_u_law_maps ["question", "goals", "head"] [] := W.p_u_law_maps.bindsN fun _ _ _ _ _ _ us hl => match us, hl with | [_, _, _], _ => rfl
theorem Wd.b_u_law_unlike {K : PySem.W.Frag} {mg : Str → Option Value} (W : Wd K mg) : Binds K W.d_u_law_unlike ["items"] [] := W.p_u_law_unlike.bindsN fun _ _ _ _ _ _ us hl => match us, hl with | [_], _ => rfl
theorem Wd.b_u_law_names {K : PySem.W.Frag} {mg : Str → Option Value} (W : Wd K mg) : Binds K W.d_u_law_names ["question"] [] := W.p_u_law_names.bindsN fun _ _ _ _ _ _ us hl => match us, hl with | [_], _ => rfl
theorem Wd.b_u_law_told_map {K : PySem.W.Frag} {mg : Str → Option Value} (W : Wd K mg) : Binds K W.d_u_law_told_map ["question", "led"] [] := W.p_u_law_told_map.bindsN fun _ _ _ _ _ _ us hl => match us, hl with | [_, _], _ => rfl
theorem Wd.b_u_law_bent {K : PySem.W.Frag} {mg : Str → Option Value} (W : Wd K mg) : Binds K W.d_u_law_bent ["pot", "value"] [] := W.p_u_law_bent.bindsN fun _ _ _ _ _ _ us hl => match us, hl with | [_, _], _ => rfl
theorem Wd.b_u_law_led {K : PySem.W.Frag} {mg : Str → Option Value} (W : Wd K mg) : Binds K W.d_u_law_led ["terms", "led"] [] := W.p_u_law_led.bindsN fun _ _ _ _ _ _ us hl => match us, hl with | [_, _], _ => rfl
theorem Wd.b_u_law_atoms {K : PySem.W.Frag} {mg : Str → Option Value} (W : Wd K mg) : Binds K W.d_u_law_atoms ["question", "led"] [] := W.p_u_law_atoms.bindsN fun _ _ _ _ _ _ us hl => match us, hl with | [_, _], _ => rfl
theorem Wd.b_u_law_map_of {K : PySem.W.Frag} {mg : Str → Option Value} (W : Wd K mg) : Binds K W.d_u_law_map_of ["question", "goals", "head", "value"] [] := W.p_u_law_map_of.bindsN fun _ _ _ _ _ _ us hl => match us, hl with | [_, _, _, _], _ => rfl
theorem Wd.b_u_law_is_fold {K : PySem.W.Frag} {mg : Str → Option Value} (W : Wd K mg) : Binds K W.d_u_law_is_fold ["question", "value"] [] := W.p_u_law_is_fold.bindsN fun _ _ _ _ _ _ us hl => match us, hl with | [_, _], _ => rfl
theorem Wd.b_map_dict {K : PySem.W.Frag} {mg : Str → Option Value} (W : Wd K mg) : Binds K W.d_map_dict ["question", "value"] [] := W.p_map_dict.bindsN fun _ _ _ _ _ _ us hl => match us, hl with | [_, _], _ => rfl
theorem Wd.b_led_terms {K : PySem.W.Frag} {mg : Str → Option Value} (W : Wd K mg) : Binds K W.d_led_terms ["terms", "led"] [] := W.p_led_terms.bindsN fun _ _ _ _ _ _ us hl => match us, hl with | [_, _], _ => rfl
theorem Wd.b_led_atoms {K : PySem.W.Frag} {mg : Str → Option Value} (W : Wd K mg) : Binds K W.d_led_atoms ["question", "led"] [] := W.p_led_atoms.bindsN fun _ _ _ _ _ _ us hl => match us, hl with | [_, _], _ => rfl
theorem Wd.b_leads_to {K : PySem.W.Frag} {mg : Str → Option Value} (W : Wd K mg) : Binds K W.d_leads_to ["question", "led", "goals", "head"] [] := W.p_leads_to.bindsN fun _ _ _ _ _ _ us hl => match us, hl with | [_, _, _, _], _ => rfl
theorem Wd.b_is_fold {K : PySem.W.Frag} {mg : Str → Option Value} (W : Wd K mg) : Binds K W.d_is_fold ["question", "value"] [] := W.p_is_fold.bindsN fun _ _ _ _ _ _ us hl => match us, hl with | [_, _], _ => rfl
section
variable {P : Program} {w : World} {K : PySem.W.Frag} {mg : Str → Option Value} {base : Heap}
theorem ok_u_law_pot (W : Wd K mg) : FnG P w K mg base CX0 1 W.a_u_law_pot W.d_u_law_pot ["script", "k"] (spD ⟨K, w⟩ 2 F_u_law_pot) :=
  fn_ok W.p_u_law_pot sc_u_law_pot (k := 0) fun cdv A outer s H E hgd hr => by
    have hu := DV.hu_of hr
    have hu64 := DV.hu64_of hr
    have hu70 := DV.hu70_of hr
    exact (dss_cons (ds_set (i := 2) (de_if (dt_cmp o_lt (op_ltA hu) (de_name 1) (de_blt call_lenA o_len boot_len W.n_len (da_cons (de_name 0) da_nil))) (de_blt call_abs o_abs boot_abs W.n_abs (da_cons (de_ix hu (de_name 0) (de_name 1)) da_nil)) (de_op o_add op_addA (de_op o_mul op_mulA de_int (de_name 1)) de_int)) sc_u_law_pot.nd)
    (dss_one (ds_ret (de_lst (df_cons (de_blt (call_max2 rfl) o_max2 boot_max W.n_max (da_cons de_int (da_cons (de_op o_sub op_sub (de_name 2) (de_op o_pow op_pow de_int de_int)) da_nil))) (df_cons (de_op o_add op_addA (de_op o_mod op_mod (de_ty call_int1 o_int1 boot_int W.n_int (da_cons (de_op o_add op_addA (de_op o_add op_addA (de_op o_mul op_mulA (de_op o_mod op_mod (de_ty call_int1 o_int1 boot_int W.n_int (da_cons (de_name 2) da_nil)) de_int) de_int) (de_op o_mul op_mulA de_int (de_name 1))) de_int) da_nil)) de_int) de_int) df_nil))))))
theorem ok_u_law_draw (W : Wd K mg) : FnG P w K mg base CX0 1 W.a_u_law_draw W.d_u_law_draw ["pot", "size"] (spD ⟨K, w⟩ 2 F_u_law_draw) :=
  fn_ok W.p_u_law_draw sc_u_law_draw (k := 0) fun cdv A outer s H E hgd hr => by
    have hu := DV.hu_of hr
    have hu64 := DV.hu64_of hr
    have hu70 := DV.hu70_of hr
    exact (dss_cons (ds_if (dt_cmp o_cmp op_gt (de_ix hu (de_name 0) de_int) de_int) (dss_cons (ds_drw (i := 0) (j := 2) (de_blt call_divmodZ o_divmod boot_divmod W.n_divmod (da_cons (de_ix hu (de_name 0) de_int) (da_cons (de_name 1) da_nil))) sc_u_law_draw.nd)
    (dss_one (ds_ret (de_name 2)))) dss_nil)
    (dss_cons (ds_stc (i := 0) (c := 1) (de_op o_mod op_mod (de_ty call_int1 o_int1 boot_int W.n_int (da_cons (de_op o_add op_addA (de_op o_mul op_mulA (de_ix hu (de_name 0) de_int) de_int) de_int) da_nil)) de_int))
    (dss_one (ds_ret (de_op o_mod op_mod (de_ty call_int1 o_int1 boot_int W.n_int (da_cons (de_op o_fdiv op_fdiv (de_op o_mod op_mod (de_ty call_int1 o_int1 boot_int W.n_int (da_cons (de_op o_mul op_mulA (de_ix hu (de_name 0) de_int) (de_ix hu (de_name 0) de_int)) da_nil)) de_int) de_int) da_nil)) (de_name 1))))))
theorem ok_u_law_pick (W : Wd K mg) : FnG P w K mg base CX0 2 W.a_u_law_pick W.d_u_law_pick ["pot", "some"] (spD ⟨K, w⟩ 2 F_u_law_pick) :=
  fn_ok W.p_u_law_pick sc_u_law_pick (k := 1) fun cdv A outer s H E hgd hr => by
    have hu := DV.hu_of hr
    have hu64 := DV.hu64_of hr
    have hu70 := DV.hu70_of hr
    exact (dss_one (ds_ret (de_ix hu (de_name 1) (de_call (ok_u_law_draw W) ar_u_law_draw hgd (hr.mono (by decide)) W.m_u_law_draw W.p_u_law_draw.kp W.b_u_law_draw (da_cons (de_name 0) (da_cons (de_blt call_lenA o_len boot_len W.n_len (da_cons (de_name 1) da_nil)) da_nil))))))
theorem ok_u_law_terms (W : Wd K mg) : FnG P w K mg base CX0 3 W.a_u_law_terms W.d_u_law_terms ["pot", "many", "names", "values"] (spD ⟨K, w⟩ 4 F_u_law_terms) :=
  fn_ok W.p_u_law_terms sc_u_law_terms (k := 2) fun cdv A outer s H E hgd hr => by
    have hu := DV.hu_of hr
    have hu64 := DV.hu64_of hr
    have hu70 := DV.hu70_of hr
    exact (dss_one (ds_ret (de_ty call_tupleZ o_tuple boot_tuple W.n_tuple (da_cons (de_lc (own := [("place", 4)]) (di_rng1 W.n_range (da_cons (de_name 1) da_nil)) sc_u_law_terms.nd (blkOk_by (show blkC N_u_law_terms (defScope s_u_law_terms) _ [("place", 4)] = true by decide +kernel)) (fun _ _ _ _ _ => (dg_name (i := 4) sc_u_law_terms.nd)) (fun _ _ _ _ _ => dts_nil) (fun _ _ _ _ _ => (de_if (dw_or (dt_cmp o_cmp op_gt (de_call (ok_u_law_draw W) ar_u_law_draw hgd (hr.mono (by decide)) W.m_u_law_draw W.p_u_law_draw.kp W.b_u_law_draw (da_cons (de_name 0) (da_cons de_int da_nil))) de_int) (dw_or1 (dt_cmp o_eq (op_eqD hu64) (de_name 3) (de_lst df_nil)))).pt (de_call (ok_u_law_pick W) ar_u_law_pick hgd (hr.mono (by decide)) W.m_u_law_pick W.p_u_law_pick.kp W.b_u_law_pick (da_cons (de_name 0) (da_cons (de_name 2) da_nil))) (de_call (ok_u_law_pick W) ar_u_law_pick hgd (hr.mono (by decide)) W.m_u_law_pick W.p_u_law_pick.kp W.b_u_law_pick (da_cons (de_name 0) (da_cons (de_name 3) da_nil)))))) da_nil))))
theorem ok_u_law_question (W : Wd K mg) : FnG P w K mg base CX0 4 W.a_u_law_question W.d_u_law_question ["pot", "most", "long"] (spD ⟨K, w⟩ 3 F_u_law_question) :=
  fn_ok W.p_u_law_question sc_u_law_question (k := 3) fun cdv A outer s H E hgd hr => by
    have hu := DV.hu_of hr
    have hu64 := DV.hu64_of hr
    have hu70 := DV.hu70_of hr
    exact (dss_cons (ds_parG (i := 3) (j := 4) (de_slc2 (de_lst (df_cons de_str (df_cons de_str (df_cons de_str (df_cons de_str df_nil))))) do_none (do_some (de_op o_add op_addA de_int (de_call (ok_u_law_draw W) ar_u_law_draw hgd (hr.mono (by decide)) W.m_u_law_draw W.p_u_law_draw.kp W.b_u_law_draw (da_cons (de_name 0) (da_cons de_int da_nil)))))) (de_lst (df_cons de_int (df_cons de_int (df_cons de_str df_nil)))) sc_u_law_question.nd)
    (dss_cons (ds_set (i := 5) (de_lst df_nil) sc_u_law_question.nd)
    (dss_cons (ds_for (di_rng1 W.n_range (da_cons (de_op o_add op_addA de_int (de_call (ok_u_law_draw W) ar_u_law_draw hgd (hr.mono (by decide)) W.m_u_law_draw W.p_u_law_draw.kp W.b_u_law_draw (da_cons (de_name 0) (da_cons (de_name 1) da_nil)))) da_nil)) (dg_name (i := 6) sc_u_law_question.nd) (dss_kil (is := [6, 7, 8]) (dss_cons (ds_asg (de_call (ok_u_law_pick W) ar_u_law_pick hgd (hr.mono (by decide)) W.m_u_law_pick W.p_u_law_pick.kp W.b_u_law_pick (da_cons (de_name 0) (da_cons (de_lst (df_cons (de_tup (df_cons de_str (df_cons de_int df_nil))) (df_cons (de_tup (df_cons de_str (df_cons de_int df_nil))) (df_cons (de_tup (df_cons de_str (df_cons de_int df_nil))) (df_cons (de_tup (df_cons de_str (df_cons de_int df_nil))) df_nil))))) da_nil))) (dg_tup (dg_cons (dg_name (i := 7) sc_u_law_question.nd) (dg_cons (dg_name (i := 8) sc_u_law_question.nd) dg_nil))))
    (dss_one (ds_expr (de_mt w_app mt_append PySem.F.plainAttrs_list PySem.F.slot_list_append PySem.F.type_list_append (df_cons (de_if (dw_and (dt_cmp o_ne (op_neD hu64) (de_name 5) (de_lst df_nil)) (dw_and1 (dt_cmp o_eq (op_eqD hu64) (de_call (ok_u_law_draw W) ar_u_law_draw hgd (hr.mono (by decide)) W.m_u_law_draw W.p_u_law_draw.kp W.b_u_law_draw (da_cons (de_name 0) (da_cons de_int da_nil))) de_int))).pt (de_call (ok_u_law_pick W) ar_u_law_pick hgd (hr.mono (by decide)) W.m_u_law_pick W.p_u_law_pick.kp W.b_u_law_pick (da_cons (de_name 0) (da_cons (de_name 5) da_nil))) (de_tup (df_cons (de_name 7) (df_cons (de_call (ok_u_law_terms W) ar_u_law_terms hgd (hr.mono (by decide)) W.m_u_law_terms W.p_u_law_terms.kp W.b_u_law_terms (da_cons (de_name 0) (da_cons (de_name 8) (da_cons (de_name 3) (da_cons (de_name 4) da_nil))))) df_nil)))) df_nil)))))))
    (dss_cons (ds_set (i := 9) (de_lst df_nil) sc_u_law_question.nd)
    (dss_cons (ds_for (di_seq (de_name 5)) (dg_tup (dg_cons (dg_name (i := 7) sc_u_law_question.nd) (dg_cons (dg_name (i := 10) sc_u_law_question.nd) dg_nil))) (dss_kil (is := [7, 10]) (dss_one (ds_expr (de_ext (de_lc (own := [("term", 13)]) (di_seq (de_name 10)) sc_u_law_question.nd (blkOk_by (show blkC N_u_law_question (defScope s_u_law_question) _ [("term", 13)] = true by decide +kernel)) (fun _ _ _ _ _ => (dg_name (i := 13) sc_u_law_question.nd)) (fun _ _ _ _ _ => (dts_one (dt_cmp o_in (op_inA hu) (de_name 13) (de_name 3)))) (fun _ _ _ _ _ => (de_name 13))))))))
    (dss_cons (ds_set (i := 9) (de_sset (de_name 9) W.n_sorted W.n_set) sc_u_law_question.nd)
    (dss_cons (ds_set (i := 11) (de_ty call_tupleZ o_tuple boot_tuple W.n_tuple (da_cons (de_lc (own := [("place", 12)]) (di_rng1 W.n_range (da_cons (de_name 2) da_nil)) sc_u_law_question.nd (blkOk_by (show blkC N_u_law_question (defScope s_u_law_question) _ [("place", 12)] = true by decide +kernel)) (fun _ _ _ _ _ => (dg_name (i := 12) sc_u_law_question.nd)) (fun _ _ _ _ _ => dts_nil) (fun _ _ _ _ _ => (de_if (dw_and (dt_cmp o_ne (op_neD hu64) (de_name 9) (de_lst df_nil)) (dw_and1 (dt_cmp o_cmp op_gt (de_call (ok_u_law_draw W) ar_u_law_draw hgd (hr.mono (by decide)) W.m_u_law_draw W.p_u_law_draw.kp W.b_u_law_draw (da_cons (de_name 0) (da_cons de_int da_nil))) de_int))).pt (de_call (ok_u_law_pick W) ar_u_law_pick hgd (hr.mono (by decide)) W.m_u_law_pick W.p_u_law_pick.kp W.b_u_law_pick (da_cons (de_name 0) (da_cons (de_name 9) da_nil))) (de_call (ok_u_law_pick W) ar_u_law_pick hgd (hr.mono (by decide)) W.m_u_law_pick W.p_u_law_pick.kp W.b_u_law_pick (da_cons (de_name 0) (da_cons (de_name 4) da_nil)))))) da_nil)) sc_u_law_question.nd)
    (dss_one (ds_ret (de_tup (df_cons de_str (df_cons (de_name 11) (df_cons (de_ty call_tupleZ o_tuple boot_tuple W.n_tuple (da_cons (de_name 5) da_nil)) df_nil)))))))))))))
theorem ok_unlike_ones (W : Wd K mg) : FnG P w K mg base CX0 1 W.a_unlike_ones W.d_unlike_ones ["items"] (spD ⟨K, w⟩ 1 F_unlike_ones) :=
  fn_ok W.p_unlike_ones sc_unlike_ones (k := 0) fun cdv A outer s H E hgd hr => by
    have hu := DV.hu_of hr
    have hu64 := DV.hu64_of hr
    have hu70 := DV.hu70_of hr
    exact (dss_cons (ds_set (i := 1) de_dnew sc_unlike_ones.nd)
    (dss_cons (ds_for (di_seq (de_name 0)) (dg_name (i := 2) sc_unlike_ones.nd) (dss_kil (is := [2]) (dss_one (ds_put (i := 1) hu (de_name 2) de_bool))))
    (dss_one (ds_ret (de_ty (cr_listA rfl) o_listA boot_list W.n_list (da_cons (de_name 1) da_nil))))))
theorem ok_is_name (W : Wd K mg) : FnG P w K mg base CX0 1 W.a_is_name W.d_is_name ["value"] (spD ⟨K, w⟩ 1 F_is_name) :=
  fn_ok W.p_is_name sc_is_name (k := 0) fun cdv A outer s H E hgd hr => by
    have hu := DV.hu_of hr
    have hu64 := DV.hu64_of hr
    have hu70 := DV.hu70_of hr
    exact (dss_cons (ds_if (dw_or (dt_not (dt_val (de_isi (de_name 0) boot_str W.n_isinstance W.n_str))) (dw_or1 (dt_not (dt_chn o_cmp op_le o_cmp op_le de_int (de_blt call_lenA o_len boot_len W.n_len (da_cons (de_name 0) da_nil)) (de_gint (by rfl) W.c_MOST_NAME.choose_spec ⟨_, rfl⟩))))).pt (dss_one (ds_ret de_bool)) dss_nil)
    (dss_one (ds_ret (de_blt (cr_all rfl) o_all boot_all W.n_all (da_cons (de_lc (own := [("sign", 1)]) (di_seq (de_name 0)) sc_is_name.nd (blkOk_by (show blkC N_is_name (defScope s_is_name) _ [("sign", 1)] = true by decide +kernel)) (fun _ _ _ _ _ => (dg_name (i := 1) sc_is_name.nd)) (fun _ _ _ _ _ => dts_nil) (fun _ _ _ _ _ => (de_cmp o_in (op_inA hu) (de_name 1) (de_gstr (by rfl) W.c_SMALL.choose_spec ⟨_, rfl⟩)))) da_nil)))))
theorem ok_agreed (W : Wd K mg) : FnG P w K mg base CX0 2 W.a_agreed W.d_agreed ["terms", "goal", "led"] (spD ⟨K, w⟩ 3 F_agreed) :=
  fn_ok W.p_agreed sc_agreed (k := 1) fun cdv A outer s H E hgd hr => by
    have hu := DV.hu_of hr
    have hu64 := DV.hu64_of hr
    have hu70 := DV.hu70_of hr
    exact (dss_cons (ds_set (i := 3) (de_ty (cr_dict rfl) o_dict boot_dict W.n_dict (da_cons (de_name 2) da_nil)) sc_agreed.nd)
    (dss_cons (ds_for (di_zip W.n_zip (df_cons (de_name 0) (df_cons (de_name 1) df_nil))) (dg_tup (dg_cons (dg_name (i := 4) sc_agreed.nd) (dg_cons (dg_name (i := 5) sc_agreed.nd) dg_nil))) (dss_kil (is := [4, 5]) (dss_one (ds_if (dt_not (dt_val (de_call (ok_is_name W) ar_is_name hgd (hr.mono (by decide)) W.m_is_name W.p_is_name.kp W.b_is_name (da_cons (de_name 4) da_nil)))) (dss_one (ds_if (dw_or (dt_val (de_call (ok_is_name W) ar_is_name hgd (hr.mono (by decide)) W.m_is_name W.p_is_name.kp W.b_is_name (da_cons (de_name 5) da_nil))) (dw_or1 (dt_cmp o_ne (op_neD hu64) (de_name 4) (de_name 5)))).pt (dss_one (ds_ret de_none)) dss_nil)) (dss_one (ds_if (dt_cmp o_ne (op_neD hu64) (de_sd (de_name 4) (de_name 5)) (de_name 5)) (dss_one (ds_ret de_none)) dss_nil))))))
    (dss_one (ds_ret (de_name 3)))))
theorem ok_led_into_ (W : Wd K mg) : ∀ n, FnG P w K mg base CX0 (2 + n) W.a_led_into W.d_led_into ["atoms", "goals", "led"] (spD ⟨K, w⟩ 3 (F_led_into_ n))
  | 0 => fn_none rfl
  | n + 1 => by
    have ih := ok_led_into_ W n
    have ar := ar_led_into_ n
    refine fn_ok W.p_led_into sc_led_into (k := 2 + n) fun cdv A outer s H E hgd hr => ?_
    have hu := DV.hu_of hr
    have hu64 := DV.hu64_of hr
    have hu70 := DV.hu70_of hr
    have hr0 := hr
    replace hr := hr0
    exact (dss_cons (ds_if (dt_cmp o_eq (op_eqD hu64) (de_name 0) (de_lst df_nil)) (dss_one (ds_ret (de_name 2))) dss_nil)
    (dss_cons (ds_asg (de_ix hu (de_name 0) de_int) (dg_tup (dg_cons (dg_name (i := 3) sc_led_into.nd) (dg_cons (dg_name (i := 4) sc_led_into.nd) dg_nil))))
    (dss_cons (ds_for (di_seq (de_name 1)) (dg_tup (dg_cons (dg_name (i := 5) sc_led_into.nd) (dg_cons (dg_name (i := 6) sc_led_into.nd) dg_nil))) (dss_kil (is := [5, 6, 7, 8]) (dss_one (ds_if (dt_cmp o_eq (op_eqD hu64) (de_name 5) (de_name 3)) (dss_cons (ds_set (i := 7) (de_call (ok_agreed W) ar_agreed hgd (hr.mono (by omega)) W.m_agreed W.p_agreed.kp W.b_agreed (da_cons (de_name 4) (da_cons (de_name 6) (da_cons (de_name 2) da_nil)))) sc_led_into.nd)
    (dss_cons (ds_set (i := 8) (de_if (dt_cmp o_isnt op_notN (de_name 7) de_none) (de_call ih ar hgd hr W.m_led_into W.p_led_into.kp W.b_led_into (da_cons (de_slc2 (de_name 0) (do_some de_int) do_none) (da_cons (de_name 1) (da_cons (de_gv (de_name 7)) da_nil)))) de_none) sc_led_into.nd)
    (dss_one (ds_if (dt_cmp o_isnt op_notN (de_name 8) de_none) (dss_one (ds_ret (de_name 8))) dss_nil)))) dss_nil))))
    (dss_one (ds_ret de_none)))))
theorem ok_led_into (W : Wd K mg) : FnG P w K mg base CX0 14 W.a_led_into W.d_led_into ["atoms", "goals", "led"] (spD ⟨K, w⟩ 3 F_led_into) := ok_led_into_ W 12
theorem ok_map_into (W : Wd K mg) : FnG P w K mg base CX0 16 W.a_map_into W.d_map_into ["question", "goals", "head"] (spD ⟨K, w⟩ 3 F_map_into) :=
  fn_ok W.p_map_into sc_map_into (k := 15) fun cdv A outer s H E hgd hr => by
    have hu := DV.hu_of hr
    have hu64 := DV.hu64_of hr
    have hu70 := DV.hu70_of hr
    exact (dss_cons (ds_set (i := 3) (de_call (ok_agreed W) ar_agreed hgd (hr.mono (by decide)) W.m_agreed W.p_agreed.kp W.b_agreed (da_cons (de_ix hu (de_name 0) de_int) (da_cons (de_name 2) (da_cons de_dnew da_nil)))) sc_map_into.nd)
    (dss_one (ds_ret (de_if (dt_cmp o_is op_isN (de_name 3) de_none) de_none (de_call (ok_led_into W) ar_led_into hgd (hr.mono (by decide)) W.m_led_into W.p_led_into.kp W.b_led_into (da_cons (de_ty (cr_listA rfl) o_listA boot_list W.n_list (da_cons (de_ix hu (de_name 0) de_int) da_nil)) (da_cons (de_name 1) (da_cons (de_gv (de_name 3)) da_nil))))))))
theorem ok_fold_of (W : Wd K mg) : FnG P w K mg base CX0 17 W.a_fold_of W.d_fold_of ["question"] (spD ⟨K, w⟩ 1 F_fold_of) :=
  fn_ok W.p_fold_of sc_fold_of (k := 16) fun cdv A outer s H E hgd hr => by
    have hu := DV.hu_of hr
    have hu64 := DV.hu64_of hr
    have hu70 := DV.hu70_of hr
    exact (dss_cons (ds_set (i := 1) (de_call (ok_unlike_ones W) ar_unlike_ones hgd (hr.mono (by decide)) W.m_unlike_ones W.p_unlike_ones.kp W.b_unlike_ones (da_cons (de_ix hu (de_name 0) de_int) da_nil)) sc_fold_of.nd)
    (dss_cons (ds_for (di_seq (de_name 1)) (dg_name (i := 2) sc_fold_of.nd) (dss_kil (is := [2, 3]) (dss_cons (ds_set (i := 3) (de_call (ok_map_into W) ar_map_into hgd (hr.mono (by decide)) W.m_map_into W.p_map_into.kp W.b_map_into (da_cons (de_name 0) (da_cons (de_lc (own := [("atom", 4)]) (di_seq (de_name 1)) sc_fold_of.nd (blkOk_by (show blkC N_fold_of (defScope s_fold_of) _ [("atom", 4)] = true by decide +kernel)) (fun _ _ _ _ _ => (dg_name (i := 4) sc_fold_of.nd)) (fun _ _ _ _ _ => (dts_one (dt_cmp o_ne (op_neD hu64) (de_name 4) (de_name 2)))) (fun _ _ _ _ _ => (de_name 4))) (da_cons (de_ix hu (de_name 0) de_int) da_nil)))) sc_fold_of.nd)
    (dss_one (ds_if (dt_cmp o_isnt op_notN (de_name 3) de_none) (dss_one (ds_ret (de_name 3))) dss_nil)))))
    (dss_one (ds_ret de_none))))
theorem ok_is_row (W : Wd K mg) : FnG P w K mg base CX0 1 W.a_is_row W.d_is_row ["value", "many"] (spD ⟨K, w⟩ 2 F_is_row) :=
  fn_ok W.p_is_row sc_is_row (k := 0) fun cdv A outer s H E hgd hr => by
    have hu := DV.hu_of hr
    have hu64 := DV.hu64_of hr
    have hu70 := DV.hu70_of hr
    exact (dss_one (ds_ret (de_and (de_isi (de_name 0) boot_tuple W.n_isinstance W.n_tuple) (de_one (de_cmp o_eq (op_eqD hu64) (de_blt call_lenA o_len boot_len W.n_len (da_cons (de_name 0) da_nil)) (de_name 1))))))
theorem ok_is_word (W : Wd K mg) : FnG P w K mg base CX0 1 W.a_is_word W.d_is_word ["value"] (spD ⟨K, w⟩ 1 F_is_word) :=
  fn_ok W.p_is_word sc_is_word (k := 0) fun cdv A outer s H E hgd hr => by
    have hu := DV.hu_of hr
    have hu64 := DV.hu64_of hr
    have hu70 := DV.hu70_of hr
    exact (dss_cons (ds_if (dw_or (dt_not (dt_val (de_isi (de_name 0) boot_str W.n_isinstance W.n_str))) (dw_or (dt_not (dt_chn o_cmp op_le o_cmp op_le de_int (de_blt call_lenA o_len boot_len W.n_len (da_cons (de_name 0) da_nil)) (de_gint (by rfl) W.c_MOST_WORD.choose_spec ⟨_, rfl⟩))) (dw_or1 (dt_cmp o_notIn (op_notInA hu) (de_ix hu (de_name 0) de_int) (de_gstr (by rfl) W.c_CAPITALS.choose_spec ⟨_, rfl⟩))))).pt (dss_one (ds_ret de_bool)) dss_nil)
    (dss_one (ds_ret (de_blt (cr_all rfl) o_all boot_all W.n_all (da_cons (de_lc (own := [("sign", 1)]) (di_seq (de_name 0)) sc_is_word.nd (blkOk_by (show blkC N_is_word (defScope s_is_word) _ [("sign", 1)] = true by decide +kernel)) (fun _ _ _ _ _ => (dg_name (i := 1) sc_is_word.nd)) (fun _ _ _ _ _ => dts_nil) (fun _ _ _ _ _ => (de_or (de_cmp o_in (op_inA hu) (de_name 1) (de_gstr (by rfl) W.c_SMALL.choose_spec ⟨_, rfl⟩)) (de_or (de_cmp o_in (op_inA hu) (de_name 1) (de_gstr (by rfl) W.c_CAPITALS.choose_spec ⟨_, rfl⟩)) (de_one (de_cmp o_in (op_inA hu) (de_name 1) (de_gstr (by rfl) W.c_DIGITS.choose_spec ⟨_, rfl⟩))))))) da_nil)))))
theorem ok_is_integer (W : Wd K mg) : FnG P w K mg base CX0 1 W.a_is_integer W.d_is_integer ["value"] (spD ⟨K, w⟩ 1 F_is_integer) :=
  fn_ok W.p_is_integer sc_is_integer (k := 0) fun cdv A outer s H E hgd hr => by
    have hu := DV.hu_of hr
    have hu64 := DV.hu64_of hr
    have hu70 := DV.hu70_of hr
    exact (dss_one (ds_ret (de_and (de_isi (de_name 0) boot_int W.n_isinstance W.n_int) (de_one (de_not (de_isi (de_name 0) boot_bool W.n_isinstance W.n_bool))))))
theorem ok_is_value (W : Wd K mg) : FnG P w K mg base CX0 2 W.a_is_value W.d_is_value ["value"] (spD ⟨K, w⟩ 1 F_is_value) :=
  fn_ok W.p_is_value sc_is_value (k := 1) fun cdv A outer s H E hgd hr => by
    have hu := DV.hu_of hr
    have hu64 := DV.hu64_of hr
    have hu70 := DV.hu70_of hr
    exact (dss_one (ds_ret (de_or (de_call (ok_is_word W) ar_is_word hgd (hr.mono (by decide)) W.m_is_word W.p_is_word.kp W.b_is_word (da_cons (de_name 0) da_nil)) (de_one (de_and (de_call (ok_is_integer W) ar_is_integer hgd (hr.mono (by decide)) W.m_is_integer W.p_is_integer.kp W.b_is_integer (da_cons (de_name 0) da_nil)) (de_one (de_cmp o_lt (op_ltA hu) (de_blt call_abs o_abs boot_abs W.n_abs (da_cons (de_name 0) da_nil)) (de_gint (by rfl) W.c_MOST_VALUE.choose_spec ⟨_, rfl⟩))))))))
theorem ok_is_term (W : Wd K mg) : FnG P w K mg base CX0 3 W.a_is_term W.d_is_term ["value"] (spD ⟨K, w⟩ 1 F_is_term) :=
  fn_ok W.p_is_term sc_is_term (k := 2) fun cdv A outer s H E hgd hr => by
    have hu := DV.hu_of hr
    have hu64 := DV.hu64_of hr
    have hu70 := DV.hu70_of hr
    exact (dss_one (ds_ret (de_or (de_call (ok_is_name W) ar_is_name hgd (hr.mono (by decide)) W.m_is_name W.p_is_name.kp W.b_is_name (da_cons (de_name 0) da_nil)) (de_one (de_call (ok_is_value W) ar_is_value hgd (hr.mono (by decide)) W.m_is_value W.p_is_value.kp W.b_is_value (da_cons (de_name 0) da_nil))))))
theorem ok_is_terms (W : Wd K mg) : FnG P w K mg base CX0 4 W.a_is_terms W.d_is_terms ["value", "least", "most"] (spD ⟨K, w⟩ 3 F_is_terms) :=
  fn_ok W.p_is_terms sc_is_terms (k := 3) fun cdv A outer s H E hgd hr => by
    have hu := DV.hu_of hr
    have hu64 := DV.hu64_of hr
    have hu70 := DV.hu70_of hr
    exact (dss_one (ds_ret (de_and (de_isi (de_name 0) boot_tuple W.n_isinstance W.n_tuple) (de_and (de_chn o_cmp op_le o_cmp op_le (de_name 1) (de_blt call_lenA o_len boot_len W.n_len (da_cons (de_name 0) da_nil)) (de_name 2)) (de_one (de_blt (cr_all rfl) o_all boot_all W.n_all (da_cons (de_lc (own := [("term", 3)]) (di_seq (de_name 0)) sc_is_terms.nd (blkOk_by (show blkC N_is_terms (defScope s_is_terms) _ [("term", 3)] = true by decide +kernel)) (fun _ _ _ _ _ => (dg_name (i := 3) sc_is_terms.nd)) (fun _ _ _ _ _ => dts_nil) (fun _ _ _ _ _ => (de_call (ok_is_term W) ar_is_term hgd (hr.mono (by decide)) W.m_is_term W.p_is_term.kp W.b_is_term (da_cons (de_name 3) da_nil)))) da_nil)))))))
theorem ok_is_atom (W : Wd K mg) : FnG P w K mg base CX0 5 W.a_is_atom W.d_is_atom ["value"] (spD ⟨K, w⟩ 1 F_is_atom) :=
  fn_ok W.p_is_atom sc_is_atom (k := 4) fun cdv A outer s H E hgd hr => by
    have hu := DV.hu_of hr
    have hu64 := DV.hu64_of hr
    have hu70 := DV.hu70_of hr
    exact (dss_one (ds_ret (de_and (de_call (ok_is_row W) ar_is_row hgd (hr.mono (by decide)) W.m_is_row W.p_is_row.kp W.b_is_row (da_cons (de_name 0) (da_cons de_int da_nil))) (de_and (de_call (ok_is_word W) ar_is_word hgd (hr.mono (by decide)) W.m_is_word W.p_is_word.kp W.b_is_word (da_cons (de_ix hu (de_name 0) de_int) da_nil)) (de_one (de_call (ok_is_terms W) ar_is_terms hgd (hr.mono (by decide)) W.m_is_terms W.p_is_terms.kp W.b_is_terms (da_cons (de_ix hu (de_name 0) de_int) (da_cons de_int (da_cons (de_gint (by rfl) W.c_MOST_TERMS.choose_spec ⟨_, rfl⟩) da_nil)))))))))
theorem ok_names_in (W : Wd K mg) : FnG P w K mg base CX0 2 W.a_names_in W.d_names_in ["atoms"] (spD ⟨K, w⟩ 1 F_names_in) :=
  fn_ok W.p_names_in sc_names_in (k := 1) fun cdv A outer s H E hgd hr => by
    have hu := DV.hu_of hr
    have hu64 := DV.hu64_of hr
    have hu70 := DV.hu70_of hr
    exact (dss_cons (ds_set (i := 1) (de_lst df_nil) sc_names_in.nd)
    (dss_cons (ds_for (di_seq (de_name 0)) (dg_tup (dg_cons (dg_name (i := 2) sc_names_in.nd) (dg_cons (dg_name (i := 3) sc_names_in.nd) dg_nil))) (dss_kil (is := [2, 3]) (dss_one (ds_expr (de_ext (de_lc (own := [("term", 4)]) (di_seq (de_name 3)) sc_names_in.nd (blkOk_by (show blkC N_names_in (defScope s_names_in) _ [("term", 4)] = true by decide +kernel)) (fun _ _ _ _ _ => (dg_name (i := 4) sc_names_in.nd)) (fun _ _ _ _ _ => (dts_one (dt_val (de_call (ok_is_name W) ar_is_name hgd (hr.mono (by decide)) W.m_is_name W.p_is_name.kp W.b_is_name (da_cons (de_name 4) da_nil))))) (fun _ _ _ _ _ => (de_name 4))))))))
    (dss_one (ds_ret (de_sset (de_name 1) W.n_sorted W.n_set)))))
theorem ok_unlike_table (W : Wd K mg) : FnG P w K mg base CX0 1 W.a_unlike_table W.d_unlike_table ["atoms"] (spD ⟨K, w⟩ 1 F_unlike_table) :=
  fn_ok W.p_unlike_table sc_unlike_table (k := 0) fun cdv A outer s H E hgd hr => by
    have hu := DV.hu_of hr
    have hu64 := DV.hu64_of hr
    have hu70 := DV.hu70_of hr
    exact (dss_cons (ds_par (i := 1) (j := 2) de_dnew (de_lst df_nil) sc_unlike_table.nd)
    (dss_cons (ds_for (di_seq (de_name 0)) (dg_tup (dg_cons (dg_name (i := 3) sc_unlike_table.nd) (dg_cons (dg_name (i := 4) sc_unlike_table.nd) dg_nil))) (dss_kil (is := [3, 4]) (dss_one (ds_if (dt_cmp o_ne (op_neD hu64) (de_sd (de_name 3) (de_blt call_lenA o_len boot_len W.n_len (da_cons (de_name 4) da_nil))) (de_blt call_lenA o_len boot_len W.n_len (da_cons (de_name 4) da_nil))) (dss_one (ds_expr (de_mt w_app mt_append PySem.F.plainAttrs_list PySem.F.slot_list_append PySem.F.type_list_append (df_cons (de_name 3) df_nil)))) dss_nil))))
    (dss_one (ds_ret (de_if (dt_cmp o_ne (op_neD hu64) (de_name 2) (de_lst df_nil)) (de_blt (cr_minDt rfl hu) o_min boot_min W.n_min (da_cons (de_name 2) da_nil)) de_none)))))
theorem ok_is_question_of (W : Wd K mg) : FnG P w K mg base CX0 6 W.a_is_question_of W.d_is_question_of ["value"] (spD ⟨K, w⟩ 1 F_is_question_of) :=
  fn_ok W.p_is_question_of sc_is_question_of (k := 5) fun cdv A outer s H E hgd hr => by
    have hu := DV.hu_of hr
    have hu64 := DV.hu64_of hr
    have hu70 := DV.hu70_of hr
    exact (dss_cons (ds_if (dw_or (dt_not (dt_val (de_call (ok_is_row W) ar_is_row hgd (hr.mono (by decide)) W.m_is_row W.p_is_row.kp W.b_is_row (da_cons (de_name 0) (da_cons de_int da_nil))))) (dw_or (dt_cmp o_ne (op_neD hu64) (de_ix hu (de_name 0) de_int) (de_gstr (by rfl) W.c_ASK.choose_spec ⟨_, rfl⟩)) (dw_or1 (dt_not (dt_val (de_call (ok_is_terms W) ar_is_terms hgd (hr.mono (by decide)) W.m_is_terms W.p_is_terms.kp W.b_is_terms (da_cons (de_ix hu (de_name 0) de_int) (da_cons de_int (da_cons (de_gint (by rfl) W.c_MOST_HEAD.choose_spec ⟨_, rfl⟩) da_nil))))))))).pt (dss_one (ds_ret de_bool)) dss_nil)
    (dss_cons (ds_if (dw_or (dt_not (dt_val (de_isi (de_ix hu (de_name 0) de_int) boot_tuple W.n_isinstance W.n_tuple))) (dw_or1 (dt_not (dt_chn o_cmp op_le o_cmp op_le de_int (de_blt call_lenA o_len boot_len W.n_len (da_cons (de_ix hu (de_name 0) de_int) da_nil)) (de_gint (by rfl) W.c_MOST_ATOMS.choose_spec ⟨_, rfl⟩))))).pt (dss_one (ds_ret de_bool)) dss_nil)
    (dss_cons (ds_if (dt_not (dt_val (de_blt (cr_all rfl) o_all boot_all W.n_all (da_cons (de_lc (own := [("atom", 2)]) (di_seq (de_ix hu (de_name 0) de_int)) sc_is_question_of.nd (blkOk_by (show blkC N_is_question_of (defScope s_is_question_of) _ [("atom", 2)] = true by decide +kernel)) (fun _ _ _ _ _ => (dg_name (i := 2) sc_is_question_of.nd)) (fun _ _ _ _ _ => dts_nil) (fun _ _ _ _ _ => (de_call (ok_is_atom W) ar_is_atom hgd (hr.mono (by decide)) W.m_is_atom W.p_is_atom.kp W.b_is_atom (da_cons (de_name 2) da_nil)))) da_nil)))) (dss_one (ds_ret de_bool)) dss_nil)
    (dss_cons (ds_set (i := 1) (de_call (ok_names_in W) ar_names_in hgd (hr.mono (by decide)) W.m_names_in W.p_names_in.kp W.b_names_in (da_cons (de_ix hu (de_name 0) de_int) da_nil)) sc_is_question_of.nd)
    (dss_one (ds_ret (de_and (de_cmp o_is op_isN (de_call (ok_unlike_table W) ar_unlike_table hgd (hr.mono (by decide)) W.m_unlike_table W.p_unlike_table.kp W.b_unlike_table (da_cons (de_ix hu (de_name 0) de_int) da_nil)) de_none) (de_one (de_blt (cr_all rfl) o_all boot_all W.n_all (da_cons (de_lc (own := [("term", 3)]) (di_seq (de_ix hu (de_name 0) de_int)) sc_is_question_of.nd (blkOk_by (show blkC N_is_question_of (defScope s_is_question_of) _ [("term", 3)] = true by decide +kernel)) (fun _ _ _ _ _ => (dg_name (i := 3) sc_is_question_of.nd)) (fun _ _ _ _ _ => (dts_one (dt_val (de_call (ok_is_name W) ar_is_name hgd (hr.mono (by decide)) W.m_is_name W.p_is_name.kp W.b_is_name (da_cons (de_name 3) da_nil))))) (fun _ _ _ _ _ => (de_cmp o_in (op_inA hu) (de_name 3) (de_name 1)))) da_nil))))))))))
theorem ok_want_question (W : Wd K mg) : FnG P w K mg base CX0 7 W.a_want_question W.d_want_question ["value"] (spD ⟨K, w⟩ 1 F_want_question) :=
  fn_ok W.p_want_question sc_want_question (k := 6) fun cdv A outer s H E hgd hr => by
    have hu := DV.hu_of hr
    have hu64 := DV.hu64_of hr
    have hu70 := DV.hu70_of hr
    exact (dss_cons (ds_if (dt_not (dt_val (de_call (ok_is_question_of W) ar_is_question_of hgd (hr.mono (by decide)) W.m_is_question_of W.p_is_question_of.kp W.b_is_question_of (da_cons (de_name 0) da_nil)))) (dss_one ds_no) dss_nil)
    (dss_one (ds_ret (de_name 0))))
theorem ok_told_map (W : Wd K mg) : FnG P w K mg base CX0 1 W.a_told_map W.d_told_map ["led"] (spD ⟨K, w⟩ 1 F_told_map) :=
  fn_ok W.p_told_map sc_told_map (k := 0) fun cdv A outer s H E hgd hr => by
    have hu := DV.hu_of hr
    have hu64 := DV.hu64_of hr
    have hu70 := DV.hu70_of hr
    exact (dss_one (ds_ret (de_ty call_tupleZ o_tuple boot_tuple W.n_tuple (da_cons (de_sit rfl (de_name 0) W.n_sorted) da_nil))))
theorem ok_fold (W : Wd K mg) : FnG P w K mg base CX0 18 W.a_fold W.d_fold ["question"] (spD ⟨K, w⟩ 1 F_fold) :=
  fn_ok W.p_fold sc_fold (k := 17) fun cdv A outer s H E hgd hr => by
    have hu := DV.hu_of hr
    have hu64 := DV.hu64_of hr
    have hu70 := DV.hu70_of hr
    exact (dss_cons (ds_set (i := 1) (de_call (ok_fold_of W) ar_fold_of hgd (hr.mono (by decide)) W.m_fold_of W.p_fold_of.kp W.b_fold_of (da_cons (de_call (ok_want_question W) ar_want_question hgd (hr.mono (by decide)) W.m_want_question W.p_want_question.kp W.b_want_question (da_cons (de_gv (de_name 0)) da_nil)) da_nil)) sc_fold.nd)
    (dss_one (ds_ret (de_if (dt_cmp o_is op_isN (de_name 1) de_none) de_none (de_call (ok_told_map W) ar_told_map hgd (hr.mono (by decide)) W.m_told_map W.p_told_map.kp W.b_told_map (da_cons (de_name 1) da_nil))))))
theorem ok_u_law_is_name (W : Wd K mg) : FnG P w K mg base CX0 1 W.a_u_law_is_name W.d_u_law_is_name ["term"] (spD ⟨K, w⟩ 1 F_u_law_is_name) :=
  fn_ok W.p_u_law_is_name sc_u_law_is_name (k := 0) fun cdv A outer s H E hgd hr => by
    have hu := DV.hu_of hr
    have hu64 := DV.hu64_of hr
    have hu70 := DV.hu70_of hr
    exact (dss_one (ds_ret (de_and (de_isi (de_name 0) boot_str W.n_isinstance W.n_str) (de_one (de_cmp o_in (op_inA hu) (de_ix hu (de_name 0) de_int) de_str)))))
theorem ok_u_law_fits (W : Wd K mg) : FnG P w K mg base CX0 2 W.a_u_law_fits W.d_u_law_fits ["terms", "goal", "led"] (spD ⟨K, w⟩ 3 F_u_law_fits) :=
  fn_ok W.p_u_law_fits sc_u_law_fits (k := 1) fun cdv A outer s H E hgd hr => by
    have hu := DV.hu_of hr
    have hu64 := DV.hu64_of hr
    have hu70 := DV.hu70_of hr
    exact (dss_cons (ds_set (i := 3) (de_ty (cr_dict rfl) o_dict boot_dict W.n_dict (da_cons (de_name 2) da_nil)) sc_u_law_fits.nd)
    (dss_cons (ds_for (di_zip W.n_zip (df_cons (de_name 0) (df_cons (de_name 1) df_nil))) (dg_tup (dg_cons (dg_name (i := 4) sc_u_law_fits.nd) (dg_cons (dg_name (i := 5) sc_u_law_fits.nd) dg_nil))) (dss_kil (is := [4, 5]) (dss_one (ds_if (dt_not (dt_val (de_call (ok_u_law_is_name W) ar_u_law_is_name hgd (hr.mono (by decide)) W.m_u_law_is_name W.p_u_law_is_name.kp W.b_u_law_is_name (da_cons (de_name 4) da_nil)))) (dss_one (ds_if (dt_cmp o_ne (op_neD hu64) (de_blt (cr_reprA hgd hu70) o_reprA boot_repr W.n_repr (da_cons (de_name 4) da_nil)) (de_blt (cr_reprA hgd hu70) o_reprA boot_repr W.n_repr (da_cons (de_name 5) da_nil))) (dss_one (ds_ret de_none)) dss_nil)) (dss_one (ds_if (dt_cmp o_ne (op_neD hu64) (de_blt (cr_reprA hgd hu70) o_reprA boot_repr W.n_repr (da_cons (de_get2 hu (de_name 3) (de_name 4) (de_name 5)) da_nil)) (de_blt (cr_reprA hgd hu70) o_reprA boot_repr W.n_repr (da_cons (de_name 5) da_nil))) (dss_one (ds_ret de_none)) (dss_one (ds_put (i := 3) hu (de_name 4) (de_name 5)))))))))
    (dss_one (ds_ret (de_name 3)))))
theorem ok_u_law_maps (W : Wd K mg) : FnG P w K mg base CX0 3 W.a_u_law_maps W.d_u_law_maps ["question", "goals", "head"] (spD ⟨K, w⟩ 3 F_u_law_maps) :=
  fn_ok W.p_u_law_maps sc_u_law_maps (k := 2) fun cdv A outer s H E hgd hr => by
    have hu := DV.hu_of hr
    have hu64 := DV.hu64_of hr
    have hu70 := DV.hu70_of hr
    exact (dss_cons (ds_set (i := 3) (de_call (ok_u_law_fits W) ar_u_law_fits hgd (hr.mono (by decide)) W.m_u_law_fits W.p_u_law_fits.kp W.b_u_law_fits (da_cons (de_ix hu (de_name 0) de_int) (da_cons (de_name 2) (da_cons de_dnew da_nil)))) sc_u_law_maps.nd)
    (dss_cons (ds_set (i := 4) (de_if (dt_cmp o_is op_isN (de_name 3) de_none) (de_lst df_nil) (de_lst (df_cons (de_name 3) df_nil))) sc_u_law_maps.nd)
    (dss_cons (ds_for (di_seq (de_ix hu (de_name 0) de_int)) (dg_tup (dg_cons (dg_name (i := 5) sc_u_law_maps.nd) (dg_cons (dg_name (i := 6) sc_u_law_maps.nd) dg_nil))) (dss_kil (is := [5, 6, 7, 8, 9, 10, 11]) (dss_cons (ds_set (i := 7) (de_lst df_nil) sc_u_law_maps.nd)
    (dss_cons (ds_for (di_seq (de_name 4)) (dg_name (i := 8) sc_u_law_maps.nd) (dss_kil (is := [8, 9, 10, 11]) (dss_one (ds_for (di_seq (de_name 1)) (dg_tup (dg_cons (dg_name (i := 9) sc_u_law_maps.nd) (dg_cons (dg_name (i := 10) sc_u_law_maps.nd) dg_nil))) (dss_kil (is := [9, 10, 11]) (dss_cons (ds_set (i := 11) (de_if (dt_cmp o_eq (op_eqD hu64) (de_name 9) (de_name 5)) (de_call (ok_u_law_fits W) ar_u_law_fits hgd (hr.mono (by decide)) W.m_u_law_fits W.p_u_law_fits.kp W.b_u_law_fits (da_cons (de_name 6) (da_cons (de_name 10) (da_cons (de_name 8) da_nil)))) de_none) sc_u_law_maps.nd)
    (dss_one (ds_if (dw_and (dt_cmp o_isnt op_notN (de_name 11) de_none) (dw_and1 (dt_cmp (o_hasD true) (op_notHasD hu) (de_name 11) (de_name 7)))).pt (dss_one (ds_expr (de_mt w_app mt_append PySem.F.plainAttrs_list PySem.F.slot_list_append PySem.F.type_list_append (df_cons (de_name 11) df_nil)))) dss_nil))))))))
    (dss_one (ds_set (i := 4) (de_name 7) sc_u_law_maps.nd))))))
    (dss_one (ds_ret (de_name 4))))))
theorem ok_u_law_unlike (W : Wd K mg) : FnG P w K mg base CX0 1 W.a_u_law_unlike W.d_u_law_unlike ["items"] (spD ⟨K, w⟩ 1 F_u_law_unlike) :=
  fn_ok W.p_u_law_unlike sc_u_law_unlike (k := 0) fun cdv A outer s H E hgd hr => by
    have hu := DV.hu_of hr
    have hu64 := DV.hu64_of hr
    have hu70 := DV.hu70_of hr
    exact (dss_cons (ds_set (i := 1) (de_lst df_nil) sc_u_law_unlike.nd)
    (dss_cons (ds_for (di_seq (de_name 0)) (dg_name (i := 2) sc_u_law_unlike.nd) (dss_kil (is := [2]) (dss_one (ds_if (dt_cmp o_notIn (op_notInA hu) (de_name 2) (de_name 1)) (dss_one (ds_expr (de_mt w_app mt_append PySem.F.plainAttrs_list PySem.F.slot_list_append PySem.F.type_list_append (df_cons (de_name 2) df_nil)))) dss_nil))))
    (dss_one (ds_ret (de_name 1)))))
theorem ok_u_law_names (W : Wd K mg) : FnG P w K mg base CX0 2 W.a_u_law_names W.d_u_law_names ["question"] (spD ⟨K, w⟩ 1 F_u_law_names) :=
  fn_ok W.p_u_law_names sc_u_law_names (k := 1) fun cdv A outer s H E hgd hr => by
    have hu := DV.hu_of hr
    have hu64 := DV.hu64_of hr
    have hu70 := DV.hu70_of hr
    exact (dss_cons (ds_set (i := 1) (de_lst df_nil) sc_u_law_names.nd)
    (dss_cons (ds_for (di_seq (de_ix hu (de_name 0) de_int)) (dg_tup (dg_cons (dg_name (i := 2) sc_u_law_names.nd) (dg_cons (dg_name (i := 3) sc_u_law_names.nd) dg_nil))) (dss_kil (is := [2, 3]) (dss_one (ds_expr (de_ext (de_lc (own := [("term", 4)]) (di_seq (de_name 3)) sc_u_law_names.nd (blkOk_by (show blkC N_u_law_names (defScope s_u_law_names) _ [("term", 4)] = true by decide +kernel)) (fun _ _ _ _ _ => (dg_name (i := 4) sc_u_law_names.nd)) (fun _ _ _ _ _ => (dts_one (dt_val (de_call (ok_u_law_is_name W) ar_u_law_is_name hgd (hr.mono (by decide)) W.m_u_law_is_name W.p_u_law_is_name.kp W.b_u_law_is_name (da_cons (de_name 4) da_nil))))) (fun _ _ _ _ _ => (de_name 4))))))))
    (dss_one (ds_ret (de_sset (de_name 1) W.n_sorted W.n_set)))))
theorem ok_u_law_told_map (W : Wd K mg) : FnG P w K mg base CX0 3 W.a_u_law_told_map W.d_u_law_told_map ["question", "led"] (spD ⟨K, w⟩ 2 F_u_law_told_map) :=
  fn_ok W.p_u_law_told_map sc_u_law_told_map (k := 2) fun cdv A outer s H E hgd hr => by
    have hu := DV.hu_of hr
    have hu64 := DV.hu64_of hr
    have hu70 := DV.hu70_of hr
    exact (dss_one (ds_ret (de_ty call_tupleZ o_tuple boot_tuple W.n_tuple (da_cons (de_lc (own := [("name", 2)]) (di_seq (de_call (ok_u_law_names W) ar_u_law_names hgd (hr.mono (by decide)) W.m_u_law_names W.p_u_law_names.kp W.b_u_law_names (da_cons (de_name 0) da_nil))) sc_u_law_told_map.nd (blkOk_by (show blkC N_u_law_told_map (defScope s_u_law_told_map) _ [("name", 2)] = true by decide +kernel)) (fun _ _ _ _ _ => (dg_name (i := 2) sc_u_law_told_map.nd)) (fun _ _ _ _ _ => dts_nil) (fun _ _ _ _ _ => (de_tup (df_cons (de_name 2) (df_cons (de_ix hu (de_name 1) (de_name 2)) df_nil))))) da_nil))))
theorem ok_u_law_bent (W : Wd K mg) : FnG P w K mg base CX0 2 W.a_u_law_bent W.d_u_law_bent ["pot", "value"] (spD ⟨K, w⟩ 2 F_u_law_bent) :=
  fn_ok W.p_u_law_bent sc_u_law_bent (k := 1) fun cdv A outer s H E hgd hr => by
    have hu := DV.hu_of hr
    have hu64 := DV.hu64_of hr
    have hu70 := DV.hu70_of hr
    exact (dss_cons (ds_set (i := 2) (de_lst (df_cons de_none (df_cons de_int (df_cons (de_tup df_nil) (df_cons de_dnew (df_cons (de_ty (cr_listA rfl) o_listA boot_list W.n_list (da_cons (de_name 1) da_nil)) (df_cons (de_slc2 (de_name 1) (do_some de_int) do_none) (df_cons (de_op o_add op_addA (de_name 1) (de_slc2 (de_name 1) do_none (do_some de_int))) (df_cons (de_rev2 (de_name 1)) (df_cons (de_ty (cr_dict rfl) o_dict boot_dict W.n_dict (da_cons (de_name 1) da_nil)) df_nil)))))))))) sc_u_law_bent.nd)
    (dss_cons (ds_if (dt_cmp o_ne (op_neD hu64) (de_name 1) (de_tup df_nil)) (dss_cons (ds_set (i := 3) (de_call (ok_u_law_draw W) ar_u_law_draw hgd (hr.mono (by decide)) W.m_u_law_draw W.p_u_law_draw.kp W.b_u_law_draw (da_cons (de_name 0) (da_cons (de_blt call_lenA o_len boot_len W.n_len (da_cons (de_name 1) da_nil)) da_nil))) sc_u_law_bent.nd)
    (dss_cons (ds_asg (de_ix hu (de_name 1) (de_name 3)) (dg_tup (dg_cons (dg_name (i := 4) sc_u_law_bent.nd) (dg_cons (dg_name (i := 5) sc_u_law_bent.nd) dg_nil))))
    (dss_cons (ds_set (i := 6) (de_op o_add op_addA (de_lc (own := [("one", 7)]) (di_seq (de_lst (df_cons de_str (df_cons de_str (df_cons de_str (df_cons de_str (df_cons de_int (df_cons de_int (df_cons de_str (df_cons de_str (df_cons de_none (df_cons de_bool (df_cons de_str (df_cons de_str df_nil)))))))))))))) sc_u_law_bent.nd (blkOk_by (show blkC N_u_law_bent (defScope s_u_law_bent) _ [("one", 7)] = true by decide +kernel)) (fun _ _ _ _ _ => (dg_name (i := 7) sc_u_law_bent.nd)) (fun _ _ _ _ _ => dts_nil) (fun _ _ _ _ _ => (de_tup (df_cons (de_name 4) (df_cons (de_name 7) df_nil))))) (de_lst (df_cons (de_tup (df_cons (de_name 4) df_nil)) (df_cons (de_lst (df_cons (de_name 4) (df_cons (de_name 5) df_nil))) (df_cons (de_tup (df_cons (de_name 5) (df_cons (de_name 4) df_nil))) df_nil))))) sc_u_law_bent.nd)
    (dss_one (ds_expr (de_ext (de_lc (own := [("row", 8)]) (di_seq (de_name 6)) sc_u_law_bent.nd (blkOk_by (show blkC N_u_law_bent (defScope s_u_law_bent) _ [("row", 8)] = true by decide +kernel)) (fun _ _ _ _ _ => (dg_name (i := 8) sc_u_law_bent.nd)) (fun _ _ _ _ _ => dts_nil) (fun _ _ _ _ _ => (de_op o_add op_addA (de_op o_add op_addA (de_slc2 (de_name 1) do_none (do_some (de_name 3))) (de_tup (df_cons (de_name 8) df_nil))) (de_slc2 (de_name 1) (do_some (de_op o_add op_addA (de_name 3) de_int)) do_none)))))))))) dss_nil)
    (dss_one (ds_ret (de_name 2)))))
theorem ok_u_law_led (W : Wd K mg) : FnG P w K mg base CX0 2 W.a_u_law_led W.d_u_law_led ["terms", "led"] (spD ⟨K, w⟩ 2 F_u_law_led) :=
  fn_ok W.p_u_law_led sc_u_law_led (k := 1) fun cdv A outer s H E hgd hr => by
    have hu := DV.hu_of hr
    have hu64 := DV.hu64_of hr
    have hu70 := DV.hu70_of hr
    exact (dss_one (ds_ret (de_ty call_tupleZ o_tuple boot_tuple W.n_tuple (da_cons (de_lc (own := [("term", 2)]) (di_seq (de_name 0)) sc_u_law_led.nd (blkOk_by (show blkC N_u_law_led (defScope s_u_law_led) _ [("term", 2)] = true by decide +kernel)) (fun _ _ _ _ _ => (dg_name (i := 2) sc_u_law_led.nd)) (fun _ _ _ _ _ => dts_nil) (fun _ _ _ _ _ => (de_if (dt_val (de_call (ok_u_law_is_name W) ar_u_law_is_name hgd (hr.mono (by decide)) W.m_u_law_is_name W.p_u_law_is_name.kp W.b_u_law_is_name (da_cons (de_name 2) da_nil))) (de_ix hu (de_name 1) (de_name 2)) (de_name 2)))) da_nil))))
theorem ok_u_law_atoms (W : Wd K mg) : FnG P w K mg base CX0 3 W.a_u_law_atoms W.d_u_law_atoms ["question", "led"] (spD ⟨K, w⟩ 2 F_u_law_atoms) :=
  fn_ok W.p_u_law_atoms sc_u_law_atoms (k := 2) fun cdv A outer s H E hgd hr => by
    have hu := DV.hu_of hr
    have hu64 := DV.hu64_of hr
    have hu70 := DV.hu70_of hr
    exact (dss_one (ds_ret (de_lc (own := [("table", 2), ("terms", 3)]) (di_seq (de_ix hu (de_name 0) de_int)) sc_u_law_atoms.nd (blkOk_by (show blkC N_u_law_atoms (defScope s_u_law_atoms) _ [("table", 2), ("terms", 3)] = true by decide +kernel)) (fun _ _ _ _ _ => (dg_tup (dg_cons (dg_name (i := 2) sc_u_law_atoms.nd) (dg_cons (dg_name (i := 3) sc_u_law_atoms.nd) dg_nil)))) (fun _ _ _ _ _ => dts_nil) (fun _ _ _ _ _ => (de_tup (df_cons (de_name 2) (df_cons (de_call (ok_u_law_led W) ar_u_law_led hgd (hr.mono (by decide)) W.m_u_law_led W.p_u_law_led.kp W.b_u_law_led (da_cons (de_name 3) (da_cons (de_name 1) da_nil))) df_nil)))))))
theorem ok_u_law_map_of (W : Wd K mg) : FnG P w K mg base CX0 4 W.a_u_law_map_of W.d_u_law_map_of ["question", "goals", "head", "value"] (spD ⟨K, w⟩ 4 F_u_law_map_of) :=
  fn_ok W.p_u_law_map_of sc_u_law_map_of (k := 3) fun cdv A outer s H E hgd hr => by
    have hu := DV.hu_of hr
    have hu64 := DV.hu64_of hr
    have hu70 := DV.hu70_of hr
    exact (dss_cons (ds_set (i := 4) (de_call (ok_u_law_names W) ar_u_law_names hgd (hr.mono (by decide)) W.m_u_law_names W.p_u_law_names.kp W.b_u_law_names (da_cons (de_name 0) da_nil)) sc_u_law_map_of.nd)
    (dss_cons (ds_if (dw_or (dt_not (dt_val (de_isi (de_name 3) boot_tuple W.n_isinstance W.n_tuple))) (dw_or (dt_cmp o_ne (op_neD hu64) (de_lc (own := [("row", 9)]) (di_seq (de_name 3)) sc_u_law_map_of.nd (blkOk_by (show blkC N_u_law_map_of (defScope s_u_law_map_of) _ [("row", 9)] = true by decide +kernel)) (fun _ _ _ _ _ => (dg_name (i := 9) sc_u_law_map_of.nd)) (fun _ _ _ _ _ => (dts_one (dw_or (dt_not (dt_val (de_isi (de_name 9) boot_tuple W.n_isinstance W.n_tuple))) (dw_or1 (dt_cmp o_ne (op_neD hu64) (de_blt call_lenA o_len boot_len W.n_len (da_cons (de_name 9) da_nil)) de_int))).pt)) (fun _ _ _ _ _ => (de_name 9))) (de_lst df_nil)) (dw_or1 (dt_cmp o_ne (op_neD hu64) (de_lc (own := [("row", 9)]) (di_seq (de_name 3)) sc_u_law_map_of.nd (blkOk_by (show blkC N_u_law_map_of (defScope s_u_law_map_of) _ [("row", 9)] = true by decide +kernel)) (fun _ _ _ _ _ => (dg_name (i := 9) sc_u_law_map_of.nd)) (fun _ _ _ _ _ => dts_nil) (fun _ _ _ _ _ => (de_ix hu (de_name 9) de_int))) (de_name 4))))).pt (dss_one (ds_ret de_none)) dss_nil)
    (dss_cons (ds_set (i := 5) (de_ty (cr_dict rfl) o_dict boot_dict W.n_dict (da_cons (de_name 3) da_nil)) sc_u_law_map_of.nd)
    (dss_cons (ds_if (dt_cmp o_ne (op_neD hu64) (de_lc (own := [("name", 8)]) (di_seq (de_name 4)) sc_u_law_map_of.nd (blkOk_by (show blkC N_u_law_map_of (defScope s_u_law_map_of) _ [("name", 8)] = true by decide +kernel)) (fun _ _ _ _ _ => (dg_name (i := 8) sc_u_law_map_of.nd)) (fun _ _ _ _ _ => (dts_one (dw_or (dt_val (de_isi (de_ix hu (de_name 5) (de_name 8)) boot_bool W.n_isinstance W.n_bool)) (dw_or1 (dt_not (dt_val (de_isi2 (de_ix hu (de_name 5) (de_name 8)) boot_int boot_str W.n_isinstance W.n_int W.n_str))))).pt)) (fun _ _ _ _ _ => (de_name 8))) (de_lst df_nil)) (dss_one (ds_ret de_none)) dss_nil)
    (dss_cons (ds_if (dt_cmp o_ne (op_neD hu64) (de_blt (cr_reprA hgd hu70) o_reprA boot_repr W.n_repr (da_cons (de_call (ok_u_law_led W) ar_u_law_led hgd (hr.mono (by decide)) W.m_u_law_led W.p_u_law_led.kp W.b_u_law_led (da_cons (de_ix hu (de_name 0) de_int) (da_cons (de_name 5) da_nil))) da_nil)) (de_blt (cr_reprA hgd hu70) o_reprA boot_repr W.n_repr (da_cons (de_name 2) da_nil))) (dss_one (ds_ret de_none)) dss_nil)
    (dss_cons (ds_set (i := 6) (de_lc (own := [("atom", 7)]) (di_seq (de_name 1)) sc_u_law_map_of.nd (blkOk_by (show blkC N_u_law_map_of (defScope s_u_law_map_of) _ [("atom", 7)] = true by decide +kernel)) (fun _ _ _ _ _ => (dg_name (i := 7) sc_u_law_map_of.nd)) (fun _ _ _ _ _ => dts_nil) (fun _ _ _ _ _ => (de_blt (cr_reprA hgd hu70) o_reprA boot_repr W.n_repr (da_cons (de_name 7) da_nil)))) sc_u_law_map_of.nd)
    (dss_one (ds_ret (de_if (dt_cmp o_eq (op_eqD hu64) (de_lc (own := [("atom", 7)]) (di_seq (de_call (ok_u_law_atoms W) ar_u_law_atoms hgd (hr.mono (by decide)) W.m_u_law_atoms W.p_u_law_atoms.kp W.b_u_law_atoms (da_cons (de_name 0) (da_cons (de_name 5) da_nil)))) sc_u_law_map_of.nd (blkOk_by (show blkC N_u_law_map_of (defScope s_u_law_map_of) _ [("atom", 7)] = true by decide +kernel)) (fun _ _ _ _ _ => (dg_name (i := 7) sc_u_law_map_of.nd)) (fun _ _ _ _ _ => (dts_one (dt_cmp o_notIn (op_notInA hu) (de_blt (cr_reprA hgd hu70) o_reprA boot_repr W.n_repr (da_cons (de_name 7) da_nil)) (de_name 6)))) (fun _ _ _ _ _ => (de_name 7))) (de_lst df_nil)) (de_name 5) de_none)))))))))
theorem ok_u_law_is_fold (W : Wd K mg) : FnG P w K mg base CX0 5 W.a_u_law_is_fold W.d_u_law_is_fold ["question", "value"] (spD ⟨K, w⟩ 2 F_u_law_is_fold) :=
  fn_ok W.p_u_law_is_fold sc_u_law_is_fold (k := 4) fun cdv A outer s H E hgd hr => by
    have hu := DV.hu_of hr
    have hu64 := DV.hu64_of hr
    have hu70 := DV.hu70_of hr
    exact (dss_cons (ds_set (i := 2) (de_call (ok_u_law_map_of W) ar_u_law_map_of hgd (hr.mono (by decide)) W.m_u_law_map_of W.p_u_law_map_of.kp W.b_u_law_map_of (da_cons (de_name 0) (da_cons (de_ix hu (de_name 0) de_int) (da_cons (de_ix hu (de_name 0) de_int) (da_cons (de_name 1) da_nil))))) sc_u_law_is_fold.nd)
    (dss_one (ds_ret (de_and (de_cmp o_isnt op_notN (de_name 2) de_none) (de_one (de_cmp o_ne (op_neD hu64) (de_lc (own := [("atom", 3)]) (di_seq (de_ix hu (de_name 0) de_int)) sc_u_law_is_fold.nd (blkOk_by (show blkC N_u_law_is_fold (defScope s_u_law_is_fold) _ [("atom", 3)] = true by decide +kernel)) (fun _ _ _ _ _ => (dg_name (i := 3) sc_u_law_is_fold.nd)) (fun _ _ _ _ _ => (dts_one (dt_cmp o_notIn (op_notInA hu) (de_name 3) (de_call (ok_u_law_atoms W) ar_u_law_atoms hgd (hr.mono (by decide)) W.m_u_law_atoms W.p_u_law_atoms.kp W.b_u_law_atoms (da_cons (de_name 0) (da_cons (de_name 2) da_nil)))))) (fun _ _ _ _ _ => (de_name 3))) (de_lst df_nil)))))))
theorem ok_map_dict (W : Wd K mg) : FnG P w K mg base CX0 4 W.a_map_dict W.d_map_dict ["question", "value"] (spD ⟨K, w⟩ 2 F_map_dict) :=
  fn_ok W.p_map_dict sc_map_dict (k := 3) fun cdv A outer s H E hgd hr => by
    have hu := DV.hu_of hr
    have hu64 := DV.hu64_of hr
    have hu70 := DV.hu70_of hr
    exact (dss_cons (ds_set (i := 2) (de_call (ok_names_in W) ar_names_in hgd (hr.mono (by decide)) W.m_names_in W.p_names_in.kp W.b_names_in (da_cons (de_ix hu (de_name 0) de_int) da_nil)) sc_map_dict.nd)
    (dss_cons (ds_if (dw_or (dt_not (dt_val (de_call (ok_is_row W) ar_is_row hgd (hr.mono (by decide)) W.m_is_row W.p_is_row.kp W.b_is_row (da_cons (de_name 1) (da_cons (de_blt call_lenA o_len boot_len W.n_len (da_cons (de_name 2) da_nil)) da_nil))))) (dw_or1 (dt_not (dt_val (de_blt (cr_all rfl) o_all boot_all W.n_all (da_cons (de_lc (own := [("row", 3)]) (di_seq (de_name 1)) sc_map_dict.nd (blkOk_by (show blkC N_map_dict (defScope s_map_dict) _ [("row", 3)] = true by decide +kernel)) (fun _ _ _ _ _ => (dg_name (i := 3) sc_map_dict.nd)) (fun _ _ _ _ _ => dts_nil) (fun _ _ _ _ _ => (de_and (de_call (ok_is_row W) ar_is_row hgd (hr.mono (by decide)) W.m_is_row W.p_is_row.kp W.b_is_row (da_cons (de_name 3) (da_cons de_int da_nil))) (de_one (de_call (ok_is_term W) ar_is_term hgd (hr.mono (by decide)) W.m_is_term W.p_is_term.kp W.b_is_term (da_cons (de_ix hu (de_name 3) de_int) da_nil)))))) da_nil)))))).pt (dss_one (ds_ret de_none)) dss_nil)
    (dss_one (ds_ret (de_if (dt_cmp o_eq (op_eqD hu64) (de_lc (own := [("row", 3)]) (di_seq (de_name 1)) sc_map_dict.nd (blkOk_by (show blkC N_map_dict (defScope s_map_dict) _ [("row", 3)] = true by decide +kernel)) (fun _ _ _ _ _ => (dg_name (i := 3) sc_map_dict.nd)) (fun _ _ _ _ _ => dts_nil) (fun _ _ _ _ _ => (de_ix hu (de_name 3) de_int))) (de_name 2)) (de_ty (cr_dict rfl) o_dict boot_dict W.n_dict (da_cons (de_name 1) da_nil)) de_none)))))
theorem ok_led_terms (W : Wd K mg) : FnG P w K mg base CX0 2 W.a_led_terms W.d_led_terms ["terms", "led"] (spD ⟨K, w⟩ 2 F_led_terms) :=
  fn_ok W.p_led_terms sc_led_terms (k := 1) fun cdv A outer s H E hgd hr => by
    have hu := DV.hu_of hr
    have hu64 := DV.hu64_of hr
    have hu70 := DV.hu70_of hr
    exact (dss_one (ds_ret (de_ty call_tupleZ o_tuple boot_tuple W.n_tuple (da_cons (de_lc (own := [("term", 2)]) (di_seq (de_name 0)) sc_led_terms.nd (blkOk_by (show blkC N_led_terms (defScope s_led_terms) _ [("term", 2)] = true by decide +kernel)) (fun _ _ _ _ _ => (dg_name (i := 2) sc_led_terms.nd)) (fun _ _ _ _ _ => dts_nil) (fun _ _ _ _ _ => (de_if (dt_val (de_call (ok_is_name W) ar_is_name hgd (hr.mono (by decide)) W.m_is_name W.p_is_name.kp W.b_is_name (da_cons (de_name 2) da_nil))) (de_ix hu (de_name 1) (de_name 2)) (de_name 2)))) da_nil))))
theorem ok_led_atoms (W : Wd K mg) : FnG P w K mg base CX0 3 W.a_led_atoms W.d_led_atoms ["question", "led"] (spD ⟨K, w⟩ 2 F_led_atoms) :=
  fn_ok W.p_led_atoms sc_led_atoms (k := 2) fun cdv A outer s H E hgd hr => by
    have hu := DV.hu_of hr
    have hu64 := DV.hu64_of hr
    have hu70 := DV.hu70_of hr
    exact (dss_one (ds_ret (de_lc (own := [("table", 2), ("terms", 3)]) (di_seq (de_ix hu (de_name 0) de_int)) sc_led_atoms.nd (blkOk_by (show blkC N_led_atoms (defScope s_led_atoms) _ [("table", 2), ("terms", 3)] = true by decide +kernel)) (fun _ _ _ _ _ => (dg_tup (dg_cons (dg_name (i := 2) sc_led_atoms.nd) (dg_cons (dg_name (i := 3) sc_led_atoms.nd) dg_nil)))) (fun _ _ _ _ _ => dts_nil) (fun _ _ _ _ _ => (de_tup (df_cons (de_name 2) (df_cons (de_call (ok_led_terms W) ar_led_terms hgd (hr.mono (by decide)) W.m_led_terms W.p_led_terms.kp W.b_led_terms (da_cons (de_name 3) (da_cons (de_name 1) da_nil))) df_nil)))))))
theorem ok_leads_to (W : Wd K mg) : FnG P w K mg base CX0 4 W.a_leads_to W.d_leads_to ["question", "led", "goals", "head"] (spD ⟨K, w⟩ 4 F_leads_to) :=
  fn_ok W.p_leads_to sc_leads_to (k := 3) fun cdv A outer s H E hgd hr => by
    have hu := DV.hu_of hr
    have hu64 := DV.hu64_of hr
    have hu70 := DV.hu70_of hr
    exact (dss_one (ds_ret (de_and (de_cmp o_eq (op_eqD hu64) (de_call (ok_led_terms W) ar_led_terms hgd (hr.mono (by decide)) W.m_led_terms W.p_led_terms.kp W.b_led_terms (da_cons (de_ix hu (de_name 0) de_int) (da_cons (de_name 1) da_nil))) (de_name 3)) (de_one (de_blt (cr_all rfl) o_all boot_all W.n_all (da_cons (de_lc (own := [("atom", 4)]) (di_seq (de_call (ok_led_atoms W) ar_led_atoms hgd (hr.mono (by decide)) W.m_led_atoms W.p_led_atoms.kp W.b_led_atoms (da_cons (de_name 0) (da_cons (de_name 1) da_nil)))) sc_leads_to.nd (blkOk_by (show blkC N_leads_to (defScope s_leads_to) _ [("atom", 4)] = true by decide +kernel)) (fun _ _ _ _ _ => (dg_name (i := 4) sc_leads_to.nd)) (fun _ _ _ _ _ => dts_nil) (fun _ _ _ _ _ => (de_cmp o_in (op_inA hu) (de_name 4) (de_name 2)))) da_nil))))))
theorem ok_is_fold (W : Wd K mg) : FnG P w K mg base CX0 8 W.a_is_fold W.d_is_fold ["question", "value"] (spD ⟨K, w⟩ 2 F_is_fold) :=
  fn_ok W.p_is_fold sc_is_fold (k := 7) fun cdv A outer s H E hgd hr => by
    have hu := DV.hu_of hr
    have hu64 := DV.hu64_of hr
    have hu70 := DV.hu70_of hr
    exact (dss_cons (ds_set (i := 2) (de_call (ok_map_dict W) ar_map_dict hgd (hr.mono (by decide)) W.m_map_dict W.p_map_dict.kp W.b_map_dict (da_cons (de_call (ok_want_question W) ar_want_question hgd (hr.mono (by decide)) W.m_want_question W.p_want_question.kp W.b_want_question (da_cons (de_gv (de_name 0)) da_nil)) (da_cons (de_name 1) da_nil))) sc_is_fold.nd)
    (dss_cons (ds_if (dw_or (dt_cmp o_is op_isN (de_name 2) de_none) (dw_or1 (dt_not (dt_val (de_call (ok_leads_to W) ar_leads_to hgd (hr.mono (by decide)) W.m_leads_to W.p_leads_to.kp W.b_leads_to (da_cons (de_name 0) (da_cons (de_name 2) (da_cons (de_ix hu (de_name 0) de_int) (da_cons (de_ix hu (de_name 0) de_int) da_nil))))))))).pt (dss_one (ds_ret de_bool)) dss_nil)
    (dss_cons (ds_set (i := 3) (de_call (ok_led_atoms W) ar_led_atoms hgd (hr.mono (by decide)) W.m_led_atoms W.p_led_atoms.kp W.b_led_atoms (da_cons (de_name 0) (da_cons (de_name 2) da_nil))) sc_is_fold.nd)
    (dss_one (ds_ret (de_blt (cr_any rfl) o_any boot_any W.n_any (da_cons (de_lc (own := [("atom", 4)]) (di_seq (de_ix hu (de_name 0) de_int)) sc_is_fold.nd (blkOk_by (show blkC N_is_fold (defScope s_is_fold) _ [("atom", 4)] = true by decide +kernel)) (fun _ _ _ _ _ => (dg_name (i := 4) sc_is_fold.nd)) (fun _ _ _ _ _ => dts_nil) (fun _ _ _ _ _ => (de_cmp o_notIn (op_notInA hu) (de_name 4) (de_name 3)))) da_nil)))))))
theorem ok_law (W : Wd K mg) {f : Addr} {fd : FuncData} (F : FnP K "law" s_law f fd) : LawOk P w K mg base f fd "script" F_law :=
  law_ok F sc_law (k := 18) ⟨rfl, by decide, by decide⟩ fun cdv s H E hr => by
    have hgd : (callerA.deeper (envOfC "law" (defScope s_law) s.heap.objs.size f cdv)).guards = some [] := rfl
    have hu := DV.hu_of hr
    have hu64 := DV.hu64_of hr
    have hu70 := DV.hu70_of hr
    exact (dss_cons (ds_pot (i := 1) (de_call (ok_u_law_pot W) ar_u_law_pot hgd (hr.mono (by decide)) W.m_u_law_pot W.p_u_law_pot.kp W.b_u_law_pot (da_cons (de_name 0) (da_cons de_int da_nil))) sc_law.nd)
    (dss_cons (ds_for (di_rng1 W.n_range (da_cons de_int da_nil)) (dg_name (i := 2) sc_law.nd) (dss_kil (is := [2, 3, 4, 5, 6, 7]) (dss_cons (ds_set (i := 3) (de_call (ok_u_law_question W) ar_u_law_question hgd (hr.mono (by decide)) W.m_u_law_question W.p_u_law_question.kp W.b_u_law_question (da_cons (de_name 1) (da_cons de_int (da_cons (de_call (ok_u_law_draw W) ar_u_law_draw hgd (hr.mono (by decide)) W.m_u_law_draw W.p_u_law_draw.kp W.b_u_law_draw (da_cons (de_name 1) (da_cons de_int da_nil))) da_nil)))) sc_law.nd)
    (dss_cons (ds_set (i := 4) (de_call (ok_fold W) ar_fold hgd (hr.mono (by decide)) W.m_fold W.p_fold.kp W.b_fold (da_cons (de_gv (de_name 3)) da_nil)) sc_law.nd)
    (dss_cons (ds_set (i := 5) (de_op o_add op_addA (de_slc2 (de_lc (own := [("led", 8)]) (di_seq (de_call (ok_u_law_maps W) ar_u_law_maps hgd (hr.mono (by decide)) W.m_u_law_maps W.p_u_law_maps.kp W.b_u_law_maps (da_cons (de_name 3) (da_cons (de_call (ok_u_law_unlike W) ar_u_law_unlike hgd (hr.mono (by decide)) W.m_u_law_unlike W.p_u_law_unlike.kp W.b_u_law_unlike (da_cons (de_ix hu (de_name 3) de_int) da_nil)) (da_cons (de_ix hu (de_name 3) de_int) da_nil))))) sc_law.nd (blkOk_by (show blkC N_law (defScope s_law) _ [("led", 8)] = true by decide +kernel)) (fun _ _ _ _ _ => (dg_name (i := 8) sc_law.nd)) (fun _ _ _ _ _ => dts_nil) (fun _ _ _ _ _ => (de_call (ok_u_law_told_map W) ar_u_law_told_map hgd (hr.mono (by decide)) W.m_u_law_told_map W.p_u_law_told_map.kp W.b_u_law_told_map (da_cons (de_name 3) (da_cons (de_name 8) da_nil))))) do_none (do_some de_int)) (de_if (dt_cmp o_isnt op_notN (de_name 4) de_none) (de_lst (df_cons (de_name 4) df_nil)) (de_lst df_nil))) sc_law.nd)
    (dss_one (ds_for (di_seq (de_op o_add op_addA (de_name 5) (de_call (ok_u_law_bent W) ar_u_law_bent hgd (hr.mono (by decide)) W.m_u_law_bent W.p_u_law_bent.kp W.b_u_law_bent (da_cons (de_name 1) (da_cons (de_call (ok_u_law_pick W) ar_u_law_pick hgd (hr.mono (by decide)) W.m_u_law_pick W.p_u_law_pick.kp W.b_u_law_pick (da_cons (de_name 1) (da_cons (de_name 5) da_nil))) da_nil))))) (dg_name (i := 6) sc_law.nd) (dss_kil (is := [6, 7]) (dss_cons (ds_set (i := 7) (de_call (ok_u_law_is_fold W) ar_u_law_is_fold hgd (hr.mono (by decide)) W.m_u_law_is_fold W.p_u_law_is_fold.kp W.b_u_law_is_fold (da_cons (de_name 3) (da_cons (de_name 6) da_nil))) sc_law.nd)
    (dss_one (ds_if (dt_cmp o_ne (op_neD hu64) (de_blt (cr_reprA hgd hu70) o_reprA boot_repr W.n_repr (da_cons (de_lst (df_cons (de_call (ok_is_fold W) ar_is_fold hgd (hr.mono (by decide)) W.m_is_fold W.p_is_fold.kp W.b_is_fold (da_cons (de_gv (de_name 3)) (da_cons (de_name 6) da_nil))) (df_cons (de_callK0 (ks := ["value", "question"]) (ok_is_fold W) ar_is_fold hgd (hr.mono (by decide)) W.m_is_fold W.p_is_fold.kp (kbi_of (n := 0) (ks := ["value", "question"]) (ix := [1, 0]) W.p_is_fold fun _ _ _ _ _ _ us ws hu hw => match us, ws, hu, hw with | [], [_, _], _, _ => rfl) (dk_cons (de_name 6) (dk_cons (de_gv (de_name 3)) dk_nil))) df_nil))) da_nil)) (de_blt (cr_reprA hgd hu70) o_reprA boot_repr W.n_repr (da_cons (de_lst (df_cons (de_name 7) (df_cons (de_name 7) df_nil))) da_nil))) (dss_one (ds_ret de_bool)) dss_nil)))))))))))
    (dss_one (ds_ret de_bool))))
end
/-! the head: facts by names -/
def D_u_law_pot : He.DefD := ⟨("_law_pot", none), "_law_pot", "_law_pot", defArgs s_u_law_pot, defBody s_u_law_pot, defScope s_u_law_pot, [], []⟩
def D_u_law_draw : He.DefD := ⟨("_law_draw", none), "_law_draw", "_law_draw", defArgs s_u_law_draw, defBody s_u_law_draw, defScope s_u_law_draw, [], []⟩
def D_u_law_pick : He.DefD := ⟨("_law_pick", none), "_law_pick", "_law_pick", defArgs s_u_law_pick, defBody s_u_law_pick, defScope s_u_law_pick, [], []⟩
def D_u_law_terms : He.DefD := ⟨("_law_terms", none), "_law_terms", "_law_terms", defArgs s_u_law_terms, defBody s_u_law_terms, defScope s_u_law_terms, [], []⟩
def D_u_law_question : He.DefD := ⟨("_law_question", none), "_law_question", "_law_question", defArgs s_u_law_question, defBody s_u_law_question, defScope s_u_law_question, [], []⟩
def D_unlike_ones : He.DefD := ⟨("unlike_ones", none), "unlike_ones", "unlike_ones", defArgs s_unlike_ones, defBody s_unlike_ones, defScope s_unlike_ones, [], []⟩
def D_is_name : He.DefD := ⟨("is_name", none), "is_name", "is_name", defArgs s_is_name, defBody s_is_name, defScope s_is_name, [], []⟩
def D_agreed : He.DefD := ⟨("agreed", none), "agreed", "agreed", defArgs s_agreed, defBody s_agreed, defScope s_agreed, [], []⟩
def D_led_into : He.DefD := ⟨("led_into", none), "led_into", "led_into", defArgs s_led_into, defBody s_led_into, defScope s_led_into, [], []⟩
def D_map_into : He.DefD := ⟨("map_into", none), "map_into", "map_into", defArgs s_map_into, defBody s_map_into, defScope s_map_into, [], []⟩
def D_fold_of : He.DefD := ⟨("fold_of", none), "fold_of", "fold_of", defArgs s_fold_of, defBody s_fold_of, defScope s_fold_of, [], []⟩
def D_is_row : He.DefD := ⟨("is_row", none), "is_row", "is_row", defArgs s_is_row, defBody s_is_row, defScope s_is_row, [], []⟩
def D_is_word : He.DefD := ⟨("is_word", none), "is_word", "is_word", defArgs s_is_word, defBody s_is_word, defScope s_is_word, [], []⟩
def D_is_integer : He.DefD := ⟨("is_integer", none), "is_integer", "is_integer", defArgs s_is_integer, defBody s_is_integer, defScope s_is_integer, [], []⟩
def D_is_value : He.DefD := ⟨("is_value", none), "is_value", "is_value", defArgs s_is_value, defBody s_is_value, defScope s_is_value, [], []⟩
def D_is_term : He.DefD := ⟨("is_term", none), "is_term", "is_term", defArgs s_is_term, defBody s_is_term, defScope s_is_term, [], []⟩
def D_is_terms : He.DefD := ⟨("is_terms", none), "is_terms", "is_terms", defArgs s_is_terms, defBody s_is_terms, defScope s_is_terms, [], []⟩
def D_is_atom : He.DefD := ⟨("is_atom", none), "is_atom", "is_atom", defArgs s_is_atom, defBody s_is_atom, defScope s_is_atom, [], []⟩
def D_names_in : He.DefD := ⟨("names_in", none), "names_in", "names_in", defArgs s_names_in, defBody s_names_in, defScope s_names_in, [], []⟩
def D_unlike_table : He.DefD := ⟨("unlike_table", none), "unlike_table", "unlike_table", defArgs s_unlike_table, defBody s_unlike_table, defScope s_unlike_table, [], []⟩
def D_is_question_of : He.DefD := ⟨("is_question_of", none), "is_question_of", "is_question_of", defArgs s_is_question_of, defBody s_is_question_of, defScope s_is_question_of, [], []⟩
def D_want_question : He.DefD := ⟨("want_question", none), "want_question", "want_question", defArgs s_want_question, defBody s_want_question, defScope s_want_question, [], []⟩
def D_told_map : He.DefD := ⟨("told_map", none), "told_map", "told_map", defArgs s_told_map, defBody s_told_map, defScope s_told_map, [], []⟩
def D_fold : He.DefD := ⟨("fold", none), "fold", "fold", defArgs s_fold, defBody s_fold, defScope s_fold, [], []⟩
def D_u_law_is_name : He.DefD := ⟨("_law_is_name", none), "_law_is_name", "_law_is_name", defArgs s_u_law_is_name, defBody s_u_law_is_name, defScope s_u_law_is_name, [], []⟩
def D_u_law_fits : He.DefD := ⟨("_law_fits", none), "_law_fits", "_law_fits", defArgs s_u_law_fits, defBody s_u_law_fits, defScope s_u_law_fits, [], []⟩
def D_u_law_maps : He.DefD := ⟨("_law_maps", none), "_law_maps", "_law_maps", defArgs s_u_law_maps, defBody s_u_law_maps, defScope s_u_law_maps, [], []⟩
def D_u_law_unlike : He.DefD := ⟨("_law_unlike", none), "_law_unlike", "_law_unlike", defArgs s_u_law_unlike, defBody s_u_law_unlike, defScope s_u_law_unlike, [], []⟩
def D_u_law_names : He.DefD := ⟨("_law_names", none), "_law_names", "_law_names", defArgs s_u_law_names, defBody s_u_law_names, defScope s_u_law_names, [], []⟩
def D_u_law_told_map : He.DefD := ⟨("_law_told_map", none), "_law_told_map", "_law_told_map", defArgs s_u_law_told_map, defBody s_u_law_told_map, defScope s_u_law_told_map, [], []⟩
def D_u_law_bent : He.DefD := ⟨("_law_bent", none), "_law_bent", "_law_bent", defArgs s_u_law_bent, defBody s_u_law_bent, defScope s_u_law_bent, [], []⟩
def D_u_law_led : He.DefD := ⟨("_law_led", none), "_law_led", "_law_led", defArgs s_u_law_led, defBody s_u_law_led, defScope s_u_law_led, [], []⟩
def D_u_law_atoms : He.DefD := ⟨("_law_atoms", none), "_law_atoms", "_law_atoms", defArgs s_u_law_atoms, defBody s_u_law_atoms, defScope s_u_law_atoms, [], []⟩
def D_u_law_map_of : He.DefD := ⟨("_law_map_of", none), "_law_map_of", "_law_map_of", defArgs s_u_law_map_of, defBody s_u_law_map_of, defScope s_u_law_map_of, [], []⟩
def D_u_law_is_fold : He.DefD := ⟨("_law_is_fold", none), "_law_is_fold", "_law_is_fold", defArgs s_u_law_is_fold, defBody s_u_law_is_fold, defScope s_u_law_is_fold, [], []⟩
def D_map_dict : He.DefD := ⟨("map_dict", none), "map_dict", "map_dict", defArgs s_map_dict, defBody s_map_dict, defScope s_map_dict, [], []⟩
def D_led_terms : He.DefD := ⟨("led_terms", none), "led_terms", "led_terms", defArgs s_led_terms, defBody s_led_terms, defScope s_led_terms, [], []⟩
def D_led_atoms : He.DefD := ⟨("led_atoms", none), "led_atoms", "led_atoms", defArgs s_led_atoms, defBody s_led_atoms, defScope s_led_atoms, [], []⟩
def D_leads_to : He.DefD := ⟨("leads_to", none), "leads_to", "leads_to", defArgs s_leads_to, defBody s_leads_to, defScope s_leads_to, [], []⟩
def D_is_fold : He.DefD := ⟨("is_fold", none), "is_fold", "is_fold", defArgs s_is_fold, defBody s_is_fold, defScope s_is_fold, [], []⟩
def D_law : He.DefD := ⟨("law", none), "law", "law", defArgs s_law, defBody s_law, defScope s_law, [], []⟩
def fns : List He.DefD := [D_u_law_pot, D_u_law_draw, D_u_law_pick, D_u_law_terms, D_u_law_question, D_unlike_ones, D_is_name, D_agreed, D_led_into, D_map_into, D_fold_of, D_is_row, D_is_word, D_is_integer, D_is_value, D_is_term, D_is_terms, D_is_atom, D_names_in, D_unlike_table, D_is_question_of, D_want_question, D_told_map, D_fold, D_u_law_is_name, D_u_law_fits, D_u_law_maps, D_u_law_unlike, D_u_law_names, D_u_law_told_map, D_u_law_bent, D_u_law_led, D_u_law_atoms, D_u_law_map_of, D_u_law_is_fold, D_map_dict, D_led_terms, D_led_atoms, D_leads_to, D_is_fold, D_law]
def fas : List He.Fa := [.glo "_law_pot", .glo "_law_draw", .glo "_law_pick", .glo "_law_terms", .glo "_law_question", .glo "unlike_ones", .glo "is_name", .glo "agreed", .glo "led_into", .glo "map_into", .glo "fold_of", .glo "is_row", .glo "is_word", .glo "is_integer", .glo "is_value", .glo "is_term", .glo "is_terms", .glo "is_atom", .glo "names_in", .glo "unlike_table", .glo "is_question_of", .glo "want_question", .glo "told_map", .glo "fold", .glo "_law_is_name", .glo "_law_fits", .glo "_law_maps", .glo "_law_unlike", .glo "_law_names", .glo "_law_told_map", .glo "_law_bent", .glo "_law_led", .glo "_law_atoms", .glo "_law_map_of", .glo "_law_is_fold", .glo "map_dict", .glo "led_terms", .glo "led_atoms", .glo "leads_to", .glo "is_fold", .glo "law", .free "range", .free "repr", .free "len", .free "abs", .free "max", .free "int", .free "sorted", .free "set", .free "tuple", .free "divmod", .free "list", .free "dict", .free "zip", .free "isinstance", .free "str", .free "all", .free "bool", .free "min", .free "any", .int "MOST_NAME" 8, .str "SMALL" "abcdefghijklmnopqrstuvwxyz", .str "ASK" "ask", .int "MOST_HEAD" 4, .int "MOST_ATOMS" 6, .int "MOST_VALUE" 1000000000, .int "MOST_WORD" 12, .str "CAPITALS" "ABCDEFGHIJKLMNOPQRSTUVWXYZ", .str "DIGITS" "0123456789", .int "MOST_TERMS" 4]
theorem world {K : PySem.W.Frag} {h : Heap} {mg : Str → Option Value} {f : Addr} (X : K.In h) (G : h.Ns mainGlobals mg) (hfa : mg ("law" : Str) = some (.ref f)) (c : He.SaysD fas fns K) :
    ∃ (_ : Wd K mg) (fd : FuncData), FnP K "law" s_law f fd := by
  obtain ⟨d0, p0⟩ := c.def_ 0 (d := D_u_law_pot) rfl
  obtain ⟨d1, p1⟩ := c.def_ 1 (d := D_u_law_draw) rfl
  obtain ⟨d2, p2⟩ := c.def_ 2 (d := D_u_law_pick) rfl
  obtain ⟨d3, p3⟩ := c.def_ 3 (d := D_u_law_terms) rfl
  obtain ⟨d4, p4⟩ := c.def_ 4 (d := D_u_law_question) rfl
  obtain ⟨d5, p5⟩ := c.def_ 5 (d := D_unlike_ones) rfl
  obtain ⟨d6, p6⟩ := c.def_ 6 (d := D_is_name) rfl
  obtain ⟨d7, p7⟩ := c.def_ 7 (d := D_agreed) rfl
  obtain ⟨d8, p8⟩ := c.def_ 8 (d := D_led_into) rfl
  obtain ⟨d9, p9⟩ := c.def_ 9 (d := D_map_into) rfl
  obtain ⟨d10, p10⟩ := c.def_ 10 (d := D_fold_of) rfl
  obtain ⟨d11, p11⟩ := c.def_ 11 (d := D_is_row) rfl
  obtain ⟨d12, p12⟩ := c.def_ 12 (d := D_is_word) rfl
  obtain ⟨d13, p13⟩ := c.def_ 13 (d := D_is_integer) rfl
  obtain ⟨d14, p14⟩ := c.def_ 14 (d := D_is_value) rfl
  obtain ⟨d15, p15⟩ := c.def_ 15 (d := D_is_term) rfl
  obtain ⟨d16, p16⟩ := c.def_ 16 (d := D_is_terms) rfl
  obtain ⟨d17, p17⟩ := c.def_ 17 (d := D_is_atom) rfl
  obtain ⟨d18, p18⟩ := c.def_ 18 (d := D_names_in) rfl
  obtain ⟨d19, p19⟩ := c.def_ 19 (d := D_unlike_table) rfl
  obtain ⟨d20, p20⟩ := c.def_ 20 (d := D_is_question_of) rfl
  obtain ⟨d21, p21⟩ := c.def_ 21 (d := D_want_question) rfl
  obtain ⟨d22, p22⟩ := c.def_ 22 (d := D_told_map) rfl
  obtain ⟨d23, p23⟩ := c.def_ 23 (d := D_fold) rfl
  obtain ⟨d24, p24⟩ := c.def_ 24 (d := D_u_law_is_name) rfl
  obtain ⟨d25, p25⟩ := c.def_ 25 (d := D_u_law_fits) rfl
  obtain ⟨d26, p26⟩ := c.def_ 26 (d := D_u_law_maps) rfl
  obtain ⟨d27, p27⟩ := c.def_ 27 (d := D_u_law_unlike) rfl
  obtain ⟨d28, p28⟩ := c.def_ 28 (d := D_u_law_names) rfl
  obtain ⟨d29, p29⟩ := c.def_ 29 (d := D_u_law_told_map) rfl
  obtain ⟨d30, p30⟩ := c.def_ 30 (d := D_u_law_bent) rfl
  obtain ⟨d31, p31⟩ := c.def_ 31 (d := D_u_law_led) rfl
  obtain ⟨d32, p32⟩ := c.def_ 32 (d := D_u_law_atoms) rfl
  obtain ⟨d33, p33⟩ := c.def_ 33 (d := D_u_law_map_of) rfl
  obtain ⟨d34, p34⟩ := c.def_ 34 (d := D_u_law_is_fold) rfl
  obtain ⟨d35, p35⟩ := c.def_ 35 (d := D_map_dict) rfl
  obtain ⟨d36, p36⟩ := c.def_ 36 (d := D_led_terms) rfl
  obtain ⟨d37, p37⟩ := c.def_ 37 (d := D_led_atoms) rfl
  obtain ⟨d38, p38⟩ := c.def_ 38 (d := D_leads_to) rfl
  obtain ⟨d39, p39⟩ := c.def_ 39 (d := D_is_fold) rfl
  obtain ⟨d40, p40⟩ := c.def_ 40 (d := D_law) rfl
  have e := hfa.symm.trans (He.glo_ok X G (c.fact 40 (f := .glo "law") rfl))
  cases e
  exact ⟨{ a_u_law_pot := _, d_u_law_pot := d0, p_u_law_pot := p0, m_u_law_pot := He.glo_ok X G (c.fact 0 (f := .glo "_law_pot") rfl), a_u_law_draw := _, d_u_law_draw := d1, p_u_law_draw := p1, m_u_law_draw := He.glo_ok X G (c.fact 1 (f := .glo "_law_draw") rfl), a_u_law_pick := _, d_u_law_pick := d2, p_u_law_pick := p2, m_u_law_pick := He.glo_ok X G (c.fact 2 (f := .glo "_law_pick") rfl), a_u_law_terms := _, d_u_law_terms := d3, p_u_law_terms := p3, m_u_law_terms := He.glo_ok X G (c.fact 3 (f := .glo "_law_terms") rfl), a_u_law_question := _, d_u_law_question := d4, p_u_law_question := p4, m_u_law_question := He.glo_ok X G (c.fact 4 (f := .glo "_law_question") rfl), a_unlike_ones := _, d_unlike_ones := d5, p_unlike_ones := p5, m_unlike_ones := He.glo_ok X G (c.fact 5 (f := .glo "unlike_ones") rfl), a_is_name := _, d_is_name := d6, p_is_name := p6, m_is_name := He.glo_ok X G (c.fact 6 (f := .glo "is_name") rfl), a_agreed := _, d_agreed := d7, p_agreed := p7, m_agreed := He.glo_ok X G (c.fact 7 (f := .glo "agreed") rfl), a_led_into := _, d_led_into := d8, p_led_into := p8, m_led_into := He.glo_ok X G (c.fact 8 (f := .glo "led_into") rfl), a_map_into := _, d_map_into := d9, p_map_into := p9, m_map_into := He.glo_ok X G (c.fact 9 (f := .glo "map_into") rfl), a_fold_of := _, d_fold_of := d10, p_fold_of := p10, m_fold_of := He.glo_ok X G (c.fact 10 (f := .glo "fold_of") rfl), a_is_row := _, d_is_row := d11, p_is_row := p11, m_is_row := He.glo_ok X G (c.fact 11 (f := .glo "is_row") rfl), a_is_word := _, d_is_word := d12, p_is_word := p12, m_is_word := He.glo_ok X G (c.fact 12 (f := .glo "is_word") rfl), a_is_integer := _, d_is_integer := d13, p_is_integer := p13, m_is_integer := He.glo_ok X G (c.fact 13 (f := .glo "is_integer") rfl), a_is_value := _, d_is_value := d14, p_is_value := p14, m_is_value := He.glo_ok X G (c.fact 14 (f := .glo "is_value") rfl), a_is_term := _, d_is_term := d15, p_is_term := p15, m_is_term := He.glo_ok X G (c.fact 15 (f := .glo "is_term") rfl), a_is_terms := _, d_is_terms := d16, p_is_terms := p16, m_is_terms := He.glo_ok X G (c.fact 16 (f := .glo "is_terms") rfl), a_is_atom := _, d_is_atom := d17, p_is_atom := p17, m_is_atom := He.glo_ok X G (c.fact 17 (f := .glo "is_atom") rfl), a_names_in := _, d_names_in := d18, p_names_in := p18, m_names_in := He.glo_ok X G (c.fact 18 (f := .glo "names_in") rfl), a_unlike_table := _, d_unlike_table := d19, p_unlike_table := p19, m_unlike_table := He.glo_ok X G (c.fact 19 (f := .glo "unlike_table") rfl), a_is_question_of := _, d_is_question_of := d20, p_is_question_of := p20, m_is_question_of := He.glo_ok X G (c.fact 20 (f := .glo "is_question_of") rfl), a_want_question := _, d_want_question := d21, p_want_question := p21, m_want_question := He.glo_ok X G (c.fact 21 (f := .glo "want_question") rfl), a_told_map := _, d_told_map := d22, p_told_map := p22, m_told_map := He.glo_ok X G (c.fact 22 (f := .glo "told_map") rfl), a_fold := _, d_fold := d23, p_fold := p23, m_fold := He.glo_ok X G (c.fact 23 (f := .glo "fold") rfl), a_u_law_is_name := _, d_u_law_is_name := d24, p_u_law_is_name := p24, m_u_law_is_name := He.glo_ok X G (c.fact 24 (f := .glo "_law_is_name") rfl), a_u_law_fits := _, d_u_law_fits := d25, p_u_law_fits := p25, m_u_law_fits := He.glo_ok X G (c.fact 25 (f := .glo "_law_fits") rfl), a_u_law_maps := _, d_u_law_maps := d26, p_u_law_maps := p26, m_u_law_maps := He.glo_ok X G (c.fact 26 (f := .glo "_law_maps") rfl), a_u_law_unlike := _, d_u_law_unlike := d27, p_u_law_unlike := p27, m_u_law_unlike := He.glo_ok X G (c.fact 27 (f := .glo "_law_unlike") rfl), a_u_law_names := _, d_u_law_names := d28, p_u_law_names := p28, m_u_law_names := He.glo_ok X G (c.fact 28 (f := .glo "_law_names") rfl), a_u_law_told_map := _, d_u_law_told_map := d29, p_u_law_told_map := p29, m_u_law_told_map := He.glo_ok X G (c.fact 29 (f := .glo "_law_told_map") rfl), a_u_law_bent := _, d_u_law_bent := d30, p_u_law_bent := p30, m_u_law_bent := He.glo_ok X G (c.fact 30 (f := .glo "_law_bent") rfl), a_u_law_led := _, d_u_law_led := d31, p_u_law_led := p31, m_u_law_led := He.glo_ok X G (c.fact 31 (f := .glo "_law_led") rfl), a_u_law_atoms := _, d_u_law_atoms := d32, p_u_law_atoms := p32, m_u_law_atoms := He.glo_ok X G (c.fact 32 (f := .glo "_law_atoms") rfl), a_u_law_map_of := _, d_u_law_map_of := d33, p_u_law_map_of := p33, m_u_law_map_of := He.glo_ok X G (c.fact 33 (f := .glo "_law_map_of") rfl), a_u_law_is_fold := _, d_u_law_is_fold := d34, p_u_law_is_fold := p34, m_u_law_is_fold := He.glo_ok X G (c.fact 34 (f := .glo "_law_is_fold") rfl), a_map_dict := _, d_map_dict := d35, p_map_dict := p35, m_map_dict := He.glo_ok X G (c.fact 35 (f := .glo "map_dict") rfl), a_led_terms := _, d_led_terms := d36, p_led_terms := p36, m_led_terms := He.glo_ok X G (c.fact 36 (f := .glo "led_terms") rfl), a_led_atoms := _, d_led_atoms := d37, p_led_atoms := p37, m_led_atoms := He.glo_ok X G (c.fact 37 (f := .glo "led_atoms") rfl), a_leads_to := _, d_leads_to := d38, p_leads_to := p38, m_leads_to := He.glo_ok X G (c.fact 38 (f := .glo "leads_to") rfl), a_is_fold := _, d_is_fold := d39, p_is_fold := p39, m_is_fold := He.glo_ok X G (c.fact 39 (f := .glo "is_fold") rfl), n_range := He.free_ok X G (c.fact 41 (f := .free "range") rfl), n_repr := He.free_ok X G (c.fact 42 (f := .free "repr") rfl), n_len := He.free_ok X G (c.fact 43 (f := .free "len") rfl), n_abs := He.free_ok X G (c.fact 44 (f := .free "abs") rfl), n_max := He.free_ok X G (c.fact 45 (f := .free "max") rfl), n_int := He.free_ok X G (c.fact 46 (f := .free "int") rfl), n_sorted := He.free_ok X G (c.fact 47 (f := .free "sorted") rfl), n_set := He.free_ok X G (c.fact 48 (f := .free "set") rfl), n_tuple := He.free_ok X G (c.fact 49 (f := .free "tuple") rfl), n_divmod := He.free_ok X G (c.fact 50 (f := .free "divmod") rfl), n_list := He.free_ok X G (c.fact 51 (f := .free "list") rfl), n_dict := He.free_ok X G (c.fact 52 (f := .free "dict") rfl), n_zip := He.free_ok X G (c.fact 53 (f := .free "zip") rfl), n_isinstance := He.free_ok X G (c.fact 54 (f := .free "isinstance") rfl), n_str := He.free_ok X G (c.fact 55 (f := .free "str") rfl), n_all := He.free_ok X G (c.fact 56 (f := .free "all") rfl), n_bool := He.free_ok X G (c.fact 57 (f := .free "bool") rfl), n_min := He.free_ok X G (c.fact 58 (f := .free "min") rfl), n_any := He.free_ok X G (c.fact 59 (f := .free "any") rfl), c_MOST_NAME := He.int_ok X G (c.fact 60 (f := .int "MOST_NAME" 8) rfl), c_SMALL := He.str_ok X G (c.fact 61 (f := .str "SMALL" "abcdefghijklmnopqrstuvwxyz") rfl), c_ASK := He.str_ok X G (c.fact 62 (f := .str "ASK" "ask") rfl), c_MOST_HEAD := He.int_ok X G (c.fact 63 (f := .int "MOST_HEAD" 4) rfl), c_MOST_ATOMS := He.int_ok X G (c.fact 64 (f := .int "MOST_ATOMS" 6) rfl), c_MOST_VALUE := He.int_ok X G (c.fact 65 (f := .int "MOST_VALUE" 1000000000) rfl), c_MOST_WORD := He.int_ok X G (c.fact 66 (f := .int "MOST_WORD" 12) rfl), c_CAPITALS := He.str_ok X G (c.fact 67 (f := .str "CAPITALS" "ABCDEFGHIJKLMNOPQRSTUVWXYZ") rfl), c_DIGITS := He.str_ok X G (c.fact 68 (f := .str "DIGITS" "0123456789") rfl), c_MOST_TERMS := He.int_ok X G (c.fact 69 (f := .int "MOST_TERMS" 4) rfl) }, d40, p40⟩
end K61
end
section
set_option Elab.async false
set_option linter.all false
set_option maxRecDepth 100000
set_option maxHeartbeats 4000000
namespace K61
open PySem PySem.Spec PyProof.Rows L2 DV
/-! ### the texts that occur; leaves judged -/
def S : List Str := ["x", "y", "z", "u", "ask", "Red", "Blue", "R", "S", "T", "aB", ""]
def NmL : List Str := ["x", "y", "z", "u", "ask"]
def WdL : List Str := ["Red", "Blue", "R", "S", "T"]
def nmS (x : Str) : Bool := decide (x ∈ NmL)
def wdS (x : Str) : Bool := decide (x ∈ WdL)
theorem S_ind {p : Str → Prop} (h : p "x" ∧ p "y" ∧ p "z" ∧ p "u" ∧ p "ask" ∧ p "Red" ∧ p "Blue" ∧ p "R" ∧ p "S" ∧ p "T" ∧ p "aB" ∧ p "") : ∀ x ∈ S, p x := by
  intro x hx
  obtain ⟨h0, h1, h2, h3, h4, h5, h6, h7, h8, h9, h10, h11⟩ := h
  simp only [S, List.mem_cons, List.not_mem_nil, or_false] at hx
  rcases hx with rfl | rfl | rfl | rfl | rfl | rfl | rfl | rfl | rfl | rfl | rfl | rfl <;> assumption
theorem gdS : GdS S := S_ind (by refine ⟨?_, ?_, ?_, ?_, ?_, ?_, ?_, ?_, ?_, ?_, ?_, ?_⟩ <;> exact ⟨by decide +kernel, by show PyData.strOk _ = true; decide +kernel, by decide +kernel⟩)
variable (μ : List (Int × Int))
theorem is_name_S : ∀ x ∈ S, F_is_name [.fz (.str x)] μ = some (.fz (.bool (nmS x)), μ) := by
  have h : ∀ x ∈ S, F_is_name [.fz (.str x)] μ = some (.fz (.bool (nmS x)), μ.take μ.length) := by
    refine S_ind ⟨?_, ?_, ?_, ?_, ?_, ?_, ?_, ?_, ?_, ?_, ?_, ?_⟩ <;> kernel_rfl
  simpa only [List.take_length] using h
theorem is_word_S : ∀ x ∈ S, F_is_word [.fz (.str x)] μ = some (.fz (.bool (wdS x)), μ) := by
  have h : ∀ x ∈ S, F_is_word [.fz (.str x)] μ = some (.fz (.bool (wdS x)), μ.take μ.length) := by
    refine S_ind ⟨?_, ?_, ?_, ?_, ?_, ?_, ?_, ?_, ?_, ?_, ?_, ?_⟩ <;> kernel_rfl
  simpa only [List.take_length] using h
/-- the law asks the first sign alone: right for names and words -/
theorem l_is_name_S : ∀ x ∈ S, (nmS x || wdS x) = true → F_u_law_is_name [.fz (.str x)] μ = some (.fz (.bool (nmS x)), μ) := by
  have h : ∀ x ∈ S, (nmS x || wdS x) = true → F_u_law_is_name [.fz (.str x)] μ = some (.fz (.bool (nmS x)), μ.take μ.length) := by
    refine S_ind ⟨fun _ => by kernel_rfl, fun _ => by kernel_rfl, fun _ => by kernel_rfl, fun _ => by kernel_rfl, fun _ => by kernel_rfl, fun _ => by kernel_rfl, fun _ => by kernel_rfl, fun _ => by kernel_rfl, fun _ => by kernel_rfl, fun _ => by kernel_rfl, fun h => absurd h (by decide +kernel), fun h => absurd h (by decide +kernel)⟩
  simpa only [List.take_length] using h
end K61
end
section
set_option Elab.async false
set_option linter.all false
set_option maxRecDepth 100000
set_option maxHeartbeats 4000000
namespace K61
open PySem PySem.Spec PyProof.Rows L2 DV
/-! ### leaves -/
def nm : D → Bool
  | .str x => nmS x
  | _ => false
def wd : D → Bool
  | .str x => wdS x
  | _ => false
def isI : D → Bool
  | .int _ => true
  | _ => false
def cnt : D → Bool
  | .int i => decide (0 ≤ i)
  | _ => false
def inI : D → Bool
  | .int i => decide ((if i < 0 then -i else i) < 1000000000)
  | _ => false
def tm (d : D) : Bool := nm d || wd d || inI d
@[simp] theorem tyKn_tuple (ds : List D) : tyKn (.tuple ds) = true := rfl
@[simp] theorem tyKn_list (ds : List D) : tyKn (.list ds) = true := rfl
@[simp] theorem tyKn_str (x : Str) : tyKn (.str x) = true := rfl
@[simp] theorem tyKn_int (i : Int) : tyKn (.int i) = true := rfl
@[simp] theorem tyKn_bool (b : Bool) : tyKn (.bool b) = true := rfl
@[simp] theorem tyKn_none : tyKn .none = true := rfl
theorem tyKn_vd {d : D} (h : Vd S d) : tyKn d = true := by cases h <;> rfl
section
variable (ρ : List (Option Sl)) (μ : Mu) {d : D}
variable (h : Vd S d)
include h
theorem is_integer_k : cal F_is_integer [.fz d] ⟨ρ, μ⟩ = some (.fz (.bool (isI d)), ⟨ρ, μ⟩) := by
  refine cal_fz (e := ⟨ρ, μ⟩) ?_
  cases h <;> simp [F_is_integer, B_is_integer, isI]
theorem is_name_k : cal F_is_name [.fz d] ⟨ρ, μ⟩ = some (.fz (.bool (nm d)), ⟨ρ, μ⟩) := by
  refine cal_fz (e := ⟨ρ, μ⟩) ?_
  cases h with
  | str hx => exact is_name_S μ _ hx
  | _ => simp [F_is_name, B_is_name, nm]
theorem is_word_k : cal F_is_word [.fz d] ⟨ρ, μ⟩ = some (.fz (.bool (wd d)), ⟨ρ, μ⟩) := by
  refine cal_fz (e := ⟨ρ, μ⟩) ?_
  cases h with
  | str hx => exact is_word_S μ _ hx
  | _ => simp [F_is_word, B_is_word, wd]
theorem is_value_k : cal F_is_value [.fz d] ⟨ρ, μ⟩ = some (.fz (.bool (wd d || inI d)), ⟨ρ, μ⟩) := by
  refine cal_fz (e := ⟨ρ, μ⟩) ?_
  have hw := fun ρ => is_word_k ρ μ h
  have hi := fun ρ => is_integer_k ρ μ h
  cases c : wd d <;> cases d <;> simp [F_is_value, B_is_value, hw, hi, isI, inI, c]
theorem is_term_k : cal F_is_term [.fz d] ⟨ρ, μ⟩ = some (.fz (.bool (tm d)), ⟨ρ, μ⟩) := by
  refine cal_fz (e := ⟨ρ, μ⟩) ?_
  have hn := fun ρ => is_name_k ρ μ h
  have hw := fun ρ => is_value_k ρ μ h
  cases c : nm d <;> simp [F_is_term, B_is_term, hn, hw, tm, c]
/-- the law's look at names: right for terms -/
theorem l_is_name_k (t : tm d = true) : cal F_u_law_is_name [.fz d] ⟨ρ, μ⟩ = some (.fz (.bool (nm d)), ⟨ρ, μ⟩) := by
  refine cal_fz (e := ⟨ρ, μ⟩) ?_
  cases h with
  | str hx => exact l_is_name_S μ _ hx (by simpa [tm, nm, wd, inI] using t)
  | _ => simp [F_u_law_is_name, B_u_law_is_name, nm]
end
end K61
end
section
set_option Elab.async false
set_option linter.all false
set_option maxRecDepth 100000
set_option maxHeartbeats 4000000
namespace K61
open PySem PySem.Spec PyProof.Rows L2 DV
/-! ### terms, atoms -/
def tms (lo hi : Int) : D → Bool
  | .tuple ds => decide (lo ≤ (ds.length : Int)) && decide ((ds.length : Int) ≤ hi) && ds.all tm
  | _ => false
def isAt : D → Bool
  | .tuple [t, ts] => wd t && tms 1 4 ts
  | _ => false
def isTup : D → Option (List D)
  | .tuple ds => some ds
  | _ => none
section
variable (ρ : List (Option Sl)) (μ : Mu) {d : D}
theorem is_row_k (kn : tyKn d = true) {n : Int} : cal F_is_row [.fz d, .fz (.int n)] ⟨ρ, μ⟩ = some (.fz (.bool (match d with | .tuple ds => ((ds.length : Int) == n) | _ => false)), ⟨ρ, μ⟩) := by
  refine cal_fz (e := ⟨ρ, μ⟩) ?_
  cases d with
  | dict kvs => simp [F_is_row, B_is_row, show smpK kvs = true from kn]
  | _ => simp [F_is_row, B_is_row]
variable (h : Vd S d)
include h
theorem is_terms_k {lo hi : Int} : cal F_is_terms [.fz d, .fz (.int lo), .fz (.int hi)] ⟨ρ, μ⟩ = some (.fz (.bool (tms lo hi d)), ⟨ρ, μ⟩) := by
  refine cal_fz (e := ⟨ρ, μ⟩) ?_
  cases d with
  | tuple ds =>
    by_cases c1 : lo ≤ (ds.length : Int) <;> by_cases c2 : (ds.length : Int) ≤ hi <;> simp [F_is_terms, B_is_terms, tms, c1, c2]
    rw [lcR_mapB tm rfl rfl]
    · simp
    · intro x hx
      simp [wipeR, lock1, C_is_terms_1, is_term_k _ _ (h.of_tup x hx)]
  | dict kvs => cases h
  | _ => simp [F_is_terms, B_is_terms, tms]
end
theorem two_of {ds : List D} (h : ds.length = 2) : ∃ a b, ds = [a, b] := by
  match ds, h with
  | [a, b], _ => exact ⟨a, b, rfl⟩
theorem three_of {ds : List D} (h : ds.length = 3) : ∃ a b c, ds = [a, b, c] := by
  match ds, h with
  | [a, b, c], _ => exact ⟨a, b, c, rfl⟩
section
variable (ρ : List (Option Sl)) (μ : Mu) {d : D} (h : Vd S d)
include h
theorem is_atom_k : cal F_is_atom [.fz d] ⟨ρ, μ⟩ = some (.fz (.bool (isAt d)), ⟨ρ, μ⟩) := by
  refine cal_fz (e := ⟨ρ, μ⟩) ?_
  have hr := fun ρ => is_row_k ρ μ (tyKn_vd h) (n := 2)
  cases d with
  | tuple ds =>
    by_cases c : ds.length = 2
    · obtain ⟨a, b, rfl⟩ := two_of c
      have ha := h.of_tup a (by simp)
      have hb := h.of_tup b (by simp)
      cases c : wd a <;> simp [F_is_atom, B_is_atom, hr, is_word_k _ _ ha, is_terms_k _ _ hb, c, isAt]
    · have c2 : ((ds.length : Int) == 2) = false := by simp; omega
      have c3 : isAt (.tuple ds) = false := by
        unfold isAt
        split
        · rename_i e; simp only [PyData.tuple.injEq] at e; subst e; simp at c
        · rfl
      simp [F_is_atom, B_is_atom, hr, c2, c3]
  | dict kvs => cases h
  | _ => simp [F_is_atom, B_is_atom, hr, isAt]
/-- a word is a str, not a name, a term -/
theorem wd_cases : (∃ x ∈ S, d = .str x ∧ nm d = nmS x ∧ wd d = wdS x) ∨ (nm d = false ∧ wd d = false ∧ ∀ x, d ≠ .str x) := by
  cases d with
  | str x => exact .inl ⟨x, h.of_str, rfl, rfl, rfl⟩
  | _ => exact .inr ⟨rfl, rfl, fun x => by simp⟩
omit h in
theorem nm_wd : ∀ x ∈ S, (nmS x && wdS x) = false := by decide +kernel
end
end K61
end
section
set_option Elab.async false
set_option linter.all false
set_option maxRecDepth 100000
set_option maxHeartbeats 4000000
namespace K61
open PySem PySem.Spec PyProof.Rows L2 DV
/-! ### atoms, their names, their tables -/
def tbl : D → Str
  | .tuple [.str t, _] => t
  | _ => ""
def tsl : D → List D
  | .tuple [_, .tuple ts] => ts
  | _ => []
@[simp] theorem tbl_mk (t : Str) (d : D) : tbl (.tuple [.str t, d]) = t := rfl
@[simp] theorem tsl_mk (d : D) (ts : List D) : tsl (.tuple [d, .tuple ts]) = ts := rfl
/-- a right atom -/
structure At (a : D) : Prop where
  e : a = .tuple [.str (tbl a), .tuple (tsl a)]
  w : wdS (tbl a) = true
  s : tbl a ∈ S
  n0 : 1 ≤ (tsl a).length
  n1 : (tsl a).length ≤ 4
  t : ∀ t ∈ tsl a, tm t = true
  v : ∀ t ∈ tsl a, Vd S t
theorem at_of {a : D} (h : Vd S a) (k : isAt a = true) : At a := by
  unfold isAt at k
  split at k
  · rename_i t ts
    simp only [Bool.and_eq_true] at k
    obtain ⟨k1, k2⟩ := k
    have ht := h.of_tup t (by simp)
    have hts := h.of_tup ts (by simp)
    cases t with
    | str x =>
      cases ts with
      | tuple ds =>
        simp only [tms, Bool.and_eq_true, decide_eq_true_eq, List.all_eq_true] at k2
        exact ⟨rfl, k1, ht.of_str, by show 1 ≤ ds.length; omega, by show ds.length ≤ 4; omega, k2.2, hts.of_tup⟩
      | _ => simp [tms] at k2
    | _ => simp [wd] at k1
  · cases k
def nmO : D → Option Str
  | .str x => if nmS x = true then some x else none
  | _ => none
theorem nmO_some {d : D} {x : Str} (h : nmO d = some x) : d = .str x ∧ nmS x = true := by
  cases d with
  | str y =>
    unfold nmO at h
    simp only at h
    split at h
    · cases h; exact ⟨rfl, by assumption⟩
    · cases h
  | _ => cases h
theorem nm_nmO (d : D) : nm d = (nmO d).isSome := by
  cases d with
  | str x => cases c : nmS x <;> simp [nm, nmO, c]
  | _ => rfl
def nms (ts : List D) : List Str := ts.filterMap nmO
def namesA (as : List D) : List Str := as.flatMap fun a => nms (tsl a)
theorem nms_filter : ∀ ts : List D, (ts.filterMap fun t => if nm t = true then some t else none) = (nms ts).map .str
  | [] => rfl
  | t :: ts => by
    have ih := nms_filter ts
    rw [List.filterMap_cons]
    cases c : nmO t with
    | none =>
      have c2 : nm t = false := by rw [nm_nmO, c]; rfl
      simp only [c2, nms, List.filterMap_cons, c] at ih ⊢
      exact ih
    | some x =>
      obtain ⟨rfl, _⟩ := nmO_some c
      have c2 : nm (.str x) = true := by rw [nm_nmO, c]; rfl
      simp only [c2, if_true, nms, List.filterMap_cons, c, List.map_cons] at ih ⊢
      rw [ih]
theorem nms_len (ts : List D) : (nms ts).length ≤ ts.length := List.length_filterMap_le _ _
theorem nms_S {ts : List D} (h : ∀ t ∈ ts, Vd S t) : ∀ x ∈ nms ts, x ∈ S := fun x hx => by
  obtain ⟨t, ht, e⟩ := List.mem_filterMap.mp hx
  obtain ⟨rfl, _⟩ := nmO_some e
  exact (h _ ht).of_str
theorem namesA_len : ∀ {as : List D}, (∀ x ∈ as, At x) → (namesA as).length ≤ 4 * as.length
  | [], _ => Nat.le_refl _
  | x :: as, h => by
    have ih := namesA_len (as := as) fun y hy => h y (List.mem_cons_of_mem _ hy)
    have hx := h x (List.mem_cons_self ..)
    have ha := hx.n1
    have hn := nms_len (tsl x)
    simp only [namesA, List.flatMap_cons, List.length_append, List.length_cons] at ih ⊢
    omega
theorem namesA_S {as : List D} (h : ∀ x ∈ as, At x) : ∀ x ∈ namesA as, x ∈ S := fun x hx => by
  obtain ⟨a, ha, h2⟩ := List.mem_flatMap.mp hx
  exact nms_S (h a ha).v x h2
section
variable (ρ : List (Option Sl)) (μ : Mu) {as : List D} (h : ∀ a ∈ as, At a)
include h
theorem names_in_k (hl : as.length ≤ 12) : cal F_names_in [.fz (.tuple as)] ⟨ρ, μ⟩ = some (.fr (.list ((sset (namesA as)).map .str)), ⟨ρ, μ⟩) := by
  refine cal_fr (e := ⟨ρ, μ⟩) ?_
  have hf := forL_fold (t := tgT 2 (tgCons (tgN 2) (tgCons (tgN 3) tgNil))) (b := L_names_in_1) (fun a : D => a) (fun (acc : List Str) a => acc ++ nms (tsl a))
    (fun acc => ⟨[some (.fz (.tuple as)), some (.ow (.list (acc.map .str))), none, none, none], μ⟩) (fun acc rest => (∀ a ∈ rest, At a) ∧ acc.length + 4 * rest.length ≤ 1000) (fun acc a rest hJ => by
      obtain ⟨h1, h2⟩ := hJ
      have ha := h1 a (List.mem_cons_self ..)
      have hn := nms_len (tsl a)
      have h4 := ha.n1
      simp only [List.length_cons] at h2
      refine ⟨?_, fun b hb => h1 b (List.mem_cons_of_mem _ hb), by simp only [List.length_append]; omega⟩
      have hv := ha.v
      obtain ⟨tb, ts, rfl⟩ : ∃ tb ts, a = .tuple [.str tb, .tuple ts] := ⟨_, _, ha.e⟩
      rw [tsl_mk] at *
      have hsz : acc.length + (nms ts).length ≤ 100000 := by omega
      have hl : lcR [4] (tgN 4) (tstM (callM F_is_name (consM (slM 4) (DV.ret [])))) C_names_in_1 (ts, none) ⟨[some (.fz (.tuple as)), some (.ow (.list (acc.map .str))), some (.fz (.str tb)), some (.fz (.tuple ts)), none], μ⟩ =
          some (.fr (.list ((nms ts).map .str)), ⟨[some (.fz (.tuple as)), some (.ow (.list (acc.map .str))), some (.fz (.str tb)), some (.fz (.tuple ts)), none], μ⟩) := by
        rw [lcR_pure (fun t => if nm t = true then some t else none) rfl rfl, nms_filter]
        intro d hd
        cases c : nm d <;> simp [wipeR, lock1, C_names_in_1, is_name_k _ _ (hv d hd), c]
      simp [L_names_in_1, L_names_in_1b, hl, hsz]) as [] ⟨h, by simp; omega⟩
  have e : ∀ (l : List D) (acc : List Str), l.foldl (fun (acc : List Str) a => acc ++ nms (tsl a)) acc = acc ++ namesA l := fun l => by
    induction l with
    | nil => intro acc; simp [namesA]
    | cons a l ih => intro acc; rw [List.foldl_cons, ih]; simp [namesA]
  rw [List.map_id', e] at hf
  have h63 : (namesA as).length < 63 := by have := namesA_len h; omega
  simp at hf
  simp [F_names_in, B_names_in, forR_none, hf, ssetG, strL_map, h63]
end
end K61
end
section
set_option Elab.async false
set_option linter.all false
set_option maxRecDepth 100000
set_option maxHeartbeats 4000000
namespace K61
open PySem PySem.Spec PyProof.Rows L2 DV
/-! ### tables with unlike numbers of terms -/
abbrev Tbs := List (Str × Int)
def evS (kvs : Tbs) (a : D) : Option Tbs := match lk (tbl a) kvs with
  | some m => if m = ((tsl a).length : Int) then some kvs else none
  | none => some (kvs ++ [(tbl a, ((tsl a).length : Int))])
def evenB (as : List D) : Bool := (runO evS [] as).isSome
def ulS (s : Tbs × List Str) (a : D) : Tbs × List Str := match lk (tbl a) s.1 with
  | some m => if m = ((tsl a).length : Int) then s else (s.1, s.2 ++ [tbl a])
  | none => (s.1 ++ [(tbl a, ((tsl a).length : Int))], s.2)
theorem ul_ne : ∀ (as : List D) (s : Tbs × List Str), s.2 ≠ [] → (as.foldl ulS s).2 ≠ []
  | [], s, h => h
  | a :: as, s, h => by
    rw [List.foldl_cons]
    refine ul_ne as _ ?_
    unfold ulS
    split
    · split
      · exact h
      · simp
    · exact h
theorem ul_even : ∀ (as : List D) (kvs : Tbs), decide ((as.foldl ulS (kvs, [])).2 = []) = (runO evS kvs as).isSome
  | [], kvs => rfl
  | a :: as, kvs => by
    rw [List.foldl_cons, runO_cons]
    cases q : lk (tbl a) kvs with
    | none =>
      have e1 : ulS (kvs, []) a = (kvs ++ [(tbl a, ((tsl a).length : Int))], []) := by simp [ulS, q]
      have e2 : evS kvs a = some (kvs ++ [(tbl a, ((tsl a).length : Int))]) := by simp [evS, q]
      rw [e1, e2]
      exact ul_even as _
    | some m =>
      by_cases c : m = ((tsl a).length : Int)
      · have e1 : ulS (kvs, []) a = (kvs, []) := by simp [ulS, q, c]
        have e2 : evS kvs a = some kvs := by simp [evS, q, c]
        rw [e1, e2]
        exact ul_even as _
      · have e1 : ulS (kvs, []) a = (kvs, [tbl a]) := by simp [ulS, q, c]
        have e2 : evS kvs a = none := by simp [evS, q, c]
        rw [e1, e2]
        have := ul_ne as (kvs, [tbl a]) (by simp)
        simp [this]
theorem ul_S : ∀ (as : List D) (s : Tbs × List Str), (∀ a ∈ as, At a) → (∀ x ∈ s.2, x ∈ S) → ∀ x ∈ (as.foldl ulS s).2, x ∈ S
  | [], s, _, h => h
  | a :: as, s, hA, h => by
    rw [List.foldl_cons]
    refine ul_S as _ (fun b hb => hA b (List.mem_cons_of_mem _ hb)) ?_
    have ha := (hA a (List.mem_cons_self ..)).s
    unfold ulS
    split
    · split
      · exact h
      · intro x hx
        rcases List.mem_append.mp hx with hx | hx
        · exact h x hx
        · rw [List.mem_singleton.mp hx]; exact ha
    · exact h
theorem soS {x : Str} (h : x ∈ S) : so x := (gdS x h).1
section
variable (ρ : List (Option Sl)) (μ : Mu) {as : List D} (h : ∀ a ∈ as, At a)
include h
theorem unlike_k {w : D} (hw : w = .tuple as ∨ w = .list as) (hl : as.length ≤ 1000) : ∃ d, (∀ ρ, cal F_unlike_table [.fz w] ⟨ρ, μ⟩ = some (.fz d, ⟨ρ, μ⟩)) ∧ isNoneD d = evenB as := by
  have hf := forL_fold (t := tgT 2 (tgCons (tgN 3) (tgCons (tgN 4) tgNil))) (b := L_unlike_table_1) (fun a : D => a) ulS
    (fun s => ⟨[some (.fz w), some (.ow (.dict (encV .int s.1))), some (.ow (.list (s.2.map .str))), none, none], μ⟩) (fun s rest => (∀ a ∈ rest, At a) ∧ s.1.length + rest.length ≤ 1000 ∧ s.2.length + rest.length ≤ 1000) (fun s a rest hJ => by
      obtain ⟨h1, h2, h3⟩ := hJ
      simp only [List.length_cons] at h2 h3
      obtain ⟨tb, ts, rfl⟩ : ∃ tb ts, a = .tuple [.str tb, .tuple ts] := ⟨_, _, (h1 a (List.mem_cons_self ..)).e⟩
      have hsd := sd_enc (fun i : Int => PyData.int i) (x := tb) (v := (ts.length : Int)) (kvs := s.1) (by omega)
      have hlen : s.2.length < 100000 := by omega
      obtain ⟨kvs, fd⟩ := s
      simp only at hsd h2 h3 hlen
      cases q : lk tb kvs with
      | none =>
        rw [q] at hsd
        have e : ulS (kvs, fd) (.tuple [.str tb, .tuple ts]) = (kvs ++ [(tb, (ts.length : Int))], fd) := by simp [ulS, q]
        rw [e]
        refine ⟨?_, fun b hb => h1 b (List.mem_cons_of_mem _ hb), by simp; omega, by simp; omega⟩
        simp [L_unlike_table_1, L_unlike_table_1b, hsd]
      | some m =>
        rw [q] at hsd
        by_cases c : m = (ts.length : Int)
        · have e : ulS (kvs, fd) (.tuple [.str tb, .tuple ts]) = (kvs, fd) := by simp [ulS, q, c]
          rw [e]
          refine ⟨?_, fun b hb => h1 b (List.mem_cons_of_mem _ hb), by simp; omega, by simp; omega⟩
          have c2 : (m == (ts.length : Int)) = true := by simp [c]
          simp [L_unlike_table_1, L_unlike_table_1b, hsd, c]
        · have e : ulS (kvs, fd) (.tuple [.str tb, .tuple ts]) = (kvs, fd ++ [tb]) := by simp [ulS, q, c]
          rw [e]
          refine ⟨?_, fun b hb => h1 b (List.mem_cons_of_mem _ hb), by simp; omega, by simp; omega⟩
          have c2 : (m == (ts.length : Int)) = false := by simpa using c
          simp [L_unlike_table_1, L_unlike_table_1b, hsd, c2, appG, hlen]) as ([], []) ⟨h, by simpa using hl, by simpa using hl⟩
  rw [List.map_id'] at hf
  have he := ul_even as []
  have hS := ul_S as ([], []) h (by simp)
  generalize as.foldl ulS ([], []) = s at *
  obtain ⟨kvs, fd⟩ := s
  simp only at hf he hS
  have hne := ne_strs (xs := fd) (ys := []) (fun x hx => soS (hS x hx)) (by simp)
  have ee : evenB as = decide (fd = []) := he.symm
  rw [ee]
  simp at hf
  cases fd with
  | nil =>
    have hne : neG (.list []) (.list []) = some (.fz (.bool false)) := rfl
    refine ⟨.none, fun ρ => cal_fz ?_, rfl⟩
    rcases hw with rfl | rfl <;> simp [F_unlike_table, B_unlike_table, forR_none, hf, hne]
  | cons x fd =>
    obtain ⟨y, hy⟩ := min_strs (x := x) (xs := fd) (fun z hz => soS (hS z hz))
    refine ⟨.str y, fun ρ => cal_fz ?_, by simp⟩
    simp at hy hne
    rcases hw with rfl | rfl <;> simp [F_unlike_table, B_unlike_table, forR_none, hf, hne, hy]
end
end K61
end
section
set_option Elab.async false
set_option linter.all false
set_option maxRecDepth 100000
set_option maxHeartbeats 8000000
namespace K61
open PySem PySem.Spec PyProof.Rows L2 DV
/-! ### questions -/
def isQas (hd as : D) : Bool := match hd, as with
  | .tuple hs, .tuple l => decide (1 ≤ (l.length : Int)) && (decide ((l.length : Int) ≤ 6) && (l.all isAt && (evenB l && (nms hs).all fun x => decide (x ∈ namesA l))))
  | _, _ => false
def isQ : D → Bool
  | .tuple [w, hd, as] => isS w "ask" && (tms 0 4 hd && isQas hd as)
  | _ => false
theorem isQ_len {ds : List D} (h : ¬ ds.length = 3) : isQ (.tuple ds) = false := by
  unfold isQ
  split
  · rename_i e; simp only [PyData.tuple.injEq] at e; subst e; simp at h
  · rfl
theorem mem_sset_nm (l : List D) (x : Str) : decide (x ∈ sset (namesA l)) = decide (x ∈ namesA l) := decide_eq_decide.mpr (mem_sset x _)
section
variable (ρ : List (Option Sl)) (μ : Mu) {d : D} (h : Vd S d) (k : d.depth ≤ 60)
include h k
theorem is_question_k : cal F_is_question_of [.fz d] ⟨ρ, μ⟩ = some (.fz (.bool (isQ d)), ⟨ρ, μ⟩) := by
  refine cal_fz (e := ⟨ρ, μ⟩) ?_
  have hr := fun ρ => is_row_k ρ μ (tyKn_vd h) (n := 3)
  cases d with
  | tuple ds =>
    by_cases hc3 : ds.length = 3
    · obtain ⟨a, b, c, rfl⟩ := three_of hc3
      have ha := h.of_tup a (by simp)
      have hb := h.of_tup b (by simp)
      have hc := h.of_tup c (by simp)
      have hka := dep_mem (ds := [a, b, c]) (d := a) (by simp)
      have hkc := dep_mem (ds := [a, b, c]) (d := c) (by simp)
      have hne := DV.ne_str (x := "ask") (ha.shp gdS (by omega)) (by decide +kernel)
      have ht := fun ρ => is_terms_k ρ μ (lo := 0) (hi := 4) hb
      cases c1 : isS a "ask"
      · rw [c1] at hne
        simp [F_is_question_of, B_is_question_of, hr, hne, isQ, c1]
      · rw [c1] at hne
        cases c2 : tms 0 4 b
        · rw [c2] at ht
          simp [F_is_question_of, B_is_question_of, hr, hne, ht, isQ, c1, c2]
        · rw [c2] at ht
          cases b with
          | tuple hs =>
            cases c with
            | tuple l =>
              by_cases d1 : 1 ≤ (l.length : Int)
              · by_cases d2 : (l.length : Int) ≤ 6
                · have hl : lcR [2] (tgN 2) (DV.ret true) C_is_question_of_1 (l, none) ⟨[some (.fz (.tuple [a, .tuple hs, .tuple l])), none, none, none], μ⟩ = some (.fr (.list (l.map fun d => .bool (isAt d))), ⟨[some (.fz (.tuple [a, .tuple hs, .tuple l])), none, none, none], μ⟩) := by
                    refine lcR_mapB isAt rfl rfl fun x hx => ?_
                    simp [wipeR, lock1, C_is_question_of_1, is_atom_k _ _ (hc.of_tup x hx)]
                  cases c3 : l.all isAt
                  · simp [F_is_question_of, B_is_question_of, hr, hne, ht, isQ, isQas, c1, c2, d1, d2, hl, c3]
                  · have hA : ∀ x ∈ l, At x := fun x hx => at_of (hc.of_tup x hx) (List.all_eq_true.mp c3 x hx)
                    have hn := fun ρ => names_in_k ρ μ hA (by omega)
                    obtain ⟨u, hu, eu⟩ := unlike_k μ hA (.inl rfl) (by omega)
                    have hsN : ∀ x ∈ sset (namesA l), so x := fun x hx => soS (namesA_S hA x ((mem_sset x _).mp hx))
                    have hl2 : lcR [3] (tgN 3) (tstM (callM F_is_name (consM (slM 3) (DV.ret [])))) C_is_question_of_2 (hs, none) ⟨[some (.fz (.tuple [a, .tuple hs, .tuple l])), some (.ow (.list ((sset (namesA l)).map .str))), none, none], μ⟩ =
                        some (.fr (.list ((nms hs).map fun x => .bool (decide (x ∈ namesA l)))), ⟨[some (.fz (.tuple [a, .tuple hs, .tuple l])), some (.ow (.list ((sset (namesA l)).map .str))), none, none], μ⟩) := by
                      rw [lcR_pure (fun t => (nmO t).map fun x => .bool (decide (x ∈ namesA l))) rfl rfl]
                      · unfold nms; rw [List.map_filterMap]
                      · intro t hx
                        have hv := hb.of_tup t hx
                        have e := nm_nmO t
                        cases q : nmO t with
                        | none => rw [q] at e; simp [wipeR, lock1, C_is_question_of_2, is_name_k _ _ hv, e]
                        | some x =>
                          rw [q] at e
                          obtain ⟨rfl, _⟩ := nmO_some q
                          have hi := in_strs (soS hv.of_str) hsN
                          rw [mem_sset_nm] at hi
                          simp [wipeR, lock1, C_is_question_of_2, is_name_k _ _ hv, e, hi]
                    cases c4 : evenB l
                    · rw [c4] at eu
                      simp [F_is_question_of, B_is_question_of, hr, hne, ht, isQ, isQas, c1, c2, d1, d2, hl, c3, hn, hu, eu, c4]
                    · rw [c4] at eu
                      simp [F_is_question_of, B_is_question_of, hr, hne, ht, isQ, isQas, c1, c2, d1, d2, hl, c3, hn, hu, eu, c4, hl2]
                · simp [F_is_question_of, B_is_question_of, hr, hne, ht, isQ, isQas, c1, c2, d1, d2]
              · simp [F_is_question_of, B_is_question_of, hr, hne, ht, isQ, isQas, c1, c2, d1]
            | dict kvs => cases hc
            | _ => simp [F_is_question_of, B_is_question_of, hr, hne, ht, isQ, isQas, c1, c2]
          | _ => simp [tms] at c2
    · have c2 : ((ds.length : Int) == 3) = false := by simp; omega
      simp [F_is_question_of, B_is_question_of, hr, c2, isQ_len hc3]
  | dict kvs => cases h
  | _ => simp [F_is_question_of, B_is_question_of, hr, isQ]
end
end K61
end
section
set_option Elab.async false
set_option linter.all false
set_option maxRecDepth 100000
set_option maxHeartbeats 8000000
namespace K61
open PySem PySem.Spec PyProof.Rows L2 DV
/-! ### questions -/
def qat : D → List D
  | .tuple [_, _, .tuple l] => l
  | _ => []
@[simp] theorem qat_mk (a b : D) (l : List D) : qat (.tuple [a, b, .tuple l]) = l := rfl
def qhd : D → List D
  | .tuple [_, .tuple hs, _] => hs
  | _ => []
@[simp] theorem qhd_mk (a b : D) (l : List D) : qhd (.tuple [a, .tuple l, b]) = l := rfl
structure Qk (q : D) : Prop where
  e : q = .tuple [.str "ask", .tuple (qhd q), .tuple (qat q)]
  hl : (qhd q).length ≤ 4
  ht : ∀ t ∈ qhd q, tm t = true
  hv : ∀ t ∈ qhd q, Vd S t
  n0 : 1 ≤ (qat q).length
  n1 : (qat q).length ≤ 6
  a : ∀ a ∈ qat q, At a
  ev : evenB (qat q) = true
  hn : ∀ x ∈ nms (qhd q), x ∈ namesA (qat q)
theorem q_of {q : D} (h : Vd S q) (k : isQ q = true) : Qk q := by
  unfold isQ at k
  split at k
  · rename_i w hd as
    simp only [Bool.and_eq_true] at k
    obtain ⟨k1, k2, k3⟩ := k
    have := isS_eq k1
    subst this
    have hh := h.of_tup hd (by simp)
    have ha := h.of_tup as (by simp)
    cases hd with
    | tuple hs =>
      cases as with
      | tuple l =>
        simp only [tms, Bool.and_eq_true, decide_eq_true_eq, List.all_eq_true] at k2
        simp only [isQas, Bool.and_eq_true, decide_eq_true_eq, List.all_eq_true] at k3
        exact ⟨rfl, by show hs.length ≤ 4; omega, k2.2, hh.of_tup, by show 1 ≤ l.length; omega, by show l.length ≤ 6; omega, fun a h' => at_of (ha.of_tup a h') (k3.2.2.1 a h'), k3.2.2.2.1, k3.2.2.2.2⟩
      | _ => simp [isQas] at k3
    | _ => simp [tms] at k2
  · cases k
theorem isAt_of {a : D} (h : At a) : isAt a = true := by
  rw [h.e]
  have h0 := h.n0
  have h1 := h.n1
  have h2 : ((tsl a).all tm) = true := List.all_eq_true.mpr h.t
  simp only [isAt, wd, h.w, tms, h2, Bool.true_and, Bool.and_true, Bool.and_eq_true, decide_eq_true_eq]
  omega
theorem isQ_of {q : D} (h : Qk q) : isQ q = true := by
  rw [h.e]
  have h0 := h.n0
  have h1 := h.n1
  have h2 := h.hl
  have h3 : ((qhd q).all tm) = true := List.all_eq_true.mpr h.ht
  have h4 : ((qat q).all isAt) = true := List.all_eq_true.mpr fun a ha => isAt_of (h.a a ha)
  have h5 : ((nms (qhd q)).all fun x => decide (x ∈ namesA (qat q))) = true := List.all_eq_true.mpr fun x hx => decide_eq_true (h.hn x hx)
  simp only [isQ, isQas, isS_str, tms, h3, h4, h5, h.ev, Bool.and_true, Bool.and_eq_true, decide_eq_true_eq]
  refine ⟨trivial, ?_, ?_⟩ <;> omega

theorem ix_hd {q : D} (h : Qk q) : ixG q (.int 1) = some (.fz (.tuple (qhd q))) := by rw [h.e]; rfl
theorem ix_at {q : D} (h : Qk q) : ixG q (.int 2) = some (.fz (.tuple (qat q))) := by rw [h.e]; rfl
section
variable (ρ : List (Option Sl)) (μ : Mu)
theorem want_question_k {q : D} (h : Qk q) (v : Vd S q) (k : q.depth ≤ 60) : cal F_want_question [.fz q] ⟨ρ, μ⟩ = some (.fz q, ⟨ρ, μ⟩) := by
  refine cal_fz (e := ⟨ρ, μ⟩) ?_
  have hq := fun ρ => is_question_k ρ μ v k
  rw [isQ_of h] at hq
  simp [F_want_question, B_want_question, hq]
end
end K61
end
section
set_option Elab.async false
set_option linter.all false
set_option maxRecDepth 100000
set_option maxHeartbeats 8000000
namespace K61
open PySem PySem.Spec PyProof.Rows L2 DV
theorem tm_dep {t : D} (h : tm t = true) : t.depth = 0 := by
  cases t with
  | list ds => cases h
  | tuple ds => cases h
  | dict ds => cases h
  | _ => rfl
/-! ### what steps leave, in plain words -/
def mkQ (hs l : List D) : D := .tuple [.str "ask", .tuple hs, .tuple l]
def optD : Option D → D
  | some d => d
  | none => .none
def place (v : D) (n : Nat) : Option Nat := match v with
  | .int i => if 0 ≤ i ∧ i < (n : Int) then some i.toNat else none
  | _ => none
def cutAt (l : List D) (i : Nat) : List D := l.take i ++ l.drop (i + 1)
/-! leads -/
def isP1 : D → Bool
  | .tuple [n, _] => nm n
  | _ => false
def isPr : D → Bool
  | .tuple [n, t] => nm n && tm t
  | _ => false
def prN : D → Str
  | .tuple [.str n, _] => n
  | _ => ""
def prT : D → D
  | .tuple [_, t] => t
  | _ => .none
@[simp] theorem prN_mk (x : Str) (t : D) : prN (.tuple [.str x, t]) = x := rfl
@[simp] theorem prT_mk (x t : D) : prT (.tuple [x, t]) = t := rfl
def prs (ps : List D) : List (Str × D) := ps.map fun p => (prN p, prT p)
def ledOk (l : List D) : D → Bool
  | .tuple ps => ps.all isPr && decide (ps.map prN = sset (namesA l))
  | _ => false
def ld (ps : List (Str × D)) (t : D) : D := match nmO t with
  | some x => (lk x ps).getD t
  | none => t
def ldA (ps : List (Str × D)) (a : D) : D := .tuple [.str (tbl a), .tuple ((tsl a).map (ld ps))]
def unT : D → List D
  | .tuple ps => ps
  | _ => []
@[simp] theorem unT_mk (l : List D) : unT (.tuple l) = l := rfl
/-! orders -/
def intD : D → Int
  | .int i => i
  | _ => 0
def intsL (vs : List D) : List Int := vs.map intD
def rngI (n : Nat) : List Int := (List.range n).map fun k : Nat => (0 : Int) + k
def ordOk (n : Nat) : D → Bool
  | .tuple vs => vs.all cnt && decide (isort (intsL vs) = rngI n)
  | _ => false
def ordL (l : List D) (vs : List D) : List D := (intsL vs).map fun i => (l[i.toNat]?).getD .none
def memL (hs l : List D) (w : Str) (v : D) : Option D :=
  if w = "drop" then (place v l.length).map fun i => mkQ hs (cutAt l i)
  else if w = "add" then if isAt v = true then some (mkQ hs (l ++ [v])) else none
  else if w = "lead" then if ledOk l v = true then some (mkQ (hs.map (ld (prs (unT v)))) (l.map (ldA (prs (unT v))))) else none
  else if ordOk l.length v = true then some (mkQ hs (ordL l (unT v))) else none
/-! facts -/
theorem up_nodup : ∀ {l : List Str}, Up l → l.Nodup
  | [], _ => List.Pairwise.nil
  | x :: l, h => by
    obtain ⟨h1, h2⟩ := List.pairwise_cons.mp h
    refine List.nodup_cons.mpr ⟨fun hx => ?_, up_nodup h2⟩
    have := h1 x hx
    rw [ltS_irr] at this; cases this
theorem pr_of {p : D} (h : isPr p = true) : ∃ x t, p = .tuple [.str x, t] ∧ nmS x = true ∧ tm t = true := by
  unfold isPr at h
  split at h
  · rename_i n t
    simp only [Bool.and_eq_true] at h
    cases n with
    | str x => exact ⟨x, t, rfl, h.1, h.2⟩
    | _ => simp [nm] at h
  · cases h
theorem p1_of {p : D} (h : isP1 p = true) : ∃ x t, p = .tuple [.str x, t] ∧ nmS x = true := by
  unfold isP1 at h
  split at h
  · rename_i n t
    cases n with
    | str x => exact ⟨x, t, rfl, h⟩
    | _ => simp [nm] at h
  · cases h
theorem isPr_eq (p : D) : isPr p = (isP1 p && tm (prT p)) := by
  unfold isPr isP1
  split <;> simp
theorem prs_enc : ∀ {ps : List D}, (∀ p ∈ ps, isPr p = true) → ps = encP (fun d => d) (prs ps)
  | [], _ => rfl
  | p :: ps, h => by
    obtain ⟨x, t, rfl, _⟩ := pr_of (h _ (List.mem_cons_self ..))
    have ih := prs_enc (ps := ps) fun q hq => h q (List.mem_cons_of_mem _ hq)
    show _ :: ps = PyData.tuple [.str x, t] :: encP (fun d => d) (prs ps)
    rw [← ih]
theorem prs_fst (ps : List D) : (prs ps).map Prod.fst = ps.map prN := by simp [prs]
theorem mem_ints {vs : List D} (h : ∀ v ∈ vs, cnt v = true) : vs = (intsL vs).map .int := by
  unfold intsL
  rw [List.map_map]
  refine (List.map_id' vs).symm.trans (List.map_congr_left fun v hv => ?_)
  have := h v hv
  cases v with
  | int i => rfl
  | _ => cases this
theorem intL_ints : ∀ is : List Int, intL (is.map .int) = some is
  | [] => rfl
  | i :: is => by
    have ih := intL_ints is
    simp [intL, ih]
theorem mem_rngI {n : Nat} {i : Int} : i ∈ rngI n ↔ 0 ≤ i ∧ i < n := by
  unfold rngI
  rw [List.mem_map]
  constructor
  · rintro ⟨k, hk, rfl⟩
    have := List.mem_range.mp hk
    omega
  · rintro ⟨h1, h2⟩
    exact ⟨i.toNat, List.mem_range.mpr (by omega), by omega⟩
theorem isort_mem {i : Int} {l : List Int} : i ∈ isort l ↔ i ∈ l := (isort_perm l).mem_iff
theorem rngL_eq (n : Nat) : rngL 0 n = (rngI n).map .int := by simp [rngL, rngI]
theorem eqvAll_ints : ∀ xs ys : List Int, PyData.eqv (.list (xs.map .int)) (.list (ys.map .int)) = decide (xs = ys) := by
  have key : ∀ xs ys : List Int, PyData.eqvAll (xs.map .int) (ys.map .int) = decide (xs = ys) := fun xs => by
    induction xs with
    | nil => intro ys; cases ys <;> simp [PyData.eqvAll]
    | cons x xs ih =>
      intro ys
      cases ys with
      | nil => simp [PyData.eqvAll]
      | cons y ys =>
        simp only [List.map_cons, PyData.eqvAll, ih ys, PyData.eqv]
        by_cases h : x = y <;> by_cases h2 : xs = ys <;> simp [h, h2]
  intro xs ys
  simp only [PyData.eqv]
  exact key xs ys
theorem shp_ints (xs : List Int) : SeqAt.shaped (.list (xs.map .int)) = true := by
  have c : ∀ xs : List Int, PyData.canLayAll0 (xs.map .int) = true := fun xs => by
    induction xs with
    | nil => rfl
    | cons d ds ih => simp [PyData.canLayAll0, PyData.canLay0, ih]
  have dp : (PyData.list (xs.map .int)).depth ≤ 0 + 1 := dep_lst.mpr fun d hd => by
    obtain ⟨x, hx, rfl⟩ := List.mem_map.mp hd
    exact Nat.le_refl _
  unfold SeqAt.shaped
  rw [show (PyData.list (xs.map .int)).canLay0 = PyData.canLayAll0 (xs.map .int) from by simp [PyData.canLay0], c, Bool.true_and, decide_eq_true_eq]
  omega
theorem ne_ints (xs ys : List Int) : neG (.list (xs.map .int)) (.list (ys.map .int)) = some (.fz (.bool (!decide (xs = ys)))) := by
  show (if SeqAt.shaped (.list (xs.map .int)) = true ∧ SeqAt.shaped (.list (ys.map .int)) = true then boolR (!PyData.eqv (.list (xs.map .int)) (.list (ys.map .int))) else none) = _
  rw [if_pos ⟨shp_ints _, shp_ints _⟩, eqvAll_ints]; rfl
theorem ld_tm {ps : List (Str × D)} (h : ∀ x d, lk x ps = some d → tm d = true ∧ Vd S d) {t : D} (ht : tm t = true) (hv : Vd S t) : tm (ld ps t) = true ∧ Vd S (ld ps t) := by
  unfold ld
  cases q : nmO t with
  | none => exact ⟨ht, hv⟩
  | some x =>
    cases c : lk x ps with
    | none => simpa [c] using ⟨ht, hv⟩
    | some d => simpa [c] using h x d c
theorem lk_mem {α : Type} {x : Str} {d : α} : ∀ {ps : List (Str × α)}, lk x ps = some d → (x, d) ∈ ps
  | p :: ps, h => by
    unfold lk at h
    split at h
    · rename_i e
      cases h
      rw [← e]; exact List.mem_cons_self ..
    · exact List.mem_cons_of_mem _ (lk_mem h)
theorem lk_isSome {α : Type} {x : Str} : ∀ {ps : List (Str × α)}, x ∈ ps.map Prod.fst → (lk x ps).isSome = true
  | p :: ps, h => by
    unfold lk
    split
    · rfl
    · rename_i e
      rcases List.mem_cons.mp (show x ∈ p.1 :: ps.map Prod.fst from h) with h | h
      · exact absurd h.symm e
      · exact lk_isSome h
theorem prs_tm {ps : List D} (h : ∀ p ∈ ps, isPr p = true) (hv : ∀ p ∈ ps, Vd S p) : ∀ x d, lk x (prs ps) = some d → tm d = true ∧ Vd S d := fun x d e => by
  obtain ⟨p, hp, e2⟩ := List.mem_map.mp (lk_mem e)
  obtain ⟨y, t, rfl, _, ht⟩ := pr_of (h p hp)
  cases e2
  exact ⟨ht, (hv _ hp).of_tup t (by simp)⟩
theorem at_v {a : D} (h : At a) : Vd S a := by
  rw [h.e]
  refine .tup fun d hd => ?_
  simp only [List.mem_cons, List.not_mem_nil, or_false] at hd
  rcases hd with rfl | rfl
  · exact .str h.s
  · exact .tup h.v
theorem at_dep {a : D} (h : At a) : a.depth ≤ 2 := by
  rw [h.e]
  refine dep_tup.mpr fun d hd => ?_
  simp only [List.mem_cons, List.not_mem_nil, or_false] at hd
  rcases hd with rfl | rfl
  · exact Nat.zero_le _
  · exact dep_tup.mpr fun t ht => Nat.le_of_eq (tm_dep (h.t t ht))
theorem ldA_At {ps : List (Str × D)} (h : ∀ x d, lk x ps = some d → tm d = true ∧ Vd S d) {a : D} (ha : At a) : At (ldA ps a) where
  e := rfl
  w := ha.w
  s := ha.s
  n0 := by show 1 ≤ ((tsl a).map (ld ps)).length; simpa using ha.n0
  n1 := by show ((tsl a).map (ld ps)).length ≤ 4; simpa using ha.n1
  t := fun t ht => by
    obtain ⟨u, hu, rfl⟩ := List.mem_map.mp (show t ∈ (tsl a).map (ld ps) from ht)
    exact (ld_tm h (ha.t u hu) (ha.v u hu)).1
  v := fun t ht => by
    obtain ⟨u, hu, rfl⟩ := List.mem_map.mp (show t ∈ (tsl a).map (ld ps) from ht)
    exact (ld_tm h (ha.t u hu) (ha.v u hu)).2
/-- a head and atoms of right kinds -/
structure Qw (q : D) : Prop where
  v : Vd S q
  d : q.depth ≤ 3
  w : q.weight ≤ 3000
end K61
end
section
set_option Elab.async false
set_option linter.all false
set_option maxRecDepth 100000
set_option maxHeartbeats 8000000
namespace K61
open PySem PySem.Spec PyProof.Rows L2 DV
/-! ### the program's steps of one question -/
section
variable (ρ : List (Option Sl)) (μ : Mu)
/-- all the names are led -/
def Has (ps : List (Str × D)) (ts : List D) : Prop := ∀ t ∈ ts, ∀ x, nmO t = some x → (lk x ps).isSome = true
theorem led_terms_k {ts : List D} {ps : List (Str × D)} {s : Sl} (hs : s = .fz (.dict (encV (fun d => d) ps)) ∨ s = .bo (.dict (encV (fun d => d) ps))) (hv : ∀ t ∈ ts, Vd S t) (hh : Has ps ts) : cal F_led_terms [.fz (.tuple ts), s] ⟨ρ, μ⟩ = some (.fz (.tuple (ts.map (ld ps))), ⟨ρ, μ⟩) := by
  refine cal_fz (e := ⟨ρ, μ⟩) ?_
  have l1 : lcR [2] (tgN 2) (DV.ret true) C_led_terms_1 (ts, none) ⟨[some (.fz (.tuple ts)), some s, none], μ⟩ = some (.fr (.list (ts.map (ld ps))), ⟨[some (.fz (.tuple ts)), some s, none], μ⟩) := by
    refine lcR_map (ld ps) rfl rfl fun t ht => ?_
    have e := nm_nmO t
    cases q : nmO t with
    | none =>
      rw [q] at e
      have e2 : ld ps t = t := by simp [ld, q]
      simp [wipeR, lock1, C_led_terms_1, is_name_k _ _ (hv t ht), e, e2]
    | some x =>
      rw [q] at e
      obtain ⟨d, hd⟩ := Option.isSome_iff_exists.mp (hh t ht x q)
      have e2 : ld ps t = d := by simp [ld, q, hd]
      obtain ⟨rfl, _⟩ := nmO_some q
      have ix := ix_dict (fun d : D => d) hd
      rcases hs with rfl | rfl <;> simp [wipeR, lock1, C_led_terms_1, is_name_k _ _ (hv _ ht), e, e2, ix]
  rcases hs with rfl | rfl <;> simp [F_led_terms, B_led_terms, l1]
theorem led_atoms_k {q : D} (hq : Qk q) {ps : List (Str × D)} {s : Sl} (hs : s = .fz (.dict (encV (fun d => d) ps)) ∨ s = .bo (.dict (encV (fun d => d) ps))) (hh : ∀ a ∈ qat q, Has ps (tsl a)) : cal F_led_atoms [.fz q, s] ⟨ρ, μ⟩ = some (.fr (.list ((qat q).map (ldA ps))), ⟨ρ, μ⟩) := by
  refine cal_fr (e := ⟨ρ, μ⟩) ?_
  have ix2 := ix_at hq
  have l1 : lcR [2, 3] (tgT 2 (tgCons (tgN 2) (tgCons (tgN 3) tgNil))) (DV.ret true) C_led_atoms_1 (qat q, none) ⟨[some (.fz q), some s, none, none], μ⟩ = some (.fr (.list ((qat q).map (ldA ps))), ⟨[some (.fz q), some s, none, none], μ⟩) := by
    refine lcR_map (ldA ps) rfl rfl fun a ha => ?_
    have hA := hq.a a ha
    have hh' := hh a ha
    have hv := hA.v
    obtain ⟨tb, ts, rfl⟩ : ∃ tb ts, a = .tuple [.str tb, .tuple ts] := ⟨_, _, hA.e⟩
    rw [tsl_mk] at *
    have lt1 := fun ρ => led_terms_k ρ μ (s := .fz (.dict (encV (fun d => d) ps))) (.inl rfl) hv hh'
    have lt2 := fun ρ => led_terms_k ρ μ (s := .bo (.dict (encV (fun d => d) ps))) (.inr rfl) hv hh'
    rcases hs with rfl | rfl <;> simp [wipeR, lock1, C_led_atoms_1, lt1, lt2, ldA]
  rcases hs with rfl | rfl <;> simp [F_led_atoms, B_led_atoms, ix2, l1]
end
end K61
end
section
set_option Elab.async false
set_option linter.all false
set_option maxRecDepth 100000
set_option maxHeartbeats 8000000
namespace K61
open PySem PySem.Spec PyProof.Rows L2 DV
/-! ### any value as a map -/
/-- any list against a list of texts: they are these texts -/
theorem eqvAll_strL : ∀ (ds : List D) (ys : List Str), PyData.eqvAll ds (ys.map .str) = decide (strL ds = some ys)
  | [], [] => by simp [PyData.eqvAll, strL]
  | [], y :: ys => by simp [PyData.eqvAll, strL]
  | d :: ds, [] => by
    have : ¬ strL (d :: ds) = some [] := by
      cases d <;> simp [strL]
    simp [PyData.eqvAll, this]
  | d :: ds, y :: ys => by
    simp only [List.map_cons, PyData.eqvAll, eqvAll_strL ds ys, eqv_isS]
    cases d with
    | str x =>
      simp only [strL, isS]
      rw [Bool.eq_iff_iff]
      simp only [Bool.and_eq_true, decide_eq_true_eq, Option.map_eq_some_iff]
      constructor
      · rintro ⟨rfl, h⟩; exact ⟨ys, h, rfl⟩
      · rintro ⟨zs, h, e⟩; cases e; exact ⟨rfl, h⟩
    | _ => simp [isS, strL]
theorem eq_strL {ds : List D} {ys : List Str} (h : SeqAt.shaped (.list ds) = true) (k : ∀ y ∈ ys, so y) : eqG (.list ds) (.list (ys.map .str)) = some (.fz (.bool (decide (strL ds = some ys)))) := by
  have hy : SeqAt.shaped (.list (ys.map .str)) = true := shp_strs k
  unfold eqG
  rw [if_pos ⟨h, hy⟩]
  have e : PyData.eqv (.list ds) (.list (ys.map .str)) = PyData.eqvAll ds (ys.map .str) := by simp [PyData.eqv]
  rw [e, eqvAll_strL]; rfl
end K61
end
section
set_option Elab.async false
set_option linter.all false
set_option maxRecDepth 100000
set_option maxHeartbeats 8000000
namespace K61
open PySem PySem.Spec PyProof.Rows L2 DV
def fstD : D → D
  | .tuple (a :: _) => a
  | _ => .none
def isR : D → Bool
  | .tuple [_, t] => tm t
  | _ => false
def mapOk (l : List D) : D → Bool
  | .tuple ps => decide ((ps.length : Int) = ((sset (namesA l)).length : Int)) && (ps.all isR && decide (strL (ps.map fstD) = some (sset (namesA l))))
  | _ => false
theorem isR_of {p : D} (h : isR p = true) : ∃ a t, p = .tuple [a, t] ∧ tm t = true := by
  unfold isR at h
  split at h
  · exact ⟨_, _, rfl, h⟩
  · cases h
section
variable (ρ : List (Option Sl)) (μ : Mu)
theorem row_k {p : D} (hp : Vd S p) (l : List D) (q v : D) : lcW [3] (tgN 3) (DV.ret true) C_map_dict_1 p (wipeE [3] (lock1 none ⟨[some (.fz q), some (.fz v), some (.ow (.list l)), none], μ⟩)) = some (some (.bool (isR p)), wipeE [3] (lock1 none ⟨[some (.fz q), some (.fz v), some (.ow (.list l)), none], μ⟩)) := by
  have hr := fun ρ => is_row_k ρ μ (tyKn_vd hp) (n := 2)
  cases p with
  | tuple ds =>
    by_cases c : ds.length = 2
    · obtain ⟨a, b, rfl⟩ := two_of c
      simp [wipeR, lock1, C_map_dict_1, hr, is_term_k _ _ (hp.of_tup b (by simp)), isR]
    · have c2 : ((ds.length : Int) == 2) = false := by simp; omega
      have c3 : isR (.tuple ds) = false := by
        unfold isR
        split
        · rename_i e; simp only [PyData.tuple.injEq] at e; subst e; simp at c
        · rfl
      simp [wipeR, lock1, C_map_dict_1, hr, c2, c3]
  | dict kvs => cases hp
  | _ => simp [wipeR, lock1, C_map_dict_1, hr, isR]
end
end K61
end
section
set_option Elab.async false
set_option linter.all false
set_option maxRecDepth 100000
set_option maxHeartbeats 8000000
namespace K61
open PySem PySem.Spec PyProof.Rows L2 DV
def mapR (l : List D) (v : D) : Rs := if mapOk l v = true then .fr (.dict (encV (fun d => d) (prs (unT v)))) else .fz .none
/-- rows that name the names -/
theorem rows_pr : ∀ {ps : List D} {ys : List Str}, ps.all isR = true → strL (ps.map fstD) = some ys → (∀ y ∈ ys, nmS y = true) → (∀ p ∈ ps, isPr p = true) ∧ ps.map prN = ys
  | [], ys, _, h, _ => by
    have : ys = [] := by simpa [strL] using h.symm
    subst this; exact ⟨fun p hp => (by simp at hp), rfl⟩
  | p :: ps, ys, ha, h, hn => by
    rw [List.all_cons, Bool.and_eq_true] at ha
    obtain ⟨a, t, rfl, ht⟩ := isR_of ha.1
    rw [List.map_cons] at h
    cases a with
    | str x =>
      simp only [fstD, strL] at h
      obtain ⟨zs, hz, rfl⟩ := Option.map_eq_some_iff.mp h
      obtain ⟨g1, g2⟩ := rows_pr ha.2 hz fun y hy => hn y (List.mem_cons_of_mem _ hy)
      have nx := hn x (List.mem_cons_self ..)
      refine ⟨fun p hp => ?_, by rw [List.map_cons, g2]; rfl⟩
      rcases List.mem_cons.mp hp with rfl | hp
      · show (nm (.str x) && tm t) = true
        rw [ht, show nm (.str x) = nmS x from rfl, nx]; rfl
      · exact g1 p hp
    | _ => simp [fstD, strL] at h
section
variable (ρ : List (Option Sl)) (μ : Mu)
theorem map_dict_k {q v : D} (hq : Qk q) (hv : Vd S v) (k : v.depth ≤ 50) (hl : (qat q).length ≤ 6) : cal F_map_dict [.fz q, .fz v] ⟨ρ, μ⟩ = some (mapR (qat q) v, ⟨ρ, μ⟩) := by
  have ix2 := ix_at hq
  have hn := fun ρ => names_in_k ρ μ hq.a (by omega)
  have hr := fun (ρ : List (Option Sl)) (n : Int) => is_row_k ρ μ (tyKn_vd hv) (n := n)
  cases v with
  | tuple ps =>
    have hvp := hv.of_tup
    have mk : mapOk (qat q) (.tuple ps) = (decide ((ps.length : Int) = ((sset (namesA (qat q))).length : Int)) && (ps.all isR && decide (strL (ps.map fstD) = some (sset (namesA (qat q)))))) := rfl
    obtain ⟨ns, ens⟩ : ∃ ns, ns = (sset (namesA (qat q))).map PyData.str := ⟨_, rfl⟩
    have nl : ns.length = (sset (namesA (qat q))).length := by rw [ens]; simp
    have l1 : lcR [3] (tgN 3) (DV.ret true) C_map_dict_1 (ps, none) ⟨[some (.fz q), some (.fz (.tuple ps)), some (.ow (.list ns)), none], μ⟩ = some (.fr (.list (ps.map fun p => .bool (isR p))), ⟨[some (.fz q), some (.fz (.tuple ps)), some (.ow (.list ns)), none], μ⟩) :=
      lcR_mapB isR rfl rfl fun p hp => row_k μ (hvp p hp) ns q _
    rw [← ens] at hn
    by_cases c0 : (ps.length : Int) = ((sset (namesA (qat q))).length : Int)
    · cases c1 : ps.all isR
      · have e : mapR (qat q) (.tuple ps) = .fz .none := by unfold mapR; rw [mk, c1]; simp
        rw [e]
        refine cal_fz (e := ⟨ρ, μ⟩) ?_
        simp [F_map_dict, B_map_dict, ix2, hn, hr, l1, c1, nl, c0]
      · have l2 : lcR [3] (tgN 3) (DV.ret true) C_map_dict_2 (ps, none) ⟨[some (.fz q), some (.fz (.tuple ps)), some (.ow (.list ns)), none], μ⟩ = some (.fr (.list (ps.map fstD)), ⟨[some (.fz q), some (.fz (.tuple ps)), some (.ow (.list ns)), none], μ⟩) := by
          refine lcR_map fstD rfl rfl fun p hp => ?_
          obtain ⟨a, t, rfl, _⟩ := isR_of (List.all_eq_true.mp c1 p hp)
          simp [wipeR, lock1, C_map_dict_2, fstD]
        have shp : SeqAt.shaped (.list (ps.map fstD)) = true := by
          have vl : Vd S (.list (ps.map fstD)) := .lst fun d hd => by
            obtain ⟨p, hp, rfl⟩ := List.mem_map.mp hd
            obtain ⟨a, t, rfl, _⟩ := isR_of (List.all_eq_true.mp c1 p hp)
            exact (hvp _ hp).of_tup a (by simp)
          refine vl.shp gdS ?_
          have : (PyData.list (ps.map fstD)).depth ≤ 50 + 1 := dep_lst.mpr fun d hd => by
            obtain ⟨p, hp, rfl⟩ := List.mem_map.mp hd
            obtain ⟨a, t, rfl, _⟩ := isR_of (List.all_eq_true.mp c1 p hp)
            have h1 := dep_mem hp
            have h2 := dep_mem (ds := [a, t]) (d := a) (by simp)
            show a.depth ≤ 50
            omega
          omega
        have eq := eq_strL shp (ys := sset (namesA (qat q))) fun x hx => soS (namesA_S hq.a x ((mem_sset x _).mp hx))
        rw [← ens] at eq
        cases c2 : decide (strL (ps.map fstD) = some (sset (namesA (qat q))))
        · have e : mapR (qat q) (.tuple ps) = .fz .none := by unfold mapR; rw [mk, c2]; simp
          rw [e]
          rw [c2] at eq
          refine cal_fz (e := ⟨ρ, μ⟩) ?_
          simp [F_map_dict, B_map_dict, ix2, hn, hr, l1, c1, nl, c0, l2, eq]
        · have e : mapR (qat q) (.tuple ps) = .fr (.dict (encV (fun d => d) (prs ps))) := by unfold mapR; rw [mk, c1, c2, decide_eq_true c0]; rfl
          rw [e]
          rw [c2] at eq
          obtain ⟨g1, g2⟩ := rows_pr c1 (of_decide_eq_true c2) fun y hy => by
            have hy2 := (mem_sset y _).mp hy
            obtain ⟨a, _, ha⟩ := List.mem_flatMap.mp hy2
            obtain ⟨t, _, ht⟩ := List.mem_filterMap.mp ha
            exact (nmO_some ht).2
          have hd := dict_tup (fun d : D => d) (prs ps)
          rw [← prs_enc g1, dictP_nodup (by rw [prs_fst, g2]; exact up_nodup (up_sset _))] at hd
          refine cal_fr (e := ⟨ρ, μ⟩) ?_
          simp [F_map_dict, B_map_dict, ix2, hn, hr, l1, c1, nl, c0, l2, eq, hd]
    · have e : mapR (qat q) (.tuple ps) = .fz .none := by unfold mapR; rw [mk, decide_eq_false c0]; rfl
      rw [e]
      refine cal_fz (e := ⟨ρ, μ⟩) ?_
      simp [F_map_dict, B_map_dict, ix2, hn, hr, nl, c0]
  | dict kvs => cases hv
  | _ =>
    refine cal_fz (e := ⟨ρ, μ⟩) ?_
    simp [F_map_dict, B_map_dict, ix2, hn, hr]
end
end K61
end
section
set_option Elab.async false
set_option linter.all false
set_option maxRecDepth 100000
set_option maxHeartbeats 8000000
namespace K61
open PySem PySem.Spec PyProof.Rows L2 DV
/-! ### the program's judge -/
theorem preS_S : preS S = true := by decide +kernel
theorem tm_nb {d : D} (h : tm d = true) : Nb d := by
  cases d with
  | int i => exact .int i
  | str x => exact .str x
  | _ => cases h
theorem at_nb {a : D} (h : At a) : Nb a := by
  rw [h.e]
  refine .tup fun d hd => ?_
  simp only [List.mem_cons, List.not_mem_nil, or_false] at hd
  rcases hd with rfl | rfl
  · exact .str _
  · exact .tup fun t ht => tm_nb (h.t t ht)
theorem at_shp {a : D} (h : At a) : SeqAt.shaped a = true := (at_v h).shp gdS (by have := at_dep h; omega)
theorem eq_sh {d e : D} (h : SeqAt.shaped d = true) (k : SeqAt.shaped e = true) : eqG d e = some (.fz (.bool (PyData.eqv d e))) := by
  show (if SeqAt.shaped d = true ∧ SeqAt.shaped e = true then boolR (PyData.eqv d e) else none) = _
  rw [if_pos ⟨h, k⟩]; rfl
theorem ne_sh {d e : D} (h : SeqAt.shaped d = true) (k : SeqAt.shaped e = true) : neG d e = some (.fz (.bool (!PyData.eqv d e))) := by
  show (if SeqAt.shaped d = true ∧ SeqAt.shaped e = true then boolR (!PyData.eqv d e) else none) = _
  rw [if_pos ⟨h, k⟩]; rfl
theorem in_tup {d : D} {ds : List D} (h : SeqAt.shaped d = true) (k : SeqAt.shaped (.tuple ds) = true) : inG d (.tuple ds) = some (.fz (.bool (ds.any fun z => PyData.eqv z d))) := by
  have e : isIn d (.tuple ds) = some (ds.any fun z => PyData.eqv z d) := by
    have hh := And.intro h k
    cases d <;> exact if_pos hh
  unfold inG; rw [e]; rfl
theorem notIn_tup {d : D} {ds : List D} (h : SeqAt.shaped d = true) (k : SeqAt.shaped (.tuple ds) = true) : notInG d (.tuple ds) = some (.fz (.bool (!(ds.any fun z => PyData.eqv z d)))) := by
  have e : isIn d (.tuple ds) = some (ds.any fun z => PyData.eqv z d) := by
    have hh := And.intro h k
    cases d <;> exact if_pos hh
  unfold notInG; rw [e]; rfl
theorem in_lst {d : D} {ds : List D} (h : SeqAt.shaped d = true) (k : SeqAt.shaped (.list ds) = true) : inG d (.list ds) = some (.fz (.bool (ds.any fun z => PyData.eqv z d))) := by
  have e : isIn d (.list ds) = some (ds.any fun z => PyData.eqv z d) := by
    have hh := And.intro h k
    cases d <;> exact if_pos hh
  unfold inG; rw [e]; rfl
theorem notIn_lst {d : D} {ds : List D} (h : SeqAt.shaped d = true) (k : SeqAt.shaped (.list ds) = true) : notInG d (.list ds) = some (.fz (.bool (!(ds.any fun z => PyData.eqv z d)))) := by
  have e : isIn d (.list ds) = some (ds.any fun z => PyData.eqv z d) := by
    have hh := And.intro h k
    cases d <;> exact if_pos hh
  unfold notInG; rw [e]; rfl
theorem shp_lst {ds : List D} {k : Nat} (hk : k < 64) (h : ∀ d ∈ ds, Vd S d ∧ d.depth ≤ k) : SeqAt.shaped (.list ds) = true := by
  refine (Vd.lst fun d hd => (h d hd).1).shp gdS ?_
  have := (dep_lst (k := k)).mpr fun d hd => (h d hd).2
  omega
theorem shp_tup {ds : List D} {k : Nat} (hk : k < 64) (h : ∀ d ∈ ds, Vd S d ∧ d.depth ≤ k) : SeqAt.shaped (.tuple ds) = true := by
  refine (Vd.tup fun d hd => (h d hd).1).shp gdS ?_
  have := (dep_tup (k := k)).mpr fun d hd => (h d hd).2
  omega
def hasB (l : List D) (a : D) : Bool := l.any fun z => PyData.eqv z a
def leadsB (hs l : List D) (ps : List (Str × D)) (g gh : List D) : Bool := PyData.eqv (.tuple (hs.map (ld ps))) (.tuple gh) && (l.map (ldA ps)).all (hasB g)
def TmV (ps : List (Str × D)) : Prop := ∀ x d, lk x ps = some d → tm d = true ∧ Vd S d
section
variable (ρ : List (Option Sl)) (μ : Mu)
theorem leads_to_k {q : D} (hq : Qk q) {ps : List (Str × D)} {s : Sl} (hs : s = .fz (.dict (encV (fun d => d) ps)) ∨ s = .bo (.dict (encV (fun d => d) ps))) (h1 : Has ps (qhd q)) (h2 : ∀ a ∈ qat q, Has ps (tsl a)) (tv : TmV ps)
    {g gh : List D} (hg : ∀ a ∈ g, At a) (hgh : ∀ t ∈ gh, tm t = true ∧ Vd S t) : cal F_leads_to [.fz q, s, .fz (.tuple g), .fz (.tuple gh)] ⟨ρ, μ⟩ = some (.fz (.bool (leadsB (qhd q) (qat q) ps g gh)), ⟨ρ, μ⟩) := by
  refine cal_fz (e := ⟨ρ, μ⟩) ?_
  unfold leadsB
  have ix1 := ix_hd hq
  have lt1 := fun ρ => led_terms_k ρ μ (s := .fz (.dict (encV (fun d => d) ps))) (.inl rfl) hq.hv h1
  have lt2 := fun ρ => led_terms_k ρ μ (s := .bo (.dict (encV (fun d => d) ps))) (.inr rfl) hq.hv h1
  have la1 := fun ρ => led_atoms_k ρ μ hq (s := .fz (.dict (encV (fun d => d) ps))) (.inl rfl) h2
  have la2 := fun ρ => led_atoms_k ρ μ hq (s := .bo (.dict (encV (fun d => d) ps))) (.inr rfl) h2
  have sh1 : SeqAt.shaped (.tuple ((qhd q).map (ld ps))) = true := shp_tup (k := 0) (by omega) fun d hd => by
    obtain ⟨t, ht, rfl⟩ := List.mem_map.mp hd
    have := ld_tm tv (hq.ht t ht) (hq.hv t ht)
    exact ⟨this.2, Nat.le_of_eq (tm_dep this.1)⟩
  have sh2 : SeqAt.shaped (.tuple gh) = true := shp_tup (k := 0) (by omega) fun d hd => ⟨(hgh d hd).2, Nat.le_of_eq (tm_dep (hgh d hd).1)⟩
  have eq := eq_sh sh1 sh2
  have sg : SeqAt.shaped (.tuple g) = true := shp_tup (k := 2) (by omega) fun d hd => ⟨at_v (hg d hd), at_dep (hg d hd)⟩
  have l1 : ∀ s, lcR [4] (tgN 4) (DV.ret true) C_leads_to_1 ((qat q).map (ldA ps), none) ⟨[some (.fz q), some s, some (.fz (.tuple g)), some (.fz (.tuple gh)), none], μ⟩ = some (.fr (.list (((qat q).map (ldA ps)).map fun a => .bool (hasB g a))), ⟨[some (.fz q), some s, some (.fz (.tuple g)), some (.fz (.tuple gh)), none], μ⟩) := fun s => by
    refine lcR_mapB (hasB g) rfl rfl fun a ha => ?_
    obtain ⟨b, hb, rfl⟩ := List.mem_map.mp ha
    have i := in_tup (at_shp (ldA_At tv (hq.a b hb))) sg
    simp [wipeR, lock1, C_leads_to_1, i, hasB]
  cases c : PyData.eqv (.tuple ((qhd q).map (ld ps))) (.tuple gh)
  · rw [c] at eq
    rcases hs with rfl | rfl <;> simp [F_leads_to, B_leads_to, ix1, lt1, lt2, eq]
  · rw [c] at eq
    have am := all_map (hasB g) ((qat q).map (ldA ps))
    generalize (qat q).map (ldA ps) = la at *
    rcases hs with rfl | rfl <;> simp [F_leads_to, B_leads_to, ix1, lt1, lt2, la1, la2, eq, l1, am]
end
end K61
end
section
set_option Elab.async false
set_option linter.all false
set_option maxRecDepth 100000
set_option maxHeartbeats 8000000
namespace K61
open PySem PySem.Spec PyProof.Rows L2 DV
/-! ### the law's look at a map, in plain words -/
def isRw : D → Bool
  | .tuple [_, _] => true
  | _ => false
def sndD : D → D
  | .tuple [_, t] => t
  | _ => .none
def scal : D → Bool
  | .int _ => true
  | .str _ => true
  | _ => false
def lawOk (l : List D) : D → Bool
  | .tuple ps => ps.all isRw && (decide (strL (ps.map fstD) = some (sset (namesA l))) && ps.all fun p => scal (sndD p))
  | _ => false
theorem tm_scal {d : D} (h : tm d = true) : scal d = true := by
  cases d with
  | int i => rfl
  | str x => rfl
  | _ => cases h
theorem scal_nb {d : D} (h : scal d = true) : Nb d := by
  cases d with
  | int i => exact .int i
  | str x => exact .str x
  | _ => cases h
theorem isRw_of {p : D} (h : isRw p = true) : ∃ a t, p = .tuple [a, t] := by
  unfold isRw at h
  split at h
  · exact ⟨_, _, rfl⟩
  · cases h
theorem strL_len : ∀ {ds : List D} {xs : List Str}, strL ds = some xs → ds.length = xs.length
  | [], xs, h => by
    have : xs = [] := by simpa [strL] using h.symm
    rw [this]; rfl
  | d :: ds, xs, h => by
    cases d with
    | str x =>
      simp only [strL] at h
      obtain ⟨zs, hz, rfl⟩ := Option.map_eq_some_iff.mp h
      simp [strL_len hz]
    | _ => simp [strL] at h
/-- rows of two whose first ones are texts -/
theorem rows_enc : ∀ {ps : List D} {ys : List Str}, ps.all isRw = true → strL (ps.map fstD) = some ys → ps = encP (fun d => d) (prs ps) ∧ ps.map prN = ys ∧ ∀ p ∈ ps, p = .tuple [.str (prN p), prT p]
  | [], ys, _, h => by
    have : ys = [] := by simpa [strL] using h.symm
    subst this; exact ⟨rfl, rfl, fun p hp => by cases hp⟩
  | p :: ps, ys, ha, h => by
    rw [List.all_cons, Bool.and_eq_true] at ha
    obtain ⟨a, t, rfl⟩ := isRw_of ha.1
    rw [List.map_cons] at h
    cases a with
    | str x =>
      simp only [fstD, strL] at h
      obtain ⟨zs, hz, rfl⟩ := Option.map_eq_some_iff.mp h
      obtain ⟨g1, g2, g3⟩ := rows_enc ha.2 hz
      refine ⟨?_, by rw [List.map_cons, g2]; rfl, fun p hp => ?_⟩
      · show _ :: ps = PyData.tuple [.str x, t] :: encP (fun d => d) (prs ps)
        rw [← g1]
      · rcases List.mem_cons.mp hp with rfl | hp
        · rfl
        · exact g3 p hp
    | _ => simp [fstD, strL] at h
theorem lk_nodup {α : Type} {x : Str} {d : α} : ∀ {ps : List (Str × α)}, (ps.map Prod.fst).Nodup → (x, d) ∈ ps → lk x ps = some d
  | p :: ps, hn, h => by
    have h1 := List.nodup_cons.mp (show (p.1 :: ps.map Prod.fst).Nodup from hn)
    unfold lk
    rcases List.mem_cons.mp h with h | h
    · rw [← h]; simp
    · have : ¬ p.1 = x := fun e => h1.1 (e ▸ List.mem_map.mpr ⟨(x, d), h, rfl⟩)
      rw [if_neg this]
      exact lk_nodup h1.2 h
structure MapF (l : List D) (ps : List D) : Prop where
  enc : ps = encP (fun d => d) (prs ps)
  nm : ps.map prN = sset (namesA l)
  sc : ∀ p ∈ ps, scal (prT p) = true
  row : ∀ p ∈ ps, p = .tuple [.str (prN p), prT p]
  len : ps.length = (sset (namesA l)).length
theorem lawOk_of {l : List D} {v : D} (h : lawOk l v = true) : ∃ ps, v = .tuple ps ∧ MapF l ps := by
  unfold lawOk at h
  split at h
  · rename_i ps
    simp only [Bool.and_eq_true, decide_eq_true_eq] at h
    obtain ⟨g1, g2, g3⟩ := rows_enc h.1 h.2.1
    refine ⟨ps, rfl, g1, g2, fun p hp => ?_, g3, ?_⟩
    · have := List.all_eq_true.mp h.2.2 p hp
      rw [g3 p hp] at this
      exact this
    · have := strL_len h.2.1
      simpa using this
  · cases h
theorem of_mapF {l ps : List D} (h : MapF l ps) : lawOk l (.tuple ps) = true := by
  have e1 : ps.all isRw = true := List.all_eq_true.mpr fun p hp => by rw [h.row p hp]; rfl
  have e2 : ps.map fstD = (sset (namesA l)).map .str := by
    rw [← h.nm, List.map_map]
    refine List.map_congr_left fun p hp => ?_
    rw [h.row p hp]; rfl
  have e3 : (ps.all fun p => scal (sndD p)) = true := List.all_eq_true.mpr fun p hp => by
    have := h.sc p hp
    rw [h.row p hp]
    exact this
  simp only [lawOk, e1, e2, e3, strL_map, Bool.true_and, Bool.and_true, decide_eq_true_eq]
theorem mapOk_lawOk {l : List D} {v : D} (h : mapOk l v = true) : lawOk l v = true := by
  cases v with
  | tuple ps =>
    simp only [mapOk, Bool.and_eq_true, decide_eq_true_eq, List.all_eq_true] at h
    have e1 : ps.all isRw = true := List.all_eq_true.mpr fun p hp => by
      obtain ⟨a, t, rfl, _⟩ := isR_of (h.2.1 p hp); rfl
    have e3 : (ps.all fun p => scal (sndD p)) = true := List.all_eq_true.mpr fun p hp => by
      obtain ⟨a, t, rfl, ht⟩ := isR_of (h.2.1 p hp)
      exact tm_scal ht
    simp only [lawOk, e1, e3, h.2.2, Bool.true_and, Bool.and_true, decide_eq_true_eq]
  | _ => cases h
theorem prs_lk {l ps : List D} (h : MapF l ps) {p : D} (hp : p ∈ ps) : lk (prN p) (prs ps) = some (prT p) :=
  lk_nodup (by rw [prs_fst, h.nm]; exact up_nodup (up_sset _)) (List.mem_map.mpr ⟨p, hp, rfl⟩)
theorem mapF_tm {l ps g : List D} (h : MapF l ps) (hl : ∀ a ∈ l, At a) (hg : ∀ a ∈ g, At a) (hv : ∀ p ∈ ps, Vd S p) (k : (l.map (ldA (prs ps))).all (hasB g) = true) : ∀ p ∈ ps, tm (prT p) = true := by
  intro p hp
  have hx : prN p ∈ namesA l := (mem_sset _ _).mp (by rw [← h.nm]; exact List.mem_map.mpr ⟨p, hp, rfl⟩)
  obtain ⟨a, ha, hx2⟩ := List.mem_flatMap.mp hx
  obtain ⟨t, ht, et⟩ := List.mem_filterMap.mp hx2
  have k1 := List.all_eq_true.mp k (ldA (prs ps) a) (List.mem_map.mpr ⟨a, ha, rfl⟩)
  obtain ⟨z, hz, ez⟩ := List.any_eq_true.mp k1
  have sc : ∀ x d, lk x (prs ps) = some d → scal d = true := fun x d e => by
    obtain ⟨q, hq, e2⟩ := List.mem_map.mp (lk_mem e)
    cases e2
    exact h.sc q hq
  have nb : Nb (ldA (prs ps) a) := by
    refine .tup fun d hd => ?_
    simp only [List.mem_cons, List.not_mem_nil, or_false] at hd
    rcases hd with rfl | rfl
    · exact .str _
    · refine .tup fun u hu => ?_
      obtain ⟨w, hw, rfl⟩ := List.mem_map.mp hu
      unfold ld
      cases q : nmO w with
      | none => exact tm_nb ((hl a ha).t w hw)
      | some x =>
        cases c : lk x (prs ps) with
        | none => simpa [c] using tm_nb ((hl a ha).t w hw)
        | some d => simpa [c] using scal_nb (sc x d c)
  have e := (eqv_nb (at_nb (hg z hz)) _ nb).mp ez
  have hz2 := hg z hz
  rw [e] at hz2
  have := hz2.t (ld (prs ps) t) (List.mem_map.mpr ⟨t, ht, rfl⟩)
  unfold ld at this
  rw [et] at this
  simp only [prs_lk h hp, Option.getD_some] at this
  exact this
theorem maps_alike {hs l g gh : List D} {v : D} (hl : ∀ a ∈ l, At a) (hg : ∀ a ∈ g, At a) (hv : Vd S v) :
    (mapOk l v && leadsB hs l (prs (unT v)) g gh) = (lawOk l v && leadsB hs l (prs (unT v)) g gh) := by
  rw [Bool.eq_iff_iff, Bool.and_eq_true, Bool.and_eq_true]
  constructor
  · rintro ⟨h1, h2⟩; exact ⟨mapOk_lawOk h1, h2⟩
  · rintro ⟨h1, h2⟩
    refine ⟨?_, h2⟩
    obtain ⟨ps, rfl, F⟩ := lawOk_of h1
    rw [unT_mk] at h2
    unfold leadsB at h2
    rw [Bool.and_eq_true] at h2
    have ht := mapF_tm F hl hg hv.of_tup h2.2
    have e1 : ps.all isR = true := List.all_eq_true.mpr fun p hp => by
      rw [F.row p hp]; exact ht p hp
    have e2 : ps.map fstD = (sset (namesA l)).map .str := by
      rw [← F.nm, List.map_map]
      refine List.map_congr_left fun p hp => ?_
      rw [F.row p hp]; rfl
    simp only [mapOk, e1, e2, strL_map, F.len, Bool.true_and, Bool.and_true, decide_true]
end K61
end
section
set_option Elab.async false
set_option linter.all false
set_option maxRecDepth 100000
set_option maxHeartbeats 8000000
namespace K61
open PySem PySem.Spec PyProof.Rows L2 DV
/-! ### the law's names, led terms, led atoms -/
section
variable (ρ : List (Option Sl)) (μ : Mu)
theorem l_names_k {q : D} (hq : Qk q) : cal F_u_law_names [.fz q] ⟨ρ, μ⟩ = some (.fr (.list ((sset (namesA (qat q))).map .str)), ⟨ρ, μ⟩) := by
  refine cal_fr (e := ⟨ρ, μ⟩) ?_
  have ix2 := ix_at hq
  have h := hq.a
  have hl := hq.n1
  generalize qat q = as at *
  have hf := forL_fold (t := tgT 2 (tgCons (tgN 2) (tgCons (tgN 3) tgNil))) (b := L_u_law_names_1) (fun a : D => a) (fun (acc : List Str) a => acc ++ nms (tsl a))
    (fun acc => ⟨[some (.fz q), some (.ow (.list (acc.map .str))), none, none, none], μ⟩) (fun acc rest => (∀ a ∈ rest, At a) ∧ acc.length + 4 * rest.length ≤ 1000) (fun acc a rest hJ => by
      obtain ⟨h1, h2⟩ := hJ
      have ha := h1 a (List.mem_cons_self ..)
      have hn := nms_len (tsl a)
      have h4 := ha.n1
      simp only [List.length_cons] at h2
      refine ⟨?_, fun b hb => h1 b (List.mem_cons_of_mem _ hb), by simp only [List.length_append]; omega⟩
      have hv := ha.v
      have ht := ha.t
      obtain ⟨tb, ts, rfl⟩ : ∃ tb ts, a = .tuple [.str tb, .tuple ts] := ⟨_, _, ha.e⟩
      rw [tsl_mk] at *
      have hsz : acc.length + (nms ts).length ≤ 100000 := by omega
      have hl : lcR [4] (tgN 4) (tstM (callM F_u_law_is_name (consM (slM 4) (DV.ret [])))) C_u_law_names_1 (ts, none) ⟨[some (.fz q), some (.ow (.list (acc.map .str))), some (.fz (.str tb)), some (.fz (.tuple ts)), none], μ⟩ =
          some (.fr (.list ((nms ts).map .str)), ⟨[some (.fz q), some (.ow (.list (acc.map .str))), some (.fz (.str tb)), some (.fz (.tuple ts)), none], μ⟩) := by
        rw [lcR_pure (fun t => if nm t = true then some t else none) rfl rfl, nms_filter]
        intro d hd
        cases c : nm d <;> simp [wipeR, lock1, C_u_law_names_1, l_is_name_k _ _ (hv d hd) (ht d hd), c]
      simp [L_u_law_names_1, L_u_law_names_1b, hl, hsz]) as [] ⟨h, by simp; omega⟩
  have e : ∀ (l : List D) (acc : List Str), l.foldl (fun (acc : List Str) a => acc ++ nms (tsl a)) acc = acc ++ namesA l := fun l => by
    induction l with
    | nil => intro acc; simp [namesA]
    | cons a l ih => intro acc; rw [List.foldl_cons, ih]; simp [namesA]
  rw [List.map_id', e] at hf
  have h63 : (namesA as).length < 63 := by have := namesA_len h; omega
  simp at hf
  simp [F_u_law_names, B_u_law_names, ix2, forR_none, hf, ssetG, strL_map, h63]
theorem l_led_k {ts : List D} {ps : List (Str × D)} {s : Sl} (hs : s = .fz (.dict (encV (fun d => d) ps)) ∨ s = .bo (.dict (encV (fun d => d) ps))) (hv : ∀ t ∈ ts, Vd S t) (ht : ∀ t ∈ ts, tm t = true) (hh : Has ps ts) : cal F_u_law_led [.fz (.tuple ts), s] ⟨ρ, μ⟩ = some (.fz (.tuple (ts.map (ld ps))), ⟨ρ, μ⟩) := by
  refine cal_fz (e := ⟨ρ, μ⟩) ?_
  have l1 : lcR [2] (tgN 2) (DV.ret true) C_u_law_led_1 (ts, none) ⟨[some (.fz (.tuple ts)), some s, none], μ⟩ = some (.fr (.list (ts.map (ld ps))), ⟨[some (.fz (.tuple ts)), some s, none], μ⟩) := by
    refine lcR_map (ld ps) rfl rfl fun t hm => ?_
    have e := nm_nmO t
    have tt := ht t hm
    cases q : nmO t with
    | none =>
      rw [q] at e
      have e2 : ld ps t = t := by simp [ld, q]
      simp [wipeR, lock1, C_u_law_led_1, l_is_name_k _ _ (hv t hm) tt, e, e2]
    | some x =>
      rw [q] at e
      obtain ⟨d, hd⟩ := Option.isSome_iff_exists.mp (hh t hm x q)
      have e2 : ld ps t = d := by simp [ld, q, hd]
      obtain ⟨rfl, _⟩ := nmO_some q
      have ix := ix_dict (fun d : D => d) hd
      rcases hs with rfl | rfl <;> simp [wipeR, lock1, C_u_law_led_1, l_is_name_k _ _ (hv _ hm) tt, e, e2, ix]
  rcases hs with rfl | rfl <;> simp [F_u_law_led, B_u_law_led, l1]
theorem l_atoms_k {q : D} (hq : Qk q) {ps : List (Str × D)} {s : Sl} (hs : s = .fz (.dict (encV (fun d => d) ps)) ∨ s = .bo (.dict (encV (fun d => d) ps))) (hh : ∀ a ∈ qat q, Has ps (tsl a)) : cal F_u_law_atoms [.fz q, s] ⟨ρ, μ⟩ = some (.fr (.list ((qat q).map (ldA ps))), ⟨ρ, μ⟩) := by
  refine cal_fr (e := ⟨ρ, μ⟩) ?_
  have ix2 := ix_at hq
  have l1 : lcR [2, 3] (tgT 2 (tgCons (tgN 2) (tgCons (tgN 3) tgNil))) (DV.ret true) C_u_law_atoms_1 (qat q, none) ⟨[some (.fz q), some s, none, none], μ⟩ = some (.fr (.list ((qat q).map (ldA ps))), ⟨[some (.fz q), some s, none, none], μ⟩) := by
    refine lcR_map (ldA ps) rfl rfl fun a ha => ?_
    have hA := hq.a a ha
    have hh' := hh a ha
    have hv := hA.v
    have ht := hA.t
    obtain ⟨tb, ts, rfl⟩ : ∃ tb ts, a = .tuple [.str tb, .tuple ts] := ⟨_, _, hA.e⟩
    rw [tsl_mk] at *
    have lt1 := fun ρ => l_led_k ρ μ (s := .fz (.dict (encV (fun d => d) ps))) (.inl rfl) hv ht hh'
    have lt2 := fun ρ => l_led_k ρ μ (s := .bo (.dict (encV (fun d => d) ps))) (.inr rfl) hv ht hh'
    rcases hs with rfl | rfl <;> simp [wipeR, lock1, C_u_law_atoms_1, lt1, lt2, ldA]
  rcases hs with rfl | rfl <;> simp [F_u_law_atoms, B_u_law_atoms, ix2, l1]
end
/-- all names of a question are led by a map of them -/
theorem mapF_has {q : D} (hq : Qk q) {ps : List D} (F : MapF (qat q) ps) : Has (prs ps) (qhd q) ∧ ∀ a ∈ qat q, Has (prs ps) (tsl a) := by
  have key : ∀ x ∈ namesA (qat q), (lk x (prs ps)).isSome = true := fun x hx => by
    refine lk_isSome ?_
    rw [prs_fst, F.nm]
    exact (mem_sset x _).mpr hx
  refine ⟨fun t ht x ex => key x ?_, fun a ha t ht x ex => key x ?_⟩
  · exact hq.hn x (List.mem_filterMap.mpr ⟨t, ht, ex⟩)
  · exact List.mem_flatMap.mpr ⟨a, ha, List.mem_filterMap.mpr ⟨t, ht, ex⟩⟩
theorem scal_dep {d : D} (h : scal d = true) : d.depth = 0 := by
  cases d with
  | int i => rfl
  | str x => rfl
  | _ => cases h
theorem scal_wt {d : D} (h : scal d = true) (hv : Vd S d) : d.weight ≤ 40 := by
  cases d with
  | int i =>
    have := log_lt hv.of_int
    simp only [PyData.weight]
    split <;> omega
  | str x => simpa only [PyData.weight] using (gdS x hv.of_str).2.2
  | _ => cases h
/-- a led term: an int or a text -/
structure Sc (d : D) : Prop where
  s : scal d = true
  v : Vd S d
theorem ld_sc {ps : List (Str × D)} (h : ∀ x d, lk x ps = some d → Sc d) {t : D} (ht : tm t = true) (hv : Vd S t) : Sc (ld ps t) := by
  unfold ld
  cases q : nmO t with
  | none => exact ⟨tm_scal ht, hv⟩
  | some x =>
    cases c : lk x ps with
    | none => simpa [c] using (⟨tm_scal ht, hv⟩ : Sc t)
    | some d => simpa [c] using h x d c
/-- a tuple of ints or texts, an atom of such: may be shown -/
structure Sh (k w : Nat) (d : D) : Prop where
  v : Vd S d
  n : Nb d
  k : d.depth ≤ k
  w : d.weight ≤ w
theorem sh_tup {ts : List D} (h : ∀ t ∈ ts, Sc t) (hn : ts.length ≤ 4) : Sh 1 200 (.tuple ts) := by
  refine ⟨.tup fun d hd => (h d hd).v, .tup fun d hd => scal_nb (h d hd).s, (dep_tup (k := 0)).mpr fun d hd => Nat.le_of_eq (scal_dep (h d hd).s), ?_⟩
  have := wt_le (w := 40) (n := 4) (fun d hd => scal_wt (h d hd).s (h d hd).v) hn
  simp only [PyData.weight]; omega
theorem sh_atom {x : Str} {ts : List D} (hx : x ∈ S) (h : ∀ t ∈ ts, Sc t) (hn : ts.length ≤ 4) : Sh 2 300 (.tuple [.str x, .tuple ts]) := by
  have g := sh_tup h hn
  refine ⟨.tup fun d hd => ?_, .tup fun d hd => ?_, dep_tup.mpr fun d hd => ?_, ?_⟩
  · simp only [List.mem_cons, List.not_mem_nil, or_false] at hd
    rcases hd with rfl | rfl
    · exact .str hx
    · exact g.v
  · simp only [List.mem_cons, List.not_mem_nil, or_false] at hd
    rcases hd with rfl | rfl
    · exact .str _
    · exact g.n
  · simp only [List.mem_cons, List.not_mem_nil, or_false] at hd
    rcases hd with rfl | rfl
    · exact Nat.zero_le _
    · exact g.k
  · have := g.w
    have h2 := (gdS x hx).2.2
    have h3 : (PyData.str x).weight ≤ 40 := by simpa only [PyData.weight] using h2
    simp only [PyData.weight, PyData.weightAll] at *
    omega
theorem Sh.repr {k w : Nat} {d : D} (h : Sh k w d) (hk : k ≤ 60) (hw : w ≤ 100000) : reprA d = some (.fz (.str d.shown)) := repr_wr (h.v.wr gdS) (by have := h.k; omega) (by have := h.w; omega)
theorem Sh.so {k w : Nat} {d : D} (h : Sh k w d) : so d.shown := (h.v.wr gdS).t
theorem sh_eq {k w k' w' : Nat} {d e : D} (h : Sh k w d) (g : Sh k' w' e) : decide (d.shown = e.shown) = PyData.eqv d e := by
  rw [Bool.eq_iff_iff, decide_eq_true_eq, eqv_nb h.n e g.n]
  exact ⟨fun z => shown_inj preS_S h.v g.v z, fun z => by rw [z]⟩
theorem at_sh {a : D} (h : At a) : Sh 2 300 a := by
  rw [h.e]
  exact sh_atom h.s (fun t ht => ⟨tm_scal (h.t t ht), h.v t ht⟩) h.n1
theorem ldA_sh {ps : List (Str × D)} (h : ∀ x d, lk x ps = some d → Sc d) {a : D} (ha : At a) : Sh 2 300 (ldA ps a) :=
  sh_atom ha.s (fun t ht => by
    obtain ⟨u, hu, rfl⟩ := List.mem_map.mp ht
    exact ld_sc h (ha.t u hu) (ha.v u hu)) (by simpa using ha.n1)
end K61
end
section
set_option Elab.async false
set_option linter.all false
set_option maxRecDepth 100000
set_option maxHeartbeats 8000000
namespace K61
open PySem PySem.Spec PyProof.Rows L2 DV
/-! ### the law's look at a map -/
@[simp] theorem isi2_is_none  : isiG2 "int" "str" .none = some (.fz (.bool false)) := by
  unfold isiG2; rw [if_pos (show tyKn .none = true from rfl)]
  show ((kitB "NoneType" "int").bind fun b => if b = true then boolR true else (kitB "NoneType" "str").bind boolR) = _
  rw [show kitB "NoneType" "int" = some false by decide +kernel, show kitB "NoneType" "str" = some false by decide +kernel]; rfl
@[simp] theorem isi2_is_bool (b : Bool) : isiG2 "int" "str" (.bool b) = some (.fz (.bool true)) := by
  unfold isiG2; rw [if_pos (show tyKn (.bool b) = true from rfl)]
  show ((kitB "bool" "int").bind fun b => if b = true then boolR true else (kitB "bool" "str").bind boolR) = _
  rw [show kitB "bool" "int" = some true by decide +kernel]; rfl
@[simp] theorem isi2_is_int (i : Int) : isiG2 "int" "str" (.int i) = some (.fz (.bool true)) := by
  unfold isiG2; rw [if_pos (show tyKn (.int i) = true from rfl)]
  show ((kitB "int" "int").bind fun b => if b = true then boolR true else (kitB "int" "str").bind boolR) = _
  rw [show kitB "int" "int" = some true by decide +kernel]; rfl
@[simp] theorem isi2_is_str (x : Str) : isiG2 "int" "str" (.str x) = some (.fz (.bool true)) := by
  unfold isiG2; rw [if_pos (show tyKn (.str x) = true from rfl)]
  show ((kitB "str" "int").bind fun b => if b = true then boolR true else (kitB "str" "str").bind boolR) = _
  rw [show kitB "str" "int" = some false by decide +kernel, show kitB "str" "str" = some true by decide +kernel]; rfl
@[simp] theorem isi2_is_list (ds : List D) : isiG2 "int" "str" (.list ds) = some (.fz (.bool false)) := by
  unfold isiG2; rw [if_pos (show tyKn (.list ds) = true from rfl)]
  show ((kitB "list" "int").bind fun b => if b = true then boolR true else (kitB "list" "str").bind boolR) = _
  rw [show kitB "list" "int" = some false by decide +kernel, show kitB "list" "str" = some false by decide +kernel]; rfl
@[simp] theorem isi2_is_tuple (ds : List D) : isiG2 "int" "str" (.tuple ds) = some (.fz (.bool false)) := by
  unfold isiG2; rw [if_pos (show tyKn (.tuple ds) = true from rfl)]
  show ((kitB "tuple" "int").bind fun b => if b = true then boolR true else (kitB "tuple" "str").bind boolR) = _
  rw [show kitB "tuple" "int" = some false by decide +kernel, show kitB "tuple" "str" = some false by decide +kernel]; rfl
theorem eqv_nil (xs : List D) : PyData.eqv (.list xs) (.list []) = xs.isEmpty := by cases xs <;> simp [PyData.eqv, PyData.eqvAll]
theorem ne_nil {xs : List D} (h : SeqAt.shaped (.list xs) = true) : neG (.list xs) (.list []) = some (.fz (.bool (!xs.isEmpty))) := by
  rw [ne_sh h (by decide +kernel), eqv_nil]
theorem eq_nil {xs : List D} (h : SeqAt.shaped (.list xs) = true) : eqG (.list xs) (.list []) = some (.fz (.bool xs.isEmpty)) := by
  rw [eq_sh h (by decide +kernel), eqv_nil]
theorem fm_empty {α β : Type} (p : α → Bool) (f : α → β) : ∀ xs : List α, (xs.filterMap fun x => if p x = true then none else some (f x)).isEmpty = xs.all p
  | [] => rfl
  | x :: xs => by
    have ih := fm_empty p f xs
    cases c : p x
    · simp [c]
    · simp only [List.filterMap_cons, c, if_true, List.all_cons, Bool.true_and]; exact ih
theorem fm_mem {α β : Type} {p : α → Bool} {f : α → β} {xs : List α} {y : β} (h : y ∈ xs.filterMap fun x => if p x = true then none else some (f x)) : ∃ x ∈ xs, y = f x := by
  obtain ⟨x, hx, e⟩ := List.mem_filterMap.mp h
  split at e
  · cases e
  · cases e; exact ⟨x, hx, rfl⟩
def lmR (hs l g gh : List D) (v : D) : Rs := if (lawOk l v && leadsB hs l (prs (unT v)) g gh) = true then .fr (.dict (encV (fun d => d) (prs (unT v)))) else .fz .none
section
variable (ρ : List (Option Sl)) (μ : Mu)
theorem rowb_k {p : D} (hp : Vd S p) {ρ : List (Option Sl)} (hl : ρ.length = 10) (h9 : ρ[9]? = some none) : lcW [9] (tgN 9) (orM (notM (tstM (op1 (isiG "tuple") (slM 9)))) (tstM (op2 neG (opN (g1 lenG) (consM (slM 9) (DV.ret []))) (fzM (.int 2))))) C_u_law_map_of_1 p ⟨ρ, μ⟩ = some (if isRw p = true then none else some p, ⟨ρ, μ⟩) := by
  match ρ, hl, h9 with
  | [s0, s1, s2, s3, s4, s5, s6, s7, s8, s9], _, h9 =>
    have : s9 = none := by simpa using h9
    subst this
    cases p with
    | tuple ds =>
      by_cases c : ds.length = 2
      · obtain ⟨a, b, rfl⟩ := two_of c
        simp [wipeR, lock1, C_u_law_map_of_1, isRw]
      · have c2 : ((ds.length : Int) == 2) = false := by simp; omega
        have c3 : isRw (.tuple ds) = false := by
          unfold isRw
          split
          · rename_i e; simp only [PyData.tuple.injEq] at e; subst e; simp at c
          · rfl
        simp [wipeR, lock1, C_u_law_map_of_1, c2, c3]
    | dict kvs => cases hp
    | _ => simp [wipeR, lock1, C_u_law_map_of_1, isRw]
end
end K61
end
section
set_option Elab.async false
set_option linter.all false
set_option maxRecDepth 100000
set_option maxHeartbeats 8000000
namespace K61
open PySem PySem.Spec PyProof.Rows L2 DV
def nmSc (ps : List (Str × D)) : D → Bool
  | .str x => scal ((lk x ps).getD .none)
  | _ => true
theorem ns_S {q : D} (hq : Qk q) : ∀ x ∈ sset (namesA (qat q)), x ∈ S := fun x hx => namesA_S hq.a x ((mem_sset x _).mp hx)
theorem ne_strL {ds : List D} {ys : List Str} (h : SeqAt.shaped (.list ds) = true) (k : ∀ y ∈ ys, so y) : neG (.list ds) (.list (ys.map .str)) = some (.fz (.bool (!decide (strL ds = some ys)))) := by
  have e : PyData.eqv (.list ds) (.list (ys.map .str)) = PyData.eqvAll ds (ys.map .str) := by simp [PyData.eqv]
  rw [ne_sh h (shp_strs k), e, eqvAll_strL]
section
variable (μ : Mu)
theorem l_map_of_k (ρ : List (Option Sl)) {q v : D} (hq : Qk q) (hv : Vd S v ∨ ∃ kvs, v = .dict kvs ∧ smpK kvs = true) (k : v.depth ≤ 50) {g gh : List D} (hg : ∀ a ∈ g, At a) (hgl : g.length ≤ 100) (hgh : ∀ t ∈ gh, tm t = true ∧ Vd S t) (hgn : gh.length ≤ 4) :
    cal F_u_law_map_of [.fz q, .fz (.tuple g), .fz (.tuple gh), .fz v] ⟨ρ, μ⟩ = some (lmR (qhd q) (qat q) g gh v, ⟨ρ, μ⟩) := by
  have ix1 := ix_hd hq
  have hn := fun ρ => l_names_k ρ μ hq
  have nS := ns_S hq
  rcases hv with hv | ⟨kvs, rfl, hk⟩
  case inr =>
    refine cal_fz (e := ⟨ρ, μ⟩) ?_
    simp [F_u_law_map_of, B_u_law_map_of, hn, hk]
  cases v with
  | tuple ps =>
    have hvp := hv.of_tup
    obtain ⟨ns, ens⟩ : ∃ ns, ns = (sset (namesA (qat q))).map PyData.str := ⟨_, rfl⟩
    rw [← ens] at hn
    have hrw : lcR [9] (tgN 9) (orM (notM (tstM (op1 (isiG "tuple") (slM 9)))) (tstM (op2 neG (opN (g1 lenG) (consM (slM 9) (DV.ret []))) (fzM (.int 2))))) C_u_law_map_of_1 (ps, none) ⟨[some (.fz q), some (.fz (.tuple g)), some (.fz (.tuple gh)), some (.fz (.tuple ps)), some (.ow (.list ns)), none, none, none, none, none], μ⟩ =
        some (.fr (.list (ps.filterMap fun p => if isRw p = true then none else some p)), ⟨[some (.fz q), some (.fz (.tuple g)), some (.fz (.tuple gh)), some (.fz (.tuple ps)), some (.ow (.list ns)), none, none, none, none, none], μ⟩) := by
      refine lcR_pure (fun p => if isRw p = true then none else some p) rfl rfl fun p hp => ?_
      exact rowb_k μ (hvp p hp) rfl rfl
    have shb : SeqAt.shaped (.list (ps.filterMap fun p => if isRw p = true then none else some p)) = true := shp_lst (k := 50) (by omega) fun d hd => by
      obtain ⟨x, hx, e⟩ := fm_mem (p := isRw) (f := fun x => x) hd
      have e : d = x := e
      rw [e]
      have := dep_mem hx
      exact ⟨hvp x hx, by omega⟩
    have nb := ne_nil shb
    rw [fm_empty isRw (fun x => x)] at nb
    have fz : ∀ {ρ}, lawOk (qat q) (.tuple ps) = false → F_u_law_map_of [.fz q, .fz (.tuple g), .fz (.tuple gh), .fz (.tuple ps)] μ = some (.fz .none, μ) → cal F_u_law_map_of [.fz q, .fz (.tuple g), .fz (.tuple gh), .fz (.tuple ps)] ⟨ρ, μ⟩ = some (lmR (qhd q) (qat q) g gh (.tuple ps), ⟨ρ, μ⟩) := fun h e => by
      have : lmR (qhd q) (qat q) g gh (.tuple ps) = .fz .none := by unfold lmR; rw [h]; rfl
      rw [this]
      exact cal_fz e
    cases c1 : ps.all isRw
    · refine fz (by simp only [lawOk, c1, Bool.false_and]) ?_
      rw [c1] at nb
      simp [F_u_law_map_of, B_u_law_map_of, hn, hrw, nb]
    have l2 : lcR [9] (tgN 9) (DV.ret true) C_u_law_map_of_2 (ps, none) ⟨[some (.fz q), some (.fz (.tuple g)), some (.fz (.tuple gh)), some (.fz (.tuple ps)), some (.ow (.list ns)), none, none, none, none, none], μ⟩ =
        some (.fr (.list (ps.map fstD)), ⟨[some (.fz q), some (.fz (.tuple g)), some (.fz (.tuple gh)), some (.fz (.tuple ps)), some (.ow (.list ns)), none, none, none, none, none], μ⟩) := by
      refine lcR_map fstD rfl rfl fun p hp => ?_
      obtain ⟨a, t, rfl⟩ := isRw_of (List.all_eq_true.mp c1 p hp)
      simp [wipeR, lock1, C_u_law_map_of_2, fstD]
    have sh2 : SeqAt.shaped (.list (ps.map fstD)) = true := shp_lst (k := 50) (by omega) fun d hd => by
      obtain ⟨p, hp, rfl⟩ := List.mem_map.mp hd
      obtain ⟨a, t, rfl⟩ := isRw_of (List.all_eq_true.mp c1 p hp)
      have h1 := dep_mem hp
      have h2 := dep_mem (ds := [a, t]) (d := a) (by simp)
      exact ⟨(hvp _ hp).of_tup a (by simp), by show a.depth ≤ 50; omega⟩
    have n2 := ne_strL sh2 (ys := sset (namesA (qat q))) fun x hx => soS (nS x hx)
    rw [← ens] at n2
    rw [c1] at nb
    cases c2 : decide (strL (ps.map fstD) = some (sset (namesA (qat q))))
    · refine fz (by simp only [lawOk, c1, c2, Bool.true_and, Bool.false_and]) ?_
      rw [c2] at n2
      simp [F_u_law_map_of, B_u_law_map_of, hn, hrw, nb, l2, n2]
    rw [c2] at n2
    obtain ⟨w1, w2, w3⟩ := rows_enc c1 (of_decide_eq_true c2)
    have nd : ((prs ps).map Prod.fst).Nodup := by rw [prs_fst, w2]; exact up_nodup (up_sset _)
    have hd := dict_tup (fun d : D => d) (prs ps)
    rw [← w1, dictP_nodup nd] at hd
    have lkp : ∀ p ∈ ps, lk (prN p) (prs ps) = some (prT p) := fun p hp => lk_nodup nd (List.mem_map.mpr ⟨p, hp, rfl⟩)
    have vT : ∀ p ∈ ps, Vd S (prT p) := fun p hp => by
      have := hvp p hp
      rw [w3 p hp] at this
      exact this.of_tup _ (by simp)
    have l3 : lcR [8] (tgN 8) (orM (tstM (op1 (isiG "bool") (op2 ixG (slM 5) (slM 8)))) (notM (tstM (op1 (isiG2 "int" "str") (op2 ixG (slM 5) (slM 8)))))) C_u_law_map_of_3 (ns, some 4) ⟨[some (.fz q), some (.fz (.tuple g)), some (.fz (.tuple gh)), some (.fz (.tuple ps)), some (.ow (.list ns)), some (.ow (.dict (encV (fun d => d) (prs ps)))), none, none, none, none], μ⟩ =
        some (.fr (.list (ns.filterMap fun d => if nmSc (prs ps) d = true then none else some d)), ⟨[some (.fz q), some (.fz (.tuple g)), some (.fz (.tuple gh)), some (.fz (.tuple ps)), some (.ow (.list ns)), some (.ow (.dict (encV (fun d => d) (prs ps)))), none, none, none, none], μ⟩) := by
      refine lcR_pure _ rfl rfl fun d hm => ?_
      rw [ens] at hm
      obtain ⟨x, hx, rfl⟩ := List.mem_map.mp hm
      obtain ⟨p, hp, rfl⟩ := List.mem_map.mp (show x ∈ ps.map prN from by rw [w2]; exact hx)
      have lx := lkp p hp
      have vt := vT p hp
      have ix := ix_dict (fun d : D => d) lx
      generalize prT p = t at *
      cases t with
      | dict kvs => cases vt
      | _ => simp [wipeR, lock1, C_u_law_map_of_3, ix, lx, scal, nmSc]
    have shn : SeqAt.shaped (.list (ns.filterMap fun d => if nmSc (prs ps) d = true then none else some d)) = true := shp_lst (k := 0) (by omega) fun d hd => by
      obtain ⟨x, hx, e⟩ := fm_mem (p := (nmSc (prs ps))) (f := fun x => x) hd
      have e : d = x := e
      rw [e]
      rw [ens] at hx
      obtain ⟨y, hy, rfl⟩ := List.mem_map.mp hx
      exact ⟨.str (nS y hy), Nat.le_refl _⟩
    have nn := ne_nil shn
    rw [fm_empty (nmSc (prs ps)) (fun x => x)] at nn
    have c3e : ns.all (nmSc (prs ps)) = ps.all fun p => scal (sndD p) := by
      rw [ens, ← w2, List.map_map, List.all_map]
      rw [Bool.eq_iff_iff, List.all_eq_true, List.all_eq_true]
      refine forall_congr' fun p => forall_congr' fun hp => ?_
      show scal ((lk (prN p) (prs ps)).getD .none) = true ↔ _
      rw [lkp p hp]
      conv => rhs; rw [w3 p hp]
      rfl
    rw [c3e] at nn
    cases c3 : ps.all fun p => scal (sndD p)
    · refine fz (by simp only [lawOk, c1, c2, c3, Bool.true_and, Bool.and_false]) ?_
      rw [c3] at nn
      simp [F_u_law_map_of, B_u_law_map_of, hn, hrw, nb, l2, n2, hd, l3, nn]
    rw [c3] at nn
    have lok : lawOk (qat q) (.tuple ps) = true := by simp only [lawOk, c1, c2, c3, Bool.true_and]
    obtain ⟨_, e, F⟩ := lawOk_of lok
    cases e
    obtain ⟨has1, has2⟩ := mapF_has hq F
    have sc : ∀ x d, lk x (prs ps) = some d → Sc d := fun x d e => by
      obtain ⟨p, hp, e2⟩ := List.mem_map.mp (lk_mem e)
      cases e2
      exact ⟨F.sc p hp, vT p hp⟩
    have ll := fun ρ => l_led_k ρ μ (s := .bo (.dict (encV (fun d => d) (prs ps)))) (.inr rfl) hq.hv hq.ht has1
    have la := fun ρ => l_atoms_k ρ μ hq (s := .bo (.dict (encV (fun d => d) (prs ps)))) (.inr rfl) has2
    have z1 := sh_tup (ts := (qhd q).map (ld (prs ps))) (fun t ht => by
      obtain ⟨u, hu, rfl⟩ := List.mem_map.mp ht
      exact ld_sc sc (hq.ht u hu) (hq.hv u hu)) (by simpa using hq.hl)
    have z2 := sh_tup (ts := gh) (fun t ht => ⟨tm_scal (hgh t ht).1, (hgh t ht).2⟩) hgn
    have r1 := z1.repr (by omega) (by omega)
    have r2 := z2.repr (by omega) (by omega)
    have nr := ne_strs2 z1.so z2.so
    rw [sh_eq z1 z2] at nr
    have fz2 : ∀ {ρ}, leadsB (qhd q) (qat q) (prs ps) g gh = false → F_u_law_map_of [.fz q, .fz (.tuple g), .fz (.tuple gh), .fz (.tuple ps)] μ = some (.fz .none, μ) → cal F_u_law_map_of [.fz q, .fz (.tuple g), .fz (.tuple gh), .fz (.tuple ps)] ⟨ρ, μ⟩ = some (lmR (qhd q) (qat q) g gh (.tuple ps), ⟨ρ, μ⟩) := fun h e => by
      have : lmR (qhd q) (qat q) g gh (.tuple ps) = .fz .none := by unfold lmR; rw [unT_mk, h, Bool.and_false]; rfl
      rw [this]
      exact cal_fz e
    cases c4 : PyData.eqv (.tuple ((qhd q).map (ld (prs ps)))) (.tuple gh)
    · refine fz2 (by simp only [leadsB, c4, Bool.false_and]) ?_
      rw [c4] at nr
      simp [F_u_law_map_of, B_u_law_map_of, hn, hrw, nb, l2, n2, hd, l3, nn, ix1, ll, r1, r2, nr]
    rw [c4] at nr
    have l4 : lcR [7] (tgN 7) (DV.ret true) C_u_law_map_of_4 (g, none) ⟨[some (.fz q), some (.fz (.tuple g)), some (.fz (.tuple gh)), some (.fz (.tuple ps)), some (.ow (.list ns)), some (.ow (.dict (encV (fun d => d) (prs ps)))), none, none, none, none], μ⟩ =
        some (.fr (.list (g.map fun a => .str a.shown)), ⟨[some (.fz q), some (.fz (.tuple g)), some (.fz (.tuple gh)), some (.fz (.tuple ps)), some (.ow (.list ns)), some (.ow (.dict (encV (fun d => d) (prs ps)))), none, none, none, none], μ⟩) := by
      refine lcR_map (fun a => .str a.shown) rfl rfl fun a ha => ?_
      have r := (at_sh (hg a ha)).repr (by omega) (by omega)
      simp [wipeR, lock1, C_u_law_map_of_4, r]
    have eg : (g.map fun a => PyData.str a.shown) = (g.map PyData.shown).map .str := by rw [List.map_map]; rfl
    rw [eg] at l4
    have sog : ∀ x ∈ g.map PyData.shown, so x := fun x hx => by
      obtain ⟨a, ha, rfl⟩ := List.mem_map.mp hx
      exact (at_sh (hg a ha)).so
    have l5 : lcR [7] (tgN 7) (tstM (op2 notInG (opN (g1 reprA) (consM (slM 7) (DV.ret []))) (slM 6))) C_u_law_map_of_5 ((qat q).map (ldA (prs ps)), none) ⟨[some (.fz q), some (.fz (.tuple g)), some (.fz (.tuple gh)), some (.fz (.tuple ps)), some (.ow (.list ns)), some (.ow (.dict (encV (fun d => d) (prs ps)))), some (.ow (.list ((g.map PyData.shown).map .str))), none, none, none], μ⟩ =
        some (.fr (.list (((qat q).map (ldA (prs ps))).filterMap fun a => if hasB g a = true then none else some a)), ⟨[some (.fz q), some (.fz (.tuple g)), some (.fz (.tuple gh)), some (.fz (.tuple ps)), some (.ow (.list ns)), some (.ow (.dict (encV (fun d => d) (prs ps)))), some (.ow (.list ((g.map PyData.shown).map .str))), none, none, none], μ⟩) := by
      refine lcR_pure (fun a => if hasB g a = true then none else some a) rfl rfl fun a ha => ?_
      obtain ⟨b, hb, rfl⟩ := List.mem_map.mp ha
      have za := ldA_sh sc (hq.a b hb)
      have r := za.repr (by omega) (by omega)
      have i := in_strs za.so sog
      have eb : decide ((ldA (prs ps) b).shown ∈ g.map PyData.shown) = hasB g (ldA (prs ps) b) := by
        unfold hasB
        rw [Bool.eq_iff_iff, decide_eq_true_eq, List.any_eq_true, List.mem_map]
        refine exists_congr fun z => and_congr_right fun hz => ?_
        rw [← sh_eq (at_sh (hg z hz)) za, decide_eq_true_eq]
      rw [eb] at i
      have ni : notInG (.str (ldA (prs ps) b).shown) (.list ((g.map PyData.shown).map .str)) = some (.fz (.bool (!hasB g (ldA (prs ps) b)))) := by
        have i2 : (isIn (.str (ldA (prs ps) b).shown) (.list ((g.map PyData.shown).map .str))).bind boolR = some (.fz (.bool (hasB g (ldA (prs ps) b)))) := i
        show (isIn (.str (ldA (prs ps) b).shown) (.list ((g.map PyData.shown).map .str))).bind (fun b => boolR !b) = _
        cases q : isIn (.str (ldA (prs ps) b).shown) (.list ((g.map PyData.shown).map .str)) with
        | none => rw [q] at i2; cases i2
        | some b => rw [q] at i2; cases i2; rfl
      cases c : hasB g (ldA (prs ps) b) <;> rw [c] at ni <;> simp [wipeR, lock1, C_u_law_map_of_5, r, ni, -List.map_map]
    have sh5 : SeqAt.shaped (.list (((qat q).map (ldA (prs ps))).filterMap fun a => if hasB g a = true then none else some a)) = true := shp_lst (k := 2) (by omega) fun d hd => by
      obtain ⟨x, hx, e⟩ := fm_mem (p := hasB g) (f := fun x => x) hd
      have e : d = x := e
      rw [e]
      obtain ⟨b, hb, rfl⟩ := List.mem_map.mp hx
      have za := ldA_sh sc (hq.a b hb)
      exact ⟨za.v, za.k⟩
    have n5 := eq_nil sh5
    rw [fm_empty (hasB g) (fun x => x)] at n5
    have lsb : leadsB (qhd q) (qat q) (prs ps) g gh = ((qat q).map (ldA (prs ps))).all (hasB g) := by unfold leadsB; rw [c4, Bool.true_and]
    cases c5 : ((qat q).map (ldA (prs ps))).all (hasB g)
    · refine fz2 (by rw [lsb, c5]) ?_
      rw [c5] at n5
      generalize (qat q).map (ldA (prs ps)) = la' at *
      simp [F_u_law_map_of, B_u_law_map_of, hn, hrw, nb, l2, n2, hd, l3, nn, ix1, ll, r1, r2, nr, l4, la, l5, n5, -List.map_map]
    · have e : lmR (qhd q) (qat q) g gh (.tuple ps) = .fr (.dict (encV (fun d => d) (prs ps))) := by unfold lmR; rw [unT_mk, lok, lsb, c5]; rfl
      rw [e]
      rw [c5] at n5
      refine cal_fr (e := ⟨ρ, μ⟩) ?_
      generalize (qat q).map (ldA (prs ps)) = la' at *
      simp [F_u_law_map_of, B_u_law_map_of, hn, hrw, nb, l2, n2, hd, l3, nn, ix1, ll, r1, r2, nr, l4, la, l5, n5, -List.map_map]
  | dict kvs => cases hv
  | _ =>
    refine cal_fz (e := ⟨ρ, μ⟩) ?_
    simp [F_u_law_map_of, B_u_law_map_of, hn]
end
end K61
end
section
set_option Elab.async false
set_option linter.all false
set_option maxRecDepth 100000
set_option maxHeartbeats 8000000
namespace K61
open PySem PySem.Spec PyProof.Rows L2 DV
/-! ### any value as a fold: program and law -/
def Uv (v : D) : Prop := (Vd S v ∧ v.depth ≤ 50) ∨ ∃ kvs, v = .dict kvs ∧ smpK kvs = true ∧ v.depth ≤ 50
theorem Uv.k {v : D} (h : Uv v) : v.depth ≤ 50 := by rcases h with h | ⟨_, rfl, _, h⟩; exact h.2; exact h
theorem Uv.o {v : D} (h : Uv v) : Vd S v ∨ ∃ kvs, v = .dict kvs ∧ smpK kvs = true := by rcases h with h | ⟨_, rfl, h, _⟩; exact .inl h.1; exact .inr ⟨_, rfl, h⟩
def lead2 (q v : D) : Bool := leadsB (qhd q) (qat q) (prs (unT v)) (qat q) (qhd q)
def movB (q v : D) : Bool := (qat q).any fun a => !hasB ((qat q).map (ldA (prs (unT v)))) a
theorem mapOk_F {q v : D} (hq : Qk q) (h : mapOk (qat q) v = true) : ∃ ps, v = .tuple ps ∧ MapF (qat q) ps ∧ ∀ p ∈ ps, tm (prT p) = true := by
  obtain ⟨ps, rfl, F⟩ := lawOk_of (mapOk_lawOk h)
  refine ⟨ps, rfl, F, fun p hp => ?_⟩
  simp only [mapOk, Bool.and_eq_true, decide_eq_true_eq, List.all_eq_true] at h
  have := h.2.1 p hp
  rw [F.row p hp] at this
  exact this
theorem mapF_v {l ps : List D} (F : MapF l ps) (hv : ∀ p ∈ ps, Vd S p) : ∀ p ∈ ps, Vd S (prT p) := fun p hp => by
  have := hv p hp
  rw [F.row p hp] at this
  exact this.of_tup _ (by simp)
theorem ldA_shp {ps : List (Str × D)} (h : ∀ x d, lk x ps = some d → Sc d) {l : List D} (hl : ∀ a ∈ l, At a) : SeqAt.shaped (.list (l.map (ldA ps))) = true := shp_lst (k := 2) (by omega) fun d hd => by
  obtain ⟨b, hb, rfl⟩ := List.mem_map.mp hd
  have z := ldA_sh h (hl b hb)
  exact ⟨z.v, z.k⟩
section
variable (ρ : List (Option Sl)) (μ : Mu)
theorem map_dict_u {q v : D} (hq : Qk q) (hv : Uv v) : cal F_map_dict [.fz q, .fz v] ⟨ρ, μ⟩ = some (mapR (qat q) v, ⟨ρ, μ⟩) := by
  rcases hv with hv | ⟨kvs, rfl, hk, _⟩
  · exact map_dict_k ρ μ hq hv.1 hv.2 hq.n1
  · have ix2 := ix_at hq
    have hn := fun ρ => names_in_k ρ μ hq.a (by have := hq.n1; omega)
    have hr := fun (ρ : List (Option Sl)) (n : Int) => is_row_k ρ μ (d := .dict kvs) (show smpK kvs = true from hk) (n := n)
    refine cal_fz (e := ⟨ρ, μ⟩) ?_
    simp [F_map_dict, B_map_dict, ix2, hn, hr]
theorem is_fold_k {q v : D} (hq : Qk q) (vq : Vd S q) (dq : q.depth ≤ 60) (hv : Uv v) : cal F_is_fold [.fz q, .fz v] ⟨ρ, μ⟩ = some (.fz (.bool (mapOk (qat q) v && lead2 q v && movB q v)), ⟨ρ, μ⟩) := by
  refine cal_fz (e := ⟨ρ, μ⟩) ?_
  have hw := fun ρ => want_question_k ρ μ hq vq dq
  have hm := fun ρ => map_dict_u ρ μ hq hv
  have ix1 := ix_hd hq
  have ix2 := ix_at hq
  cases c : mapOk (qat q) v
  · have e : mapR (qat q) v = .fz .none := by unfold mapR; rw [c]; rfl
    rw [e] at hm
    simp [F_is_fold, B_is_fold, hw, hm]
  · obtain ⟨ps, rfl, F, ht⟩ := mapOk_F hq c
    have e : mapR (qat q) (.tuple ps) = .fr (.dict (encV (fun d => d) (prs ps))) := by unfold mapR; rw [c]; rfl
    rw [e] at hm
    have hvp : ∀ p ∈ ps, Vd S p := by
      rcases hv with hv | ⟨_, hv, _⟩
      · exact hv.1.of_tup
      · cases hv
    have hvt := mapF_v F hvp
    obtain ⟨has1, has2⟩ := mapF_has hq F
    have tv : TmV (prs ps) := fun x d e => by
      obtain ⟨p, hp, e2⟩ := List.mem_map.mp (lk_mem e)
      cases e2
      exact ⟨ht p hp, hvt p hp⟩
    have hl := fun ρ => leads_to_k ρ μ hq (s := .bo (.dict (encV (fun d => d) (prs ps)))) (.inr rfl) has1 has2 tv hq.a (fun t h => ⟨hq.ht t h, hq.hv t h⟩)
    have la := fun ρ => led_atoms_k ρ μ hq (s := .bo (.dict (encV (fun d => d) (prs ps)))) (.inr rfl) has2
    have el : lead2 q (.tuple ps) = leadsB (qhd q) (qat q) (prs ps) (qat q) (qhd q) := rfl
    cases c2 : leadsB (qhd q) (qat q) (prs ps) (qat q) (qhd q)
    · rw [c2] at hl
      simp [F_is_fold, B_is_fold, hw, hm, ix1, ix2, hl, el, c2]
    · rw [c2] at hl
      have sl := ldA_shp (ps := prs ps) (fun x d e => ⟨tm_scal (tv x d e).1, (tv x d e).2⟩) hq.a
      have em : movB q (.tuple ps) = (qat q).any fun a => !hasB ((qat q).map (ldA (prs ps))) a := rfl
      generalize (qat q).map (ldA (prs ps)) = la' at *
      have l1 : lcR [4] (tgN 4) (DV.ret true) C_is_fold_1 (qat q, none) ⟨[some (.fz q), some (.fz (.tuple ps)), some (.ow (.dict (encV (fun d => d) (prs ps)))), some (.ow (.list la')), none], μ⟩ =
          some (.fr (.list ((qat q).map fun a => .bool (!hasB la' a))), ⟨[some (.fz q), some (.fz (.tuple ps)), some (.ow (.dict (encV (fun d => d) (prs ps)))), some (.ow (.list la')), none], μ⟩) := by
        refine lcR_mapB (fun a => !hasB la' a) rfl rfl fun a ha => ?_
        have i := notIn_lst (at_shp (hq.a a ha)) sl
        simp [wipeR, lock1, C_is_fold_1, i, hasB]
      have an := any_map (fun a => !hasB la' a) (qat q)
      simp [F_is_fold, B_is_fold, hw, hm, ix1, ix2, hl, el, c2, la, l1, an, em]
theorem l_is_fold_k {q v : D} (hq : Qk q) (hv : Uv v) : cal F_u_law_is_fold [.fz q, .fz v] ⟨ρ, μ⟩ = some (.fz (.bool (lawOk (qat q) v && lead2 q v && movB q v)), ⟨ρ, μ⟩) := by
  refine cal_fz (e := ⟨ρ, μ⟩) ?_
  have hm := fun ρ => l_map_of_k μ ρ hq hv.o hv.k hq.a (by have := hq.n1; omega) (fun t h => ⟨hq.ht t h, hq.hv t h⟩) hq.hl
  have ix1 := ix_hd hq
  have ix2 := ix_at hq
  have el : lead2 q v = leadsB (qhd q) (qat q) (prs (unT v)) (qat q) (qhd q) := rfl
  rw [el]
  cases c : (lawOk (qat q) v && leadsB (qhd q) (qat q) (prs (unT v)) (qat q) (qhd q))
  · have e : lmR (qhd q) (qat q) (qat q) (qhd q) v = .fz .none := by unfold lmR; rw [c]; rfl
    rw [e] at hm
    simp [F_u_law_is_fold, B_u_law_is_fold, ix1, ix2, hm]
  · have e : lmR (qhd q) (qat q) (qat q) (qhd q) v = .fr (.dict (encV (fun d => d) (prs (unT v)))) := by unfold lmR; rw [c]; rfl
    rw [e] at hm
    rw [Bool.and_eq_true] at c
    obtain ⟨ps, rfl, F⟩ := lawOk_of c.1
    rw [unT_mk] at *
    have hvp : ∀ p ∈ ps, Vd S p := by
      rcases hv with hv | ⟨_, hv, _⟩
      · exact hv.1.of_tup
      · cases hv
    have hvt := mapF_v F hvp
    obtain ⟨has1, has2⟩ := mapF_has hq F
    have sc : ∀ x d, lk x (prs ps) = some d → Sc d := fun x d e => by
      obtain ⟨p, hp, e2⟩ := List.mem_map.mp (lk_mem e)
      cases e2
      exact ⟨F.sc p hp, hvt p hp⟩
    have la := fun ρ => l_atoms_k ρ μ hq (s := .bo (.dict (encV (fun d => d) (prs ps)))) (.inr rfl) has2
    have sl := ldA_shp (ps := prs ps) sc hq.a
    have em : movB q (.tuple ps) = (qat q).any fun a => !hasB ((qat q).map (ldA (prs ps))) a := rfl
    generalize (qat q).map (ldA (prs ps)) = la' at *
    have l1 : lcR [3] (tgN 3) (tstM (op2 notInG (slM 3) (callM F_u_law_atoms (consM (slM 0) (consM (slM 2) (DV.ret [])))))) C_u_law_is_fold_1 (qat q, none) ⟨[some (.fz q), some (.fz (.tuple ps)), some (.ow (.dict (encV (fun d => d) (prs ps)))), none], μ⟩ =
        some (.fr (.list ((qat q).filterMap fun a => if hasB la' a = true then none else some a)), ⟨[some (.fz q), some (.fz (.tuple ps)), some (.ow (.dict (encV (fun d => d) (prs ps)))), none], μ⟩) := by
      refine lcR_pure (fun a => if hasB la' a = true then none else some a) rfl rfl fun a ha => ?_
      have i := notIn_lst (at_shp (hq.a a ha)) sl
      change _ = some (Rs.fz (.bool (!hasB la' a))) at i
      cases c : hasB la' a <;> rw [c] at i <;> simp [wipeR, lock1, C_u_law_is_fold_1, la, i, hasB]
    have sh5 : SeqAt.shaped (.list ((qat q).filterMap fun a => if hasB la' a = true then none else some a)) = true := shp_lst (k := 2) (by omega) fun d hd => by
      obtain ⟨x, hx, e⟩ := fm_mem (p := hasB la') (f := fun x => x) hd
      have e : d = x := e
      rw [e]
      exact ⟨at_v (hq.a x hx), at_dep (hq.a x hx)⟩
    have n5 := ne_nil sh5
    rw [fm_empty (hasB la') (fun x => x)] at n5
    have ee : (!(qat q).all (hasB la')) = (qat q).any fun a => !hasB la' a := by
      rw [List.not_all_eq_any_not]
    rw [ee] at n5
    simp [F_u_law_is_fold, B_u_law_is_fold, ix1, ix2, hm, l1, n5, em]
theorem folds_alike {q v : D} (hq : Qk q) (hv : Uv v) : (mapOk (qat q) v && lead2 q v && movB q v) = (lawOk (qat q) v && lead2 q v && movB q v) := by
  rcases hv with hv | ⟨kvs, rfl, _⟩
  · have := maps_alike (hs := qhd q) (gh := qhd q) hq.a hq.a hv.1
    unfold lead2
    rw [this]
  · rfl
end
end K61
end
section
set_option Elab.async false
set_option linter.all false
set_option maxRecDepth 100000
set_option maxHeartbeats 8000000
namespace K61
open PySem PySem.Spec PyProof.Rows L2 DV
/-! ### draws -/
def Ok (μ : Mu) : Prop := ∃ a b, μ = [(a, b)]
theorem tk_ok {μ μ' : Mu} (h : Ok μ) (k : Ok μ') : μ'.take μ.length = μ' := by
  obtain ⟨a, b, rfl⟩ := h
  obtain ⟨a', b', rfl⟩ := k
  rfl
theorem two_zero (a b : Int) : ixG (.list [.int a, .int b]) (.int 0) = some (.fz (.int a)) := rfl
theorem two_one (a b : Int) : ixG (.list [.int a, .int b]) (.int 1) = some (.fz (.int b)) := rfl
theorem draw_ok {μ : Mu} (ok : Ok μ) {n : Int} (h0 : 0 < n) (h1 : n < 1073741824) : ∃ (r : Int) (μ' : Mu), F_u_law_draw [.pt 0, .fz (.int n)] μ = some (.fz (.int r), μ') ∧ Ok μ' ∧ 0 ≤ r ∧ r < n := by
  obtain ⟨a, b, rfl⟩ := ok
  by_cases c : 0 < a
  · refine ⟨a % n, [(a / n, b)], ?_, ⟨_, _, rfl⟩, Int.emod_nonneg _ (by omega), Int.emod_lt_of_pos _ h0⟩
    have hd := divmod_int a n ⟨h0, h1⟩
    simp [F_u_law_draw, B_u_law_draw, two_zero, c, hd]
  · have m1 := DV.mul_r b 40692 (by decide)
    have m2 := DV.mod_int (b * 40692 + 13217) 2147483399 (by decide)
    have lt := Int.emod_lt_of_pos (b * 40692 + 13217) (show (0 : Int) < 2147483399 by decide)
    have ge := Int.emod_nonneg (b * 40692 + 13217) (show (2147483399 : Int) ≠ 0 by decide)
    generalize (b * 40692 + 13217) % 2147483399 = p at m2 lt ge
    have m3 := DV.mul_r p p ⟨by omega, by omega⟩
    have m4 := DV.mod_int (p * p) 2147483323 (by decide)
    have m5 := DV.fdiv_int ((p * p) % 2147483323) 19 (by decide)
    have m6 := DV.mod_int ((p * p) % 2147483323 / 19) n h0
    refine ⟨((p * p) % 2147483323 / 19) % n, [(a, p)], ?_, ⟨_, _, rfl⟩, Int.emod_nonneg _ (by omega), Int.emod_lt_of_pos _ h0⟩
    simp [F_u_law_draw, B_u_law_draw, two_zero, two_one, c, m1, DV.add_int, m2, m3, m4, m5, m6]
theorem draw_w {μ : Mu} (ok : Ok μ) {n : Int} (h0 : 0 < n) (h1 : n < 1073741824) {ρ : List (Option Sl)} {Q : Rs → En → Prop} (k : ∀ (r : Int) μ', Ok μ' → 0 ≤ r → r < n → Q (.fz (.int r)) ⟨ρ, μ'⟩) : Wp (cal F_u_law_draw [.pt 0, .fz (.int n)] ⟨ρ, μ⟩) Q := by
  obtain ⟨r, μ', e, ok', r0, r1⟩ := draw_ok ok h0 h1
  exact ⟨_, _, cal_fz e, k r μ' ok' r0 r1⟩
theorem at_mem {ds : List D} {i : Int} (h0 : 0 ≤ i) (h1 : i < ds.length) : ∃ d ∈ ds, ixG (.list ds) (.int i) = some (.fz d) := by
  obtain ⟨n, rfl⟩ := Int.eq_ofNat_of_zero_le h0
  have hl : n < ds.length := by omega
  exact ⟨ds[n], List.getElem_mem hl, ixl_nat ds n (List.getElem?_eq_getElem hl)⟩
def Sb (s : Sl) (d : D) : Prop := s = .fz d ∨ s = .bo d
theorem pick_ok {μ : Mu} (ok : Ok μ) {s : Sl} {xs : List D} (hs : Sb s (.list xs)) (h0 : 0 < xs.length) (h1 : xs.length < 1000000) : ∃ d ∈ xs, ∃ μ', F_u_law_pick [.pt 0, s] μ = some (.fz d, μ') ∧ Ok μ' := by
  obtain ⟨r, μ', e, ok', r0, r1⟩ := draw_ok ok (n := xs.length) (by omega) (by omega)
  obtain ⟨d, hd, ed⟩ := at_mem (ds := xs) r0 r1
  refine ⟨d, hd, μ', ?_, ok'⟩
  have e0 : ∀ ρ, cal F_u_law_draw [.pt 0, .fz (.int xs.length)] ⟨ρ, μ⟩ = some (.fz (.int r), ⟨ρ, μ'⟩) := fun ρ => cal_fz e
  have hm := tk_ok ok ok'
  rcases hs with rfl | rfl <;> simp [F_u_law_pick, B_u_law_pick, e0, ed, hm]
theorem pick_w {μ : Mu} (ok : Ok μ) {s : Sl} {xs : List D} (hs : Sb s (.list xs)) (h0 : 0 < xs.length) (h1 : xs.length < 1000000) {ρ : List (Option Sl)} {Q : Rs → En → Prop} (k : ∀ d μ', Ok μ' → d ∈ xs → Q (.fz d) ⟨ρ, μ'⟩) : Wp (cal F_u_law_pick [.pt 0, s] ⟨ρ, μ⟩) Q := by
  obtain ⟨d, hd, μ', e, ok'⟩ := pick_ok ok hs h0 h1
  exact ⟨_, _, cal_fz e, k d μ' ok' hd⟩
/-! terms, atoms -/
structure AtR (a : D) : Prop where
  ok : At a
  r : (tbl a = "R" ∧ (tsl a).length = 2) ∨ (tbl a = "S" ∧ (tsl a).length = 1) ∨ (tbl a = "T" ∧ (tsl a).length = 3)
def Tms (ns : List D) : Prop := ∀ d ∈ ns, tm d = true ∧ Vd S d
theorem all2_len {R : D → D → Prop} : ∀ {a b : List D}, All2 R a b → a.length = b.length
  | _, _, .nil => rfl
  | _, _, .cons _ h => by simp [all2_len h]
theorem all2_mem {p : D → Prop} : ∀ {a b : List D}, All2 (fun _ o => p o) a b → ∀ o ∈ b, p o
  | _, _, .nil => fun o ho => by cases ho
  | _, _, .cons h1 h => fun o ho => by
    rcases List.mem_cons.mp ho with rfl | ho
    · exact h1
    · exact all2_mem h o ho
theorem atR_of {t : Str} {ts : List D} (ht : (t = "R" ∧ ts.length = 2) ∨ (t = "S" ∧ ts.length = 1) ∨ (t = "T" ∧ ts.length = 3)) (h : Tms ts) : AtR (.tuple [.str t, .tuple ts]) := by
  have hs : t ∈ S ∧ wdS t = true := by rcases ht with ⟨rfl, _⟩ | ⟨rfl, _⟩ | ⟨rfl, _⟩ <;> decide +kernel
  have hl : 1 ≤ ts.length ∧ ts.length ≤ 3 := by rcases ht with ⟨_, e⟩ | ⟨_, e⟩ | ⟨_, e⟩ <;> omega
  exact ⟨⟨rfl, hs.2, hs.1, hl.1, by show ts.length ≤ 4; omega, fun d hd => (h d hd).1, fun d hd => (h d hd).2⟩, ht⟩
theorem ne_nilL {xs : List D} (h : SeqAt.shaped (.list xs) = true) (c : xs ≠ []) : neG (.list xs) (.list []) = some (.fz (.bool true)) := by
  rw [ne_nil h]; cases xs with
  | nil => exact absurd rfl c
  | cons x xs => rfl
theorem tms_shp {xs : List D} (h : Tms xs) : SeqAt.shaped (.list xs) = true := shp_lst (k := 0) (by omega) fun d hd => ⟨(h d hd).2, Nat.le_of_eq (tm_dep (h d hd).1)⟩
theorem terms_ok {μ : Mu} (ok : Ok μ) {many : Int} (m0 : 0 ≤ many) (m1 : many ≤ 4) {s1 s2 : Sl} {ns vs : List D} (h1 : Sb s1 (.list ns)) (h2 : Sb s2 (.list vs)) (n0 : 0 < ns.length) (n1 : ns.length ≤ 10) (v0 : 0 < vs.length) (v1 : vs.length ≤ 10) (tn : Tms ns) (tv : Tms vs) :
    Sp (F_u_law_terms [.pt 0, .fz (.int many), s1, s2] μ) (fun r μ' => ∃ ts, r = .fz (.tuple ts) ∧ Ok μ' ∧ (ts.length : Int) = many ∧ ∀ t ∈ ts, t ∈ ns ∨ t ∈ vs) := by
  have eqv0 : eqG (.list vs) (.list []) = some (.fz (.bool false)) := by
    rw [eq_nil (tms_shp tv)]; cases vs with
    | nil => simp at v0
    | cons => rfl
  refine Sp_fn rfl (by rcases h1 with rfl | rfl <;> rcases h2 with rfl | rfl <;> rfl) ?_
  simp [-bnd_ap, -seqM_ap, B_u_law_terms]
  refine Wp_rng1 ?_
  simp [-bnd_ap, -seqM_ap]
  refine ⟨m0, by omega, ?_⟩
  refine Wp_lcR Ok (fun _ o => o ∈ ns ∨ o ∈ vs) rfl rfl ok (fun d hd μ2 ok2 => ?_) fun as μ2 ok2 hAll => ?_
  · simp [-bnd_ap, -seqM_ap, wipeR, lock1, C_u_law_terms_1]
    refine draw_w ok2 (n := 6) (by decide) (by decide) fun r μ3 ok3 r0 r1 => ?_
    by_cases c : 0 < r
    · rcases h1 with rfl | rfl
      all_goals
        simp [-bnd_ap, -seqM_ap, c]
        refine pick_w ok3 (xs := ns) (by first | exact .inl rfl | exact .inr rfl) n0 (by omega) fun d μ4 ok4 hd => ?_
        simp [-bnd_ap, -seqM_ap, wipeR]
        exact ⟨ok4, .inl hd⟩
    · rcases h2 with rfl | rfl
      all_goals
        simp [-bnd_ap, -seqM_ap, c, eqv0]
        refine pick_w ok3 (xs := vs) (by first | exact .inl rfl | exact .inr rfl) v0 (by omega) fun d μ4 ok4 hd => ?_
        simp [-bnd_ap, -seqM_ap, wipeR]
        exact ⟨ok4, .inr hd⟩
  · have hl : as.length = many.toNat := by rw [← all2_len hAll, rngL_len]
    simp [-bnd_ap, -seqM_ap, tk_ok ok ok2]
    exact ⟨ok2, by omega, all2_mem hAll⟩
end K61
end
section
set_option Elab.async false
set_option linter.all false
set_option maxRecDepth 100000
set_option maxHeartbeats 8000000
namespace K61
open PySem PySem.Spec PyProof.Rows L2 DV
/-! ### drawn questions -/
def XYZ : List Str := ["x", "y", "z", "u"]
structure Qr (h : Nat) (q : D) : Prop where
  ok : Qk q
  ar : ∀ a ∈ qat q, AtR a
  h : (qhd q).length = h
  nx : ∀ x ∈ namesA (qat q), x ∈ XYZ
/-- tables by their numbers -/
def arI (x : Str) : Int := if x = "S" then 1 else if x = "R" then 2 else 3
theorem ev_all : ∀ (as : List D) (kvs : Tbs), (∀ a ∈ as, AtR a) → (∀ x m, lk x kvs = some m → m = arI x) → (runO evS kvs as).isSome = true
  | [], kvs, _, _ => rfl
  | a :: as, kvs, h, hk => by
    rw [runO_cons]
    have ha := h a (List.mem_cons_self ..)
    have e : ((tsl a).length : Int) = arI (tbl a) := by
      rcases ha.r with ⟨e1, e2⟩ | ⟨e1, e2⟩ | ⟨e1, e2⟩
      · rw [e1, e2]; decide +kernel
      · rw [e1, e2]; decide +kernel
      · rw [e1, e2]; decide +kernel
    cases q : lk (tbl a) kvs with
    | some m =>
      have e1 : evS kvs a = some kvs := by simp [evS, q, hk _ _ q, e]
      rw [e1]
      exact ev_all as kvs (fun b hb => h b (List.mem_cons_of_mem _ hb)) hk
    | none =>
      have e1 : evS kvs a = some (kvs ++ [(tbl a, ((tsl a).length : Int))]) := by simp [evS, q]
      rw [e1]
      refine ev_all as _ (fun b hb => h b (List.mem_cons_of_mem _ hb)) fun x m hx => ?_
      rw [lk_app] at hx
      cases q2 : lk x kvs with
      | some y => rw [q2] at hx; cases hx; exact hk x _ q2
      | none =>
        rw [q2] at hx
        simp only [Option.or] at hx
        unfold lk at hx
        split at hx
        · rename_i e2
          cases hx
          cases e2
          exact e
        · cases hx
theorem even_all {as : List D} (h : ∀ a ∈ as, AtR a) : evenB as = true := ev_all as [] h fun x m hx => by cases hx
/-- the texts of a list among some terms -/
def inS (ns : List Str) : D → Option Str
  | .str x => if x ∈ ns then some x else none
  | _ => none
def inN (ns : List Str) (ts : List D) : List Str := ts.filterMap (inS ns)
theorem inS_map (ns : List Str) (ts : List D) : (ts.filterMap fun t => (inS ns t).map PyData.str) = (inN ns ts).map .str := by
  unfold inN; rw [List.map_filterMap]
theorem in_k {ns : List Str} (hs : ∀ x ∈ ns, so x) {t : D} (ht : tm t = true) (hv : Vd S t) : inG t (.list (ns.map .str)) = some (.fz (.bool (inS ns t).isSome)) := by
  cases t with
  | str x =>
    rw [in_strs (soS hv.of_str) hs]
    unfold inS
    by_cases c : x ∈ ns <;> simp [c]
  | int i =>
    rw [in_lst (hv.shp gdS (Nat.zero_le _)) (shp_strs hs)]
    have : ((ns.map PyData.str).any fun z => PyData.eqv z (.int i)) = false := by
      rw [List.any_eq_false]
      intro z hz
      obtain ⟨x, _, rfl⟩ := List.mem_map.mp hz
      simp [PyData.eqv]
    rw [this]; rfl
  | _ => cases ht
def tabs : List D := [.tuple [.str "R", .int 2], .tuple [.str "R", .int 2], .tuple [.str "S", .int 1], .tuple [.str "T", .int 3]]
def vals : List D := [.int 1, .int 2, .str "Red"]
theorem vals_tms : Tms vals := fun d hd => by
  simp only [vals, List.mem_cons, List.not_mem_nil, or_false] at hd
  rcases hd with rfl | rfl | rfl
  · exact ⟨rfl, .int (by omega) (by omega)⟩
  · exact ⟨rfl, .int (by omega) (by omega)⟩
  · exact ⟨by decide +kernel, .str (by decide +kernel)⟩
theorem xyz_facts : ∀ x ∈ XYZ, nmS x = true ∧ x ∈ S := by
  intro x hx
  simp only [XYZ, List.mem_cons, List.not_mem_nil, or_false] at hx
  rcases hx with rfl | rfl | rfl | rfl <;> exact ⟨by decide +kernel, by decide +kernel⟩
theorem nam_tms {ns : List Str} (h : ∀ x ∈ ns, x ∈ XYZ) : Tms (ns.map .str) := fun d hd => by
  obtain ⟨x, hx, rfl⟩ := List.mem_map.mp hd
  obtain ⟨h1, h2⟩ := xyz_facts x (h x hx)
  exact ⟨by simp [tm, nm, h1], .str h2⟩
/-- an atom of told names and values -/
def From (ns : List Str) (a : D) : Prop := ∀ t ∈ tsl a, t ∈ ns.map PyData.str ∨ t ∈ vals
theorem vals_nm : ∀ t ∈ vals, nmO t = none := by
  intro t ht
  simp only [vals, List.mem_cons, List.not_mem_nil, or_false] at ht
  rcases ht with rfl | rfl | rfl
  · rfl
  · rfl
  · have : nmS "Red" = false := by decide +kernel
    simp [nmO, this]
theorem from_names {ns : List Str} (h : ∀ x ∈ ns, x ∈ XYZ) {as : List D} (hf : ∀ a ∈ as, From ns a) : ∀ x ∈ namesA as, x ∈ ns := fun x hx => by
  obtain ⟨a, ha, h2⟩ := List.mem_flatMap.mp hx
  obtain ⟨t, ht, e⟩ := List.mem_filterMap.mp h2
  rcases hf a ha t ht with hm | hm
  · obtain ⟨y, hy, rfl⟩ := List.mem_map.mp hm
    obtain ⟨e2, _⟩ := nmO_some e
    cases e2; exact hy
  · rw [vals_nm t hm] at e; cases e
theorem inN_names {ns : List Str} (h : ∀ x ∈ ns, x ∈ XYZ) {as : List D} : ∀ x ∈ as.flatMap (fun a => inN ns (tsl a)), x ∈ namesA as := fun x hx => by
  obtain ⟨a, ha, h2⟩ := List.mem_flatMap.mp hx
  obtain ⟨t, ht, e⟩ := List.mem_filterMap.mp h2
  refine List.mem_flatMap.mpr ⟨a, ha, List.mem_filterMap.mpr ⟨t, ht, ?_⟩⟩
  cases t with
  | str y =>
    unfold inS at e
    simp only at e
    split at e
    · rename_i c
      cases e
      simp [nmO, (xyz_facts _ (h _ c)).1]
    · cases e
  | _ => cases e
theorem nms_one {hs : List D} {l : List Str} (h : ∀ t ∈ hs, t ∈ l.map PyData.str ∨ t ∈ vals) : ∀ x ∈ nms hs, x ∈ l := fun x hx => by
  obtain ⟨t, ht, e⟩ := List.mem_filterMap.mp hx
  rcases h t ht with hm | hm
  · obtain ⟨y, hy, rfl⟩ := List.mem_map.mp hm
    obtain ⟨e2, _⟩ := nmO_some e
    cases e2; exact hy
  · rw [vals_nm t hm] at e; cases e
theorem app_one {xs : List D} {d : D} (h : xs.length < 100000) : appG (.list xs) [d] = some (.none, .list (xs ++ [d])) := by
  show (if xs.length < 100000 then _ else none) = _
  rw [if_pos h]
def qI (most long : Int) (ns : List Str) (n : Nat) (rest : List D) (e : En) : Prop := ∃ (as : List D) (μ' : Mu), e = ⟨[some (.pt 0), some (.fz (.int most)), some (.fz (.int long)), some (.ow (.list (ns.map .str))), some (.ow (.list vals)), some (.ow (.list as)), none, none, none, none, none, none, none, none], μ'⟩ ∧ Ok μ' ∧ (∀ a ∈ as, AtR a ∧ From ns a) ∧ as.length + rest.length = n
theorem question_ok {μ : Mu} (ok : Ok μ) {most : Int} (m0 : 0 < most) (m1 : most ≤ 4) {long : Int} (h0 : 0 ≤ long) (h1 : long ≤ 4) : Sp (F_u_law_question [.pt 0, .fz (.int most), .fz (.int long)] μ) (fun r μ' => ∃ d, r = .fz d ∧ Qr long.toNat d ∧ Ok μ') := by
  refine Sp_fn rfl rfl ?_
  simp [-bnd_ap, -seqM_ap, B_u_law_question]
  refine draw_w ok (n := 3) (by decide) (by decide) fun r μ1 ok1 r0 r1 => ?_
  obtain ⟨ns, hns, hx, n0, n1⟩ : ∃ ns : List Str, slG2 (.list [.str "x", .str "y", .str "z", .str "u"]) none (some (2 + r)) = some (.fr (.list (ns.map .str))) ∧ (∀ x ∈ ns, x ∈ XYZ) ∧ 0 < ns.length ∧ ns.length ≤ 4 := by
    have : r = 0 ∨ r = 1 ∨ r = 2 := by omega
    rcases this with rfl | rfl | rfl
    · exact ⟨["x", "y"], sll_to _ 2, by decide +kernel, by decide, by decide⟩
    · exact ⟨["x", "y", "z"], sll_to _ 3, by decide +kernel, by decide, by decide⟩
    · exact ⟨["x", "y", "z", "u"], sll_to _ 4, by decide +kernel, by decide, by decide⟩
  have tn := nam_tms hx
  have hso : ∀ x ∈ ns, so x := fun x h => soS (xyz_facts x (hx x h)).2
  simp [-bnd_ap, -seqM_ap, hns]
  refine Wp_rng1 ?_
  simp [-bnd_ap, -seqM_ap]
  refine draw_w ok1 (n := most) m0 (by omega) fun r2 μ2 ok2 r20 r21 => ?_
  simp [-bnd_ap, -seqM_ap, forR_none]
  refine ⟨by omega, by omega, ?_⟩
  have hv : (.list [.int 1, .int 2, .str "Red"] : D) = .list vals := rfl
  rw [hv]
  refine Wp_forL (qI most long ns (1 + r2).toNat) _ _ ⟨[], μ2, rfl, ok2, fun a ha => (by cases ha), by simp [rngL_len]⟩ ?_ ?_
  · rintro d rest e ⟨as, μ3, rfl, ok3, hA, hl⟩
    simp only [List.length_cons] at hl
    simp [-bnd_ap, -seqM_ap, L_u_law_question_1, L_u_law_question_1b, Wp_kilM, -kilM_ap]
    refine pick_w ok3 (xs := tabs) (.inl rfl) (by decide) (by decide) fun tb μ4 ok4 hd => ?_
    obtain ⟨t, m, rfl, ht, hm0, hm1⟩ : ∃ (t : Str) (m : Int), tb = .tuple [.str t, .int m] ∧ ((t = "R" ∧ m = 2) ∨ (t = "S" ∧ m = 1) ∨ (t = "T" ∧ m = 3)) ∧ 0 ≤ m ∧ m ≤ 4 := by
      simp only [tabs, List.mem_cons, List.not_mem_nil, or_false] at hd
      rcases hd with rfl | rfl | rfl | rfl
      · exact ⟨_, _, rfl, .inl ⟨rfl, rfl⟩, by omega, by omega⟩
      · exact ⟨_, _, rfl, .inl ⟨rfl, rfl⟩, by omega, by omega⟩
      · exact ⟨_, _, rfl, .inr (.inl ⟨rfl, rfl⟩), by omega, by omega⟩
      · exact ⟨_, _, rfl, .inr (.inr ⟨rfl, rfl⟩), by omega, by omega⟩
    simp [-bnd_ap, -seqM_ap]
    have shA : SeqAt.shaped (.list as) = true := shp_lst (k := 2) (by omega) fun a ha => ⟨at_v (hA a ha).1.ok, at_dep (hA a ha).1.ok⟩
    have nA := ne_nil shA
    have new : ∀ {μ5 : Mu}, Ok μ5 → Wp (cal F_u_law_terms [.pt 0, .fz (.int m), .bo (.list (ns.map .str)), .bo (.list vals)] ⟨[some (.pt 0), some (.fz (.int most)), some (.fz (.int long)), some (.ow (.list (ns.map .str))), some (.ow (.list vals)), some (.ow (.list as)), some (.fz d), some (.fz (.str t)), some (.fz (.int m)), none, none, none, none, none], μ5⟩)
        (fun r e1 => ∃ ts μ6, r = .fz (.tuple ts) ∧ e1 = ⟨[some (.pt 0), some (.fz (.int most)), some (.fz (.int long)), some (.ow (.list (ns.map .str))), some (.ow (.list vals)), some (.ow (.list as)), some (.fz d), some (.fz (.str t)), some (.fz (.int m)), none, none, none, none, none], μ6⟩ ∧ Ok μ6 ∧ AtR (.tuple [.str t, .tuple ts]) ∧ From ns (.tuple [.str t, .tuple ts])) := fun {μ5} ok5 => by
      refine (terms_ok ok5 hm0 hm1 (.inr rfl) (.inr rfl) (by simpa using n0) (by simp; omega) (by decide) (by decide) tn vals_tms).imp (R := fun r μ' => ∃ d, r = .fz d ∧ ∃ ts, d = .tuple ts ∧ Ok μ' ∧ (ts.length : Int) = m ∧ ∀ t ∈ ts, t ∈ ns.map PyData.str ∨ t ∈ vals) (fun r μ' ⟨ts, e, h⟩ => ⟨_, e, ts, rfl, h⟩) |>.fz (fun d μ6 ⟨ts, e, ok6, hl, hm⟩ => ?_)
      subst e
      refine ⟨ts, μ6, rfl, rfl, ok6, atR_of ?_ fun t ht => ?_, hm⟩
      · rcases ht with ⟨rfl, rfl⟩ | ⟨rfl, rfl⟩ | ⟨rfl, rfl⟩
        · exact .inl ⟨rfl, by omega⟩
        · exact .inr (.inl ⟨rfl, by omega⟩)
        · exact .inr (.inr ⟨rfl, by omega⟩)
      · rcases hm t ht with h | h
        · exact tn t h
        · exact vals_tms t h
    have fin : ∀ {a : D} {μ6 : Mu}, Ok μ6 → AtR a → From ns a → qI most long ns (1 + r2).toNat rest ⟨[some (.pt 0), some (.fz (.int most)), some (.fz (.int long)), some (.ow (.list (ns.map .str))), some (.ow (.list vals)), some (.ow (.list (as ++ [a]))), none, none, none, none, none, none, none, none], μ6⟩ := fun {a μ6} ok6 h1 h2 =>
      ⟨as ++ [a], μ6, rfl, ok6, fun b hb => by
        rcases List.mem_append.mp hb with hb | hb
        · exact hA b hb
        · rw [List.mem_singleton.mp hb]; exact ⟨h1, h2⟩, by simp; omega⟩
    cases c : as with
    | nil =>
      subst c
      simp at nA
      simp [-bnd_ap, -seqM_ap, nA]
      refine (new ok4).imp fun r e1 => ?_
      rintro ⟨ts, μ6, rfl, rfl, ok6, h1, h2⟩
      have ha := app_one (xs := []) (d := .tuple [.str t, .tuple ts]) (by simp)
      simp at ha
      simp [-bnd_ap, -seqM_ap, ha]
      exact fin ok6 h1 h2
    | cons a0 as0 =>
      rw [← c]
      rw [c] at nA
      simp only [List.isEmpty_cons, Bool.not_false] at nA
      rw [← c] at nA
      simp [-bnd_ap, -seqM_ap, nA]
      refine draw_w ok4 (n := 9) (by decide) (by decide) fun r3 μ5 ok5 r30 r31 => ?_
      by_cases c9 : r3 = 0
      · subst c9
        simp [-bnd_ap, -seqM_ap]
        refine pick_w ok5 (xs := as) (.inr rfl) (by rw [c]; simp) (by omega) fun a μ6 ok6 ha => ?_
        have hap := app_one (xs := as) (d := a) (by omega)
        simp [-bnd_ap, -seqM_ap, hap]
        exact fin ok6 (hA a ha).1 (hA a ha).2
      · simp [-bnd_ap, -seqM_ap, c9]
        refine (new ok5).imp fun r e1 => ?_
        rintro ⟨ts, μ6, rfl, rfl, ok6, h1, h2⟩
        have hap := app_one (xs := as) (d := .tuple [.str t, .tuple ts]) (by omega)
        simp [-bnd_ap, -seqM_ap, hap]
        exact fin ok6 h1 h2
  · rintro e ⟨as, μ3, rfl, ok3, hA, hl⟩
    simp only [List.length_nil, Nat.add_zero] at hl
    have hA1 : ∀ a ∈ as, At a := fun a ha => (hA a ha).1.ok
    have hf := forL_fold (t := tgT 2 (tgCons (tgN 7) (tgCons (tgN 10) tgNil))) (b := L_u_law_question_2) (fun a : D => a) (fun (acc : List Str) a => acc ++ inN ns (tsl a))
      (fun acc => ⟨[some (.pt 0), some (.fz (.int most)), some (.fz (.int long)), some (.ow (.list (ns.map .str))), some (.ow (.list vals)), some (.bo (.list as)), none, none, none, some (.ow (.list (acc.map .str))), none, none, none, none], μ3⟩) (fun acc rest => (∀ a ∈ rest, At a) ∧ acc.length + 4 * rest.length ≤ 1000) (fun acc a rest hJ => by
        obtain ⟨h1, h2⟩ := hJ
        have ha := h1 a (List.mem_cons_self ..)
        have hn : (inN ns (tsl a)).length ≤ (tsl a).length := List.length_filterMap_le _ _
        have h4 := ha.n1
        simp only [List.length_cons] at h2
        refine ⟨?_, fun b hb => h1 b (List.mem_cons_of_mem _ hb), by simp only [List.length_append]; omega⟩
        have hv := ha.v
        have ht := ha.t
        obtain ⟨tb, ts, rfl⟩ : ∃ tb ts, a = .tuple [.str tb, .tuple ts] := ⟨_, _, ha.e⟩
        rw [tsl_mk] at *
        have hsz : acc.length + (inN ns ts).length ≤ 100000 := by omega
        have hl : lcR [13] (tgN 13) (tstM (op2 inG (slM 13) (slM 3))) C_u_law_question_1 (ts, none) ⟨[some (.pt 0), some (.fz (.int most)), some (.fz (.int long)), some (.ow (.list (ns.map .str))), some (.ow (.list vals)), some (.bo (.list as)), none, some (.fz (.str tb)), none, some (.ow (.list (acc.map .str))), some (.fz (.tuple ts)), none, none, none], μ3⟩ =
            some (.fr (.list ((inN ns ts).map .str)), ⟨[some (.pt 0), some (.fz (.int most)), some (.fz (.int long)), some (.ow (.list (ns.map .str))), some (.ow (.list vals)), some (.bo (.list as)), none, some (.fz (.str tb)), none, some (.ow (.list (acc.map .str))), some (.fz (.tuple ts)), none, none, none], μ3⟩) := by
          rw [lcR_pure (fun t => (inS ns t).map PyData.str) rfl rfl, inS_map]
          intro t hm
          have i := in_k hso (ht t hm) (hv t hm)
          cases q : inS ns t with
          | none => rw [q] at i; simp [wipeR, lock1, C_u_law_question_1, i]
          | some x =>
            have : t = .str x := by
              cases t with
              | str y =>
                unfold inS at q
                simp only at q
                split at q
                · cases q; rfl
                · cases q
              | _ => cases q
            subst this
            rw [q] at i
            simp [wipeR, lock1, C_u_law_question_1, i]
        simp [L_u_law_question_2, L_u_law_question_2b, hl, hsz]) as [] ⟨hA1, by simp; omega⟩
    have e : ∀ (l : List D) (acc : List Str), l.foldl (fun (acc : List Str) a => acc ++ inN ns (tsl a)) acc = acc ++ l.flatMap (fun a => inN ns (tsl a)) := fun l => by
      induction l with
      | nil => intro acc; simp
      | cons a l ih => intro acc; rw [List.foldl_cons, ih]; simp
    rw [List.map_id', e] at hf
    simp only [List.nil_append] at hf
    have hin := inN_names hx (as := as)
    have hlen : (as.flatMap fun a => inN ns (tsl a)).length ≤ 4 * as.length := by
      clear hf e hin hl
      induction as with
      | nil => exact Nat.le_refl _
      | cons a as ih =>
        have := ih (fun b hb => hA b (List.mem_cons_of_mem _ hb)) (fun b hb => hA1 b (List.mem_cons_of_mem _ hb))
        have h1 : (inN ns (tsl a)).length ≤ (tsl a).length := List.length_filterMap_le _ _
        have h2 := (hA1 a (List.mem_cons_self ..)).n1
        simp only [List.flatMap_cons, List.length_append, List.length_cons]
        omega
    generalize (as.flatMap fun a => inN ns (tsl a)) = th at hf hin hlen
    have h63 : th.length < 63 := by omega
    simp at hf
    simp [-bnd_ap, -seqM_ap, forR_ap, lockable, lock1, hf, unlock1, ssetG, strL_map, h63]
    have hS2 : ∀ x ∈ sset th, x ∈ namesA as := fun x hx' => hin x ((mem_sset x _).mp hx')
    have hso2 : ∀ x ∈ sset th, so x := fun x h => soS (namesA_S hA1 x (hS2 x h))
    have nT : neG (.list ((sset th).map .str)) (.list []) = some (.fz (.bool (!(sset th).isEmpty))) := by
      rw [ne_nil (shp_strs hso2)]
      cases sset th <;> rfl
    have hT2 : ∀ x ∈ sset th, x ∈ XYZ := fun x h => hx x (from_names hx (fun a ha => (hA a ha).2) x (hS2 x h))
    refine Wp_rng1 ?_
    simp [-bnd_ap, -seqM_ap]
    refine ⟨h0, by omega, ?_⟩
    have leS : (sset th).length ≤ 100 := by
      have h1 : (sset th).Nodup := up_nodup (up_sset _)
      have h2 : ∀ x ∈ sset th, x ∈ XYZ := hT2
      have := List.Nodup.length_le_of_subset h1 h2
      simp [XYZ] at this
      omega
    refine Wp_lcR Ok (fun _ o => o ∈ (sset th).map PyData.str ∨ o ∈ vals) rfl rfl ok3 (fun d hd μ4 ok4 => ?_) fun hs μ4 ok4 hAll => ?_
    · have pv : ∀ {μ5 : Mu}, Ok μ5 → Wp (cal F_u_law_pick [.pt 0, .bo (.list vals)] ⟨[some (.pt 0), some (.fz (.int most)), some (.fz (.int long)), some (.ow (.list (ns.map .str))), some (.ow (.list vals)), some (.ow (.list as)), none, none, none, some (.ow (.list ((sset th).map .str))), none, none, some (.fz d), none], μ5⟩)
          (fun r e1 => ∃ v μ6, r = .fz v ∧ e1 = ⟨[some (.pt 0), some (.fz (.int most)), some (.fz (.int long)), some (.ow (.list (ns.map .str))), some (.ow (.list vals)), some (.ow (.list as)), none, none, none, some (.ow (.list ((sset th).map .str))), none, none, some (.fz d), none], μ6⟩ ∧ Ok μ6 ∧ v ∈ vals) := fun {μ5} ok5 => by
        refine pick_w ok5 (xs := vals) (.inr rfl) (by decide) (by decide) fun v μ6 ok6 hv => ?_
        exact ⟨v, μ6, rfl, rfl, ok6, hv⟩
      cases c : (sset th).isEmpty <;> rw [c] at nT <;> simp [-bnd_ap, -seqM_ap, wipeR, lock1, C_u_law_question_2, nT]
      · skip
        refine draw_w ok4 (n := 7) (by decide) (by decide) fun r5 μ5 ok5 r50 r51 => ?_
        by_cases c7 : 0 < r5
        · simp [-bnd_ap, -seqM_ap, c7]
          refine pick_w ok5 (xs := (sset th).map .str) (.inr rfl) (by cases q : sset th with
            | nil => rw [q] at c; simp at c
            | cons => simp) (by simp; omega) fun v μ6 ok6 hv => ?_
          simp [-bnd_ap, -seqM_ap, wipeR]
          exact ⟨ok6, .inl (by simpa using hv)⟩
        · simp [-bnd_ap, -seqM_ap, c7]
          refine (pv ok5).imp fun r e1 => ?_
          rintro ⟨v, μ6, rfl, rfl, ok6, hv⟩
          simp [-bnd_ap, -seqM_ap, wipeR]
          exact ⟨ok6, .inr hv⟩
      · refine (pv ok4).imp fun r e1 => ?_
        rintro ⟨v, μ6, rfl, rfl, ok6, hv⟩
        simp [-bnd_ap, -seqM_ap, wipeR]
        exact ⟨ok6, .inr hv⟩
    · have hm := all2_mem hAll
      have hl2 : hs.length = long.toNat := by rw [← all2_len hAll, rngL_len]
      simp [-bnd_ap, -seqM_ap, tk_ok ok ok4]
      have hT : Tms hs := fun t ht => by
        rcases hm t ht with h | h
        · exact nam_tms hT2 t h
        · exact vals_tms t h
      refine ⟨⟨⟨rfl, by show hs.length ≤ 4; omega, fun t h => (hT t h).1, fun t h => (hT t h).2, ?_, ?_, hA1, even_all fun a ha => (hA a ha).1, ?_⟩, fun a ha => (hA a ha).1, hl2, ?_⟩, ok4⟩
      · show 1 ≤ as.length; omega
      · show as.length ≤ 6; omega
      · intro x hx'
        exact hS2 x (nms_one hm x hx')
      · intro x hx'
        exact hx x (from_names hx (fun a ha => (hA a ha).2) x hx')
end K61
end
section
set_option Elab.async false
set_option linter.all false
set_option maxRecDepth 100000
set_option maxHeartbeats 8000000
namespace K61
open PySem PySem.Spec PyProof.Rows L2 DV
/-! ### unlike ones -/
theorem at_tk {a : D} (h : At a) : TK a := by
  have pk : ∀ t, tm t = true → Pk t := fun t ht => by
    cases t with
    | int i => exact .int i
    | str x => exact .str x
    | _ => cases ht
  refine ⟨⟨_, h.e⟩, ?_, by have := at_dep h; omega⟩
  rw [h.e]
  refine .tup fun d hd => ?_
  simp only [List.mem_cons, List.not_mem_nil, or_false] at hd
  rcases hd with rfl | rfl
  · exact .str _
  · exact .tup fun t ht => pk t (h.t t ht)
section
variable (ρ : List (Option Sl)) (μ : Mu)
theorem unlike_ones_k {w : D} {l : List D} (hw : w = .tuple l ∨ w = .list l) (hl : ∀ a ∈ l, TK a) (n : l.length ≤ 1000) : cal F_unlike_ones [.fz w] ⟨ρ, μ⟩ = some (.fr (.list (uq l)), ⟨ρ, μ⟩) := by
  refine cal_fr (e := ⟨ρ, μ⟩) ?_
  have hf := forL_fold (t := tgN 2) (b := L_unlike_ones_1) (fun a : D => a) (fun (kvs : List (D × Bool)) a => upD a true kvs)
    (fun kvs => ⟨[some (.fz w), some (.ow (.dict (encT .bool kvs))), none], μ⟩) (fun kvs rest => KeysT kvs ∧ (∀ a ∈ rest, TK a) ∧ kvs.length + rest.length ≤ 1000) (fun kvs a rest hJ => by
      obtain ⟨h1, h2, h3⟩ := hJ
      have ha := h2 a (List.mem_cons_self ..)
      obtain ⟨k, hk⟩ := ha.of
      have dk := ha.dk
      have hp := putT_enc PyData.bool hk true kvs
      have hn := nst_enc PyData.bool h1
      have hu := upD_len a true kvs
      simp only [List.length_cons] at h3
      have hlt : kvs.length < 100000 := by omega
      refine ⟨?_, upD_keys h1 ha, fun b hb => h2 b (List.mem_cons_of_mem _ hb), by omega⟩
      simp [L_unlike_ones_1, L_unlike_ones_1b, dk, hk, hn, hp, hlt]) l [] ⟨fun p hp => (by cases hp), hl, by simpa using n⟩
  rw [List.map_id'] at hf
  have ek : ∀ (l : List D) (kvs : List (D × Bool)), (l.foldl (fun (kvs : List (D × Bool)) a => upD a true kvs) kvs).map Prod.fst = l.foldl uqS (kvs.map Prod.fst) := fun l => by
    induction l with
    | nil => intro kvs; rfl
    | cons a l ih => intro kvs; rw [List.foldl_cons, ih, up_uq]; rfl
  have e := ek l []
  have kt : KeysT (l.foldl (fun (kvs : List (D × Bool)) a => upD a true kvs) []) := fun p hp => by
    have : p.1 ∈ uq l := by
      show p.1 ∈ l.foldl uqS []
      have h2 : p.1 ∈ (l.foldl (fun (kvs : List (D × Bool)) a => upD a true kvs) []).map Prod.fst := List.mem_map.mpr ⟨p, hp, rfl⟩
      rw [e] at h2; exact h2
    exact hl _ (mem_uq.mp this)
  generalize l.foldl (fun (kvs : List (D × Bool)) a => upD a true kvs) [] = kvs at hf e kt
  have la : listA (.dict (encT PyData.bool kvs)) = some (.fr (.list (uq l))) := by
    have h1 : listA (.dict (encT PyData.bool kvs)) = if smpK (encT PyData.bool kvs) = true ∨ nstK (encT PyData.bool kvs) = true then some (.fr (.list ((encT PyData.bool kvs).map (·.1)))) else none := rfl
    rw [h1, if_pos (.inr (nst_enc _ kt))]
    have : (encT PyData.bool kvs).map (·.1) = uq l := by
      show _ = l.foldl uqS []
      rw [← show kvs.map Prod.fst = l.foldl uqS [] from e]
      unfold encT; rw [List.map_map]; rfl
    rw [this]
  simp at hf
  rcases hw with rfl | rfl <;> simp [F_unlike_ones, B_unlike_ones, forR_none, hf, la]
theorem l_unlike_k {w : D} {l : List D} (hw : w = .tuple l ∨ w = .list l) (hl : ∀ a ∈ l, At a) (n : l.length ≤ 1000) : cal F_u_law_unlike [.fz w] ⟨ρ, μ⟩ = some (.fr (.list (uq l)), ⟨ρ, μ⟩) := by
  refine cal_fr (e := ⟨ρ, μ⟩) ?_
  have hf := forL_fold (t := tgN 2) (b := L_u_law_unlike_1) (fun a : D => a) uqS
    (fun acc => ⟨[some (.fz w), some (.ow (.list acc)), none], μ⟩) (fun acc rest => (∀ a ∈ acc, At a) ∧ (∀ a ∈ rest, At a) ∧ acc.length + rest.length ≤ 1000) (fun acc a rest hJ => by
      obtain ⟨h1, h2, h3⟩ := hJ
      have ha := h2 a (List.mem_cons_self ..)
      have sh : SeqAt.shaped (.list acc) = true := shp_lst (k := 2) (by omega) fun d hd => ⟨at_v (h1 d hd), at_dep (h1 d hd)⟩
      have ni := notIn_lst (at_shp ha) sh
      rw [hasB_mem (at_nb ha) fun z hz => at_nb (h1 z hz)] at ni
      simp only [List.length_cons] at h3
      have hap := app_one (xs := acc) (d := a) (by omega)
      by_cases c : a ∈ acc
      · have e : uqS acc a = acc := by unfold uqS; rw [if_pos c]
        rw [e]
        refine ⟨?_, h1, fun b hb => h2 b (List.mem_cons_of_mem _ hb), by omega⟩
        simp [L_u_law_unlike_1, L_u_law_unlike_1b, ni, c]
      · have e : uqS acc a = acc ++ [a] := by unfold uqS; rw [if_neg c]
        rw [e]
        refine ⟨?_, fun b hb => ?_, fun b hb => h2 b (List.mem_cons_of_mem _ hb), by simp; omega⟩
        · simp [L_u_law_unlike_1, L_u_law_unlike_1b, ni, c, hap]
        · rcases List.mem_append.mp hb with hb | hb
          · exact h1 b hb
          · rw [List.mem_singleton.mp hb]; exact ha) l [] ⟨fun p hp => (by cases hp), hl, by simpa using n⟩
  rw [List.map_id'] at hf
  have e : l.foldl uqS [] = uq l := rfl
  rw [e] at hf
  rcases hw with rfl | rfl <;> simp [F_u_law_unlike, B_u_law_unlike, forR_none, hf]
end
/-! ### names led further -/
noncomputable def agS (ps : List (Str × D)) (p : D × D) : Option (List (Str × D)) := match nmO p.1 with
  | none => if p.1 = p.2 then some ps else none
  | some x => match lk x ps with
    | some d => if d = p.2 then some ps else none
    | none => some (ps ++ [(x, p.2)])
noncomputable def agr (ts gs : List D) (ps : List (Str × D)) : Option (List (Str × D)) := runO agS ps (ts.zip gs)
structure LedI (ps : List (Str × D)) : Prop where
  n : (ps.map Prod.fst).Nodup
  s : ∀ p ∈ ps, p.1 ∈ S ∧ nmS p.1 = true
  t : ∀ p ∈ ps, tm p.2 = true ∧ Vd S p.2
theorem LedI.nil : LedI [] := ⟨List.nodup_nil, fun p hp => (by cases hp), fun p hp => (by cases hp)⟩
theorem LedI.len {ps : List (Str × D)} (h : LedI ps) : ps.length ≤ 12 := by
  have := List.Nodup.length_le_of_subset h.n (l₂ := S) fun x hx => by
    obtain ⟨p, hp, rfl⟩ := List.mem_map.mp hx
    exact (h.s p hp).1
  simpa [S] using this
theorem LedI.lk {ps : List (Str × D)} (h : LedI ps) {x : Str} {d : D} (e : lk x ps = some d) : tm d = true ∧ Vd S d := h.t _ (lk_mem e)
theorem lk_none {α : Type} {x : Str} : ∀ {ps : List (Str × α)}, lk x ps = none → x ∉ ps.map Prod.fst
  | [], _ => by simp
  | p :: ps, h => by
    unfold DV.lk at h
    split at h
    · cases h
    · rename_i c
      intro hm
      rcases List.mem_cons.mp (show x ∈ p.1 :: ps.map Prod.fst from hm) with e | hm
      · exact c e.symm
      · exact lk_none h hm
theorem LedI.add {ps : List (Str × D)} (h : LedI ps) {x : Str} {d : D} (hx : x ∈ S ∧ nmS x = true) (hd : tm d = true ∧ Vd S d) (e : DV.lk x ps = none) : LedI (ps ++ [(x, d)]) := by
  refine ⟨?_, fun p hp => ?_, fun p hp => ?_⟩
  · rw [List.map_append, List.nodup_append]
    refine ⟨h.n, by simp, fun a ha b hb e2 => ?_⟩
    simp at hb
    rw [e2, hb] at ha
    exact lk_none e ha
  · rcases List.mem_append.mp hp with hp | hp
    · exact h.s p hp
    · rw [List.mem_singleton.mp hp]; exact hx
  · rcases List.mem_append.mp hp with hp | hp
    · exact h.t p hp
    · rw [List.mem_singleton.mp hp]; exact hd
theorem agS_led {ps ps' : List (Str × D)} {p : D × D} (h : LedI ps) (h1 : Vd S p.1) (h2 : tm p.2 = true ∧ Vd S p.2) (e : agS ps p = some ps') : LedI ps' := by
  unfold agS at e
  split at e
  · split at e
    · cases e; exact h
    · cases e
  · rename_i x hx
    obtain ⟨ex, hn⟩ := nmO_some hx
    rw [ex] at h1
    split at e
    · split at e
      · cases e; exact h
      · cases e
    · rename_i hl
      cases e
      exact h.add ⟨h1.of_str, hn⟩ h2 hl
theorem zipL_map : ∀ xs ys : List D, zipL xs ys = (xs.zip ys).map fun p => PyData.tuple [p.1, p.2]
  | [], ys => by simp [zipL]
  | x :: xs, [] => by simp [zipL]
  | x :: xs, y :: ys => by simp [zipL, zipL_map xs ys]
theorem nb_eqv {a b : D} (h : tm a = true) (k : tm b = true) : PyData.eqv a b = decide (a = b) := by
  rw [Bool.eq_iff_iff, eqv_nb (tm_nb h) b (tm_nb k), decide_eq_true_eq]
theorem tm_shp {a : D} (h : tm a = true) (v : Vd S a) : SeqAt.shaped a = true := v.shp gdS (by have := tm_dep h; omega)
def optR : Option (List (Str × D)) → Rs
  | some r => .fr (.dict (encV (fun d => d) r))
  | none => .fz .none
section
variable (ρ : List (Option Sl)) (μ : Mu)
theorem agreed_k {ts gs : List D} (ht : ∀ t ∈ ts, tm t = true ∧ Vd S t) (hg : ∀ t ∈ gs, tm t = true ∧ Vd S t) {ps : List (Str × D)} (hp : LedI ps) {s : Sl} (hs : s = .fz (.dict (encV (fun d => d) ps)) ∨ s = .bo (.dict (encV (fun d => d) ps))) :
    cal F_agreed [.fz (.tuple ts), .fz (.tuple gs), s] ⟨ρ, μ⟩ = some (optR (agr ts gs ps), ⟨ρ, μ⟩) := by
  have hd : dictG (.dict (encV (fun d => d) ps)) = some (.fr (.dict (encV (fun d => d) ps))) := by
    have : dictG (.dict (encV (fun d => d) ps)) = if smpK (encV (fun d => d) ps) = true then some (.fr (.dict (encV (fun d => d) ps))) else none := rfl
    rw [this, if_pos (smpK_enc _ _)]
  have hf := forL_run (t := tgT 2 (tgCons (tgN 4) (tgCons (tgN 5) tgNil))) (b := L_agreed_1) (fun p : D × D => PyData.tuple [p.1, p.2]) agS
    (fun ps => ⟨[some (.fz (.tuple ts)), some (.fz (.tuple gs)), some s, some (.ow (.dict (encV (fun d => d) ps))), none, none], μ⟩) (.fz .none) (fun e => e.μ = μ)
    (fun ps rest => LedI ps ∧ ∀ p ∈ rest, (tm p.1 = true ∧ Vd S p.1) ∧ (tm p.2 = true ∧ Vd S p.2)) (fun ps p rest hJ => by
      obtain ⟨h1, h2⟩ := hJ
      obtain ⟨⟨a1, a2⟩, b1, b2⟩ := h2 p (List.mem_cons_self ..)
      have hr : ∀ q ∈ rest, (tm q.1 = true ∧ Vd S q.1) ∧ (tm q.2 = true ∧ Vd S q.2) := fun q hq => h2 q (List.mem_cons_of_mem _ hq)
      have inv := fun ps' => agS_led (ps' := ps') h1 a2 ⟨b1, b2⟩
      obtain ⟨t, o⟩ := p
      simp only at a1 a2 b1 b2 inv
      have en := nm_nmO t
      have n1 := fun ρ => is_name_k ρ μ a2
      have n2 := fun ρ => is_name_k ρ μ b2
      have ne := ne_sh (tm_shp a1 a2) (tm_shp b1 b2)
      rw [nb_eqv a1 b1] at ne
      cases q : nmO t with
      | none =>
        rw [q] at en
        by_cases c : t = o
        · subst c
          have e : agS ps (t, t) = some ps := by simp [agS, q]
          rw [e]
          simp at ne
          exact ⟨by simp [L_agreed_1, L_agreed_1b, n1, n2, en, ne], h1, hr⟩
        · have e : agS ps (t, o) = none := by simp [agS, q, c]
          rw [e]
          simp only [c, decide_false, Bool.not_false] at ne
          cases no : nm o
          · exact ⟨_, by simp [L_agreed_1, L_agreed_1b, n1, n2, en, ne, no]; rfl, rfl⟩
          · exact ⟨_, by simp [L_agreed_1, L_agreed_1b, n1, n2, en, ne, no]; rfl, rfl⟩
      | some x =>
        rw [q] at en
        obtain ⟨rfl, _⟩ := nmO_some q
        have hsd := sd_enc (fun d : D => d) (x := x) (v := o) (kvs := ps) (by have := h1.len; omega)
        cases l : lk x ps with
        | some d =>
          rw [l] at hsd
          have dd := h1.lk l
          have ne2 := ne_sh (tm_shp dd.1 dd.2) (tm_shp b1 b2)
          rw [nb_eqv dd.1 b1] at ne2
          by_cases c : d = o
          · subst c
            have e : agS ps (.str x, d) = some ps := by simp [agS, q, l]
            rw [e]
            simp at ne2
            exact ⟨by simp [L_agreed_1, L_agreed_1b, n1, n2, en, hsd, ne2], h1, hr⟩
          · have e : agS ps (.str x, o) = none := by simp [agS, q, l, c]
            rw [e]
            simp only [c, decide_false, Bool.not_false] at ne2
            exact ⟨_, by simp [L_agreed_1, L_agreed_1b, n1, n2, en, hsd, ne2]; rfl, rfl⟩
        | none =>
          rw [l] at hsd
          have e : agS ps (.str x, o) = some (ps ++ [(x, o)]) := by simp [agS, q, l]
          rw [e]
          have ne2 := ne_sh (tm_shp b1 b2) (tm_shp b1 b2)
          rw [nb_eqv b1 b1] at ne2
          simp at ne2
          exact ⟨by simp [L_agreed_1, L_agreed_1b, n1, n2, en, hsd, ne2], inv _ e, hr⟩) (ts.zip gs) ps ⟨hp, fun p h => ⟨ht _ (List.of_mem_zip h).1, hg _ (List.of_mem_zip h).2⟩⟩
  rw [← zipL_map] at hf
  unfold agr
  cases q : runO agS ps (ts.zip gs) with
  | some r =>
    rw [q] at hf
    simp only at hf
    refine cal_fr ?_
    rcases hs with rfl | rfl <;> simp [F_agreed, B_agreed, hd, forR_none, hf.1]
  | none =>
    rw [q] at hf
    obtain ⟨e2, h1, h2⟩ := hf
    refine cal_fz ?_
    rcases hs with rfl | rfl <;> simp [F_agreed, B_agreed, hd, forR_none, h1, h2]
end
end K61
end
section
set_option Elab.async false
set_option linter.all false
set_option maxRecDepth 100000
set_option maxHeartbeats 8000000
namespace K61
open PySem PySem.Spec PyProof.Rows L2 DV
/-! ### search -/
theorem forL_find {t : D → M Unit} {b : M Fl} {γ δ : Type} (f : γ → D) (P : γ → Option δ) (rr : δ → Rs) (R : En → Prop) {e : En} : ∀ xs : List γ, (∀ x ∈ xs, match P x with
      | none => bnd (t (f x)) (fun _ => b) e = some (.nx, e)
      | some d => ∃ e2, bnd (t (f x)) (fun _ => b) e = some (.rt (rr d), e2) ∧ R e2) →
    match xs.findSome? P with
      | none => forL t b (xs.map f) e = some (.nx, e)
      | some d => ∃ e2, forL t b (xs.map f) e = some (.rt (rr d), e2) ∧ R e2
  | [], _ => rfl
  | x :: xs, h => by
    have h1 := h x (List.mem_cons_self ..)
    rw [List.findSome?_cons]
    cases q : P x with
    | none =>
      rw [q] at h1
      simp only at h1 ⊢
      rw [List.map_cons, forL_next h1]
      exact forL_find f P rr R xs fun y hy => h y (List.mem_cons_of_mem _ hy)
    | some d =>
      rw [q] at h1
      obtain ⟨e2, h2, h3⟩ := h1
      obtain ⟨u, e1, h4, h5⟩ := bnd_eq h2
      refine ⟨e2, ?_, h3⟩
      rw [List.map_cons]
      show (match t (f x) e with
        | some (_, e1) => match b e1 with
          | some (.nx, e2) => forL t b (xs.map f) e2
          | some (.ct, e2) => forL t b (xs.map f) e2
          | some (.bk, e2) => some (.nx, e2)
          | some (.rt r, e2) => some (.rt r, e2)
          | none => none
        | none => none) = _
      rw [h4]
      simp only
      rw [h5]
noncomputable def ledIn : List D → List D → List (Str × D) → Option (List (Str × D))
  | [], _, ps => some ps
  | a :: as, g, ps => g.findSome? fun z => if tbl z = tbl a then (agr (tsl a) (tsl z) ps).bind fun m => ledIn as g m else none
noncomputable def mapIn (hs l g gh : List D) : Option (List (Str × D)) := (agr hs gh []).bind fun m => ledIn l g m
noncomputable def othr (rows : List D) (row : D) : List D := rows.filterMap fun z => if z = row then none else some z
noncomputable def foldOf (hs l : List D) : Option (List (Str × D)) := (uq l).findSome? fun row => mapIn hs l (othr (uq l) row) hs
theorem mem_othr {rows : List D} {row z : D} : z ∈ othr rows row ↔ z ∈ rows ∧ z ≠ row := by
  unfold othr
  rw [List.mem_filterMap]
  constructor
  · rintro ⟨x, hx, e⟩
    split at e
    · cases e
    · rename_i c; cases e; exact ⟨hx, c⟩
  · rintro ⟨h1, h2⟩
    exact ⟨z, h1, by rw [if_neg h2]⟩
theorem run_led : ∀ (xs : List (D × D)) {ps r : List (Str × D)}, (∀ p ∈ xs, Vd S p.1 ∧ tm p.2 = true ∧ Vd S p.2) → LedI ps → runO agS ps xs = some r → LedI r
  | [], ps, r, _, h, e => by cases e; exact h
  | p :: xs, ps, r, hx, h, e => by
    rw [runO_cons] at e
    have h0 := hx p (List.mem_cons_self ..)
    cases q : agS ps p with
    | none => rw [q] at e; cases e
    | some m =>
      rw [q] at e
      exact run_led xs (fun p hp => hx p (List.mem_cons_of_mem _ hp)) (agS_led h h0.1 h0.2 q) e
theorem agr_led {ts gs : List D} (ht : ∀ t ∈ ts, tm t = true ∧ Vd S t) (hg : ∀ t ∈ gs, tm t = true ∧ Vd S t) {ps r : List (Str × D)} (h : LedI ps) (e : agr ts gs ps = some r) : LedI r :=
  run_led _ (fun p hp => ⟨(ht _ (List.of_mem_zip hp).1).2, hg _ (List.of_mem_zip hp).2⟩) h e
theorem at_tv {a : D} (h : At a) : ∀ t ∈ tsl a, tm t = true ∧ Vd S t := fun t ht => ⟨h.t t ht, h.v t ht⟩
theorem ledIn_led : ∀ {as : List D} {g : List D} {ps r : List (Str × D)}, (∀ a ∈ as, At a) → (∀ a ∈ g, At a) → LedI ps → ledIn as g ps = some r → LedI r
  | [], g, ps, r, _, _, h, e => by cases e; exact h
  | a :: as, g, ps, r, ha, hg, h, e => by
    unfold ledIn at e
    obtain ⟨z, hz, e2⟩ := List.exists_of_findSome?_eq_some e
    split at e2
    · cases q : agr (tsl a) (tsl z) ps with
      | none => rw [q] at e2; cases e2
      | some m =>
        rw [q] at e2
        exact ledIn_led (fun b hb => ha b (List.mem_cons_of_mem _ hb)) hg (agr_led (at_tv (ha a (List.mem_cons_self ..))) (at_tv (hg z hz)) h q) e2
    · cases e2
theorem mapIn_led {hs l g gh : List D} (h1 : ∀ t ∈ hs, tm t = true ∧ Vd S t) (h2 : ∀ t ∈ gh, tm t = true ∧ Vd S t) (hl : ∀ a ∈ l, At a) (hg : ∀ a ∈ g, At a) {r : List (Str × D)} (e : mapIn hs l g gh = some r) : LedI r := by
  unfold mapIn at e
  cases q : agr hs gh [] with
  | none => rw [q] at e; cases e
  | some m => rw [q] at e; exact ledIn_led hl hg (agr_led h1 h2 LedI.nil q) e
def optZ : Option (List (Str × D)) → Rs
  | some r => .fz (.dict (encV (fun d => d) r))
  | none => .fz .none
theorem cal_optZ {F : Fn} {ss : List Sl} {ρ : List (Option Sl)} {μ : Mu} {o : Option (List (Str × D))} (h : F ss μ = some (optZ o, μ)) : cal F ss ⟨ρ, μ⟩ = some (optZ o, ⟨ρ, μ⟩) := by
  cases o with
  | none => exact cal_fz (e := ⟨ρ, μ⟩) h
  | some r => exact cal_fz (e := ⟨ρ, μ⟩) h
section
variable (μ : Mu)
theorem led_into_k : ∀ (n : Nat) (ρ : List (Option Sl)) {as g : List D} {ps : List (Str × D)}, as.length < n → (∀ a ∈ as, At a) → (∀ a ∈ g, At a) → LedI ps → g.length ≤ 1000 →
    cal (F_led_into_ n) [.fz (.list as), .fz (.list g), .fz (.dict (encV (fun d => d) ps))] ⟨ρ, μ⟩ = some (optZ (ledIn as g ps), ⟨ρ, μ⟩)
  | 0, _, _, _, _, h, _, _, _, _ => by omega
  | n + 1, ρ, [], g, ps, hn, ha, hg, hp, hl => by
    refine cal_fz ?_
    have e : eqG (.list []) (.list []) = some (.fz (.bool true)) := by rw [eq_nil (by decide +kernel)]; rfl
    simp [F_led_into_, B_led_into, e]
  | n + 1, ρ, a :: as, g, ps, hn, ha, hg, hp, hl => by
    simp only [List.length_cons] at hn
    have has : ∀ b ∈ as, At b := fun b hb => ha b (List.mem_cons_of_mem _ hb)
    have hA := ha a (List.mem_cons_self ..)
    have ih := fun ρ ps hp => led_into_k n ρ (as := as) (g := g) (ps := ps) (by omega) has hg hp hl
    have e : eqG (.list (a :: as)) (.list []) = some (.fz (.bool false)) := by
      rw [eq_nil (shp_lst (k := 2) (by omega) fun d hd => ⟨at_v (ha d hd), at_dep (ha d hd)⟩)]; rfl
    have ix : ixG (.list (a :: as)) (.int 0) = some (.fz a) := ixl_nat _ 0 rfl
    have sl : slG2 (.list (a :: as)) (some (1 : Int)) none = some (.fr (.list as)) := sll_from (a :: as) 1
    have hf := forL_find (t := tgT 2 (tgCons (tgN 5) (tgCons (tgN 6) tgNil))) (b := L_led_into_1 (F_led_into_ n)) (fun z : D => z) (fun z => if tbl z = tbl a then (agr (tsl a) (tsl z) ps).bind fun m => ledIn as g m else none) (fun r => Rs.fz (.dict (encV (fun d => d) r))) (fun e => e.μ = μ)
      (e := ⟨[some (.fz (.list (a :: as))), some (.fz (.list g)), some (.fz (.dict (encV (fun d => d) ps))), some (.fz (.str (tbl a))), some (.fz (.tuple (tsl a))), none, none, none, none], μ⟩) g (fun z hz => by
        have hZ := hg z hz
        have ag := fun ρ => agreed_k ρ μ (at_tv hA) (at_tv hZ) hp (s := .fz (.dict (encV (fun d => d) ps))) (.inl rfl)
        have led := fun m => agr_led (at_tv hA) (at_tv hZ) hp (r := m)
        have eq := eq_strs2 (soS hZ.s) (soS hA.s)
        obtain ⟨tz, us, rfl⟩ : ∃ tz us, z = .tuple [.str tz, .tuple us] := ⟨_, _, hZ.e⟩
        rw [tbl_mk, tsl_mk] at *
        by_cases c : tz = tbl a
        · rw [if_pos c]
          simp only [c, decide_true] at eq
          cases q : agr (tsl a) us ps with
          | none =>
            rw [q] at ag
            simp only [Option.bind_none]
            simp [L_led_into_1, L_led_into_1b, c, eq, ag, optR]
          | some m =>
            rw [q] at ag
            have lm := led m q
            have ihm := fun ρ => ih ρ m lm
            simp only [Option.bind_some]
            cases q2 : ledIn as g m with
            | none =>
              rw [q2] at ihm
              simp [L_led_into_1, L_led_into_1b, c, eq, ag, optR, sl, ihm, optZ]
            | some r =>
              rw [q2] at ihm
              simp [L_led_into_1, L_led_into_1b, c, eq, ag, optR, sl, ihm, optZ]
        · rw [if_neg c]
          simp only [c, decide_false] at eq
          simp [L_led_into_1, L_led_into_1b, eq])
    rw [List.map_id'] at hf
    have ea := hA.e
    have tg : ∀ e1 : En, tgT 2 (tgCons (tgN 3) (tgCons (tgN 4) tgNil)) a e1 = tgT 2 (tgCons (tgN 3) (tgCons (tgN 4) tgNil)) (.tuple [.str (tbl a), .tuple (tsl a)]) e1 := fun e1 => by rw [← ea]
    unfold ledIn
    generalize g.findSome? (fun z => if tbl z = tbl a then (agr (tsl a) (tsl z) ps).bind fun m => ledIn as g m else none) = o at hf
    cases o with
    | none =>
      refine cal_fz ?_
      simp [F_led_into_, B_led_into, e, ix, tg, forR_none, hf, optZ]
    | some r =>
      obtain ⟨e2, h1, h2⟩ := hf
      refine cal_fz ?_
      simp [F_led_into_, B_led_into, e, ix, tg, forR_none, h1, h2, optZ]
variable (ρ : List (Option Sl))
theorem map_into_k {q : D} (hq : Qk q) {g gh : List D} (hg : ∀ a ∈ g, At a) (hgl : g.length ≤ 1000) (hgh : ∀ t ∈ gh, tm t = true ∧ Vd S t) : cal F_map_into [.fz q, .fz (.list g), .fz (.tuple gh)] ⟨ρ, μ⟩ = some (optZ (mapIn (qhd q) (qat q) g gh), ⟨ρ, μ⟩) := by
  refine cal_optZ ?_
  have ix1 := ix_hd hq
  have ix2 := ix_at hq
  have ht : ∀ t ∈ qhd q, tm t = true ∧ Vd S t := fun t h => ⟨hq.ht t h, hq.hv t h⟩
  have ag := fun ρ => agreed_k ρ μ ht hgh LedI.nil (s := .fz (.dict (encV (fun d => d) []))) (.inl rfl)
  simp at ag
  unfold mapIn
  cases q1 : agr (qhd q) gh [] with
  | none =>
    rw [q1] at ag
    simp [F_map_into, B_map_into, ix1, ag, optR, optZ]
  | some m =>
    rw [q1] at ag
    have lm := agr_led ht hgh LedI.nil q1
    have li := fun ρ => led_into_k μ 12 ρ (as := qat q) (g := g) (by have := hq.n1; omega) hq.a hg lm hgl
    simp only [Option.bind_some]
    cases q2 : ledIn (qat q) g m with
    | none =>
      rw [q2] at li
      simp [F_map_into, B_map_into, ix1, ix2, ag, optR, optZ, li]
    | some r =>
      rw [q2] at li
      simp [F_map_into, B_map_into, ix1, ix2, ag, optR, optZ, li]
end
end K61
end
section
set_option Elab.async false
set_option linter.all false
set_option maxRecDepth 100000
set_option maxHeartbeats 8000000
namespace K61
open PySem PySem.Spec PyProof.Rows L2 DV
/-! ### folds told -/
def tmap (ps : List (Str × D)) : List D := (sset (ps.map Prod.fst)).map fun x => .tuple [.str x, (lk x ps).getD .none]
theorem foldOf_led {q : D} (hq : Qk q) {r : List (Str × D)} (e : foldOf (qhd q) (qat q) = some r) : LedI r := by
  unfold foldOf at e
  obtain ⟨row, hr, e2⟩ := List.exists_of_findSome?_eq_some e
  have ht : ∀ t ∈ qhd q, tm t = true ∧ Vd S t := fun t h => ⟨hq.ht t h, hq.hv t h⟩
  exact mapIn_led ht ht hq.a (fun a ha => hq.a a (mem_uq.mp (mem_othr.mp ha).1)) e2
theorem unlock_mu' {lk : Option Nat} {e : En} : (unlock1 lk e).μ = e.μ := by
  cases lk with
  | none => rfl
  | some i =>
    unfold unlock1
    simp only
    split <;> rfl
section
variable (ρ : List (Option Sl)) (μ : Mu)
theorem fold_of_k {q : D} (hq : Qk q) : cal F_fold_of [.fz q] ⟨ρ, μ⟩ = some (optZ (foldOf (qhd q) (qat q)), ⟨ρ, μ⟩) := by
  have ix1 := ix_hd hq
  have ix2 := ix_at hq
  have ht : ∀ t ∈ qhd q, tm t = true ∧ Vd S t := fun t h => ⟨hq.ht t h, hq.hv t h⟩
  have n1 := hq.n1
  have uo := fun ρ => unlike_ones_k ρ μ (w := .tuple (qat q)) (.inl rfl) (fun a h => at_tk (hq.a a h)) (by omega)
  have hrow : ∀ a ∈ uq (qat q), At a := fun a ha => hq.a a (mem_uq.mp ha)
  have hlen := uq_len (qat q)
  unfold foldOf
  obtain ⟨rows, er⟩ : ∃ rows, rows = uq (qat q) := ⟨_, rfl⟩
  rw [← er] at uo hrow hlen ⊢
  have hf := forL_find (t := tgN 2) (b := L_fold_of_1) (fun z : D => z) (fun row => mapIn (qhd q) (qat q) (othr rows row) (qhd q)) (fun r => Rs.fz (.dict (encV (fun d => d) r))) (fun e => e.μ = μ)
      (e := ⟨[some (.fz q), some (.bo (.list rows)), none, none, none], μ⟩) rows (fun row hr => by
        have hR := hrow row hr
        have ho : ∀ a ∈ othr rows row, At a := fun a ha => hrow a (mem_othr.mp ha).1
        have hol : (othr rows row).length ≤ rows.length := List.length_filterMap_le _ _
        have mi := fun ρ => map_into_k μ ρ hq (g := othr rows row) ho (by omega) ht
        have hl : lcR [4] (tgN 4) (tstM (op2 neG (slM 4) (slM 2))) C_fold_of_1 (rows, none) ⟨[some (.fz q), some (.bo (.list rows)), some (.fz row), none, none], μ⟩ = some (.fr (.list (othr rows row)), ⟨[some (.fz q), some (.bo (.list rows)), some (.fz row), none, none], μ⟩) := by
          refine lcR_pure (fun z => if z = row then none else some z) rfl rfl fun z hz => ?_
          have hZ := hrow z hz
          have ne := ne_sh (at_shp hZ) (at_shp hR)
          have e : PyData.eqv z row = decide (z = row) := by rw [Bool.eq_iff_iff, eqv_nb (at_nb hZ) _ (at_nb hR), decide_eq_true_eq]
          rw [e] at ne
          by_cases c : z = row
          · simp only [c, decide_true] at ne ⊢
            simp [wipeR, lock1, C_fold_of_1, ne]
          · simp only [c, decide_false] at ne ⊢
            simp [wipeR, lock1, C_fold_of_1, ne]
        cases q1 : mapIn (qhd q) (qat q) (othr rows row) (qhd q) with
        | none =>
          rw [q1] at mi
          simp [L_fold_of_1, L_fold_of_1b, hl, ix1, mi, optZ]
        | some r =>
          rw [q1] at mi
          simp [L_fold_of_1, L_fold_of_1b, hl, ix1, mi, optZ])
  rw [List.map_id'] at hf
  generalize rows.findSome? (fun row => mapIn (qhd q) (qat q) (othr rows row) (qhd q)) = o at hf ⊢
  refine cal_optZ ?_
  cases o with
  | none => simp [F_fold_of, B_fold_of, ix2, uo, forR_ap, lockable, lock1, hf, unlock1, optZ]
  | some r =>
    obtain ⟨e2, h1, h2⟩ := hf
    have : ∀ lk, (unlock1 lk e2).μ = μ := fun lk => by rw [← h2]; exact unlock_mu'
    simp [F_fold_of, B_fold_of, ix2, uo, forR_ap, lockable, lock1, h1, optZ, this]
theorem told_map_k {ps : List (Str × D)} (h : LedI ps) {s : Sl} (hs : s = .fz (.dict (encV (fun d => d) ps)) ∨ s = .bo (.dict (encV (fun d => d) ps))) : cal F_told_map [s] ⟨ρ, μ⟩ = some (.fz (.tuple (tmap ps)), ⟨ρ, μ⟩) := by
  refine cal_fz ?_
  have st : sitG (.dict (encV (fun d => d) ps)) = some (.fr (.list (tmap ps))) := by
    have e : sitG (.dict (encV (fun d => d) ps)) = if ((encV (fun d => d) ps).all fun p => isStrD p.1 && smp1 p.2) = true ∧ (encV (fun d => d) ps).length ≤ 1000 then some (.fr (.list ((sset ((encV (fun d => d) ps).map fun p => DV.strOf p.1)).map fun x => .tuple [.str x, (getK (.inr x) (encV (fun d => d) ps)).getD .none]))) else none := rfl
    have c1 : ((encV (fun d => d) ps).all fun p => isStrD p.1 && smp1 p.2) = true := by
      rw [List.all_eq_true]
      intro p hp
      obtain ⟨x, hx, rfl⟩ := List.mem_map.mp hp
      have := (h.t x hx).1
      obtain ⟨a, b⟩ := x
      cases b with
      | int i => rfl
      | str y => rfl
      | _ => cases this
    have e2 : (encV (fun d => d) ps).map (fun p => DV.strOf p.1) = ps.map Prod.fst := by
      unfold encV; rw [List.map_map]; rfl
    rw [e, if_pos ⟨c1, by have := h.len; simp; omega⟩, e2]
    unfold tmap
    have e3 : ∀ x, getK (.inr x) (encV (fun d => d) ps) = lk x ps := fun x => by rw [getK_encV]; cases lk x ps <;> rfl
    simp only [e3]
  rcases hs with rfl | rfl <;> simp [F_told_map, B_told_map, st]
def foldR : Option (List (Str × D)) → D
  | some r => .tuple (tmap r)
  | none => .none
theorem fold_k {q : D} (hq : Qk q) (vq : Vd S q) (dq : q.depth ≤ 60) : cal F_fold [.fz q] ⟨ρ, μ⟩ = some (.fz (foldR (foldOf (qhd q) (qat q))), ⟨ρ, μ⟩) := by
  refine cal_fz ?_
  have hw := fun ρ => want_question_k ρ μ hq vq dq
  have hf := fun ρ => fold_of_k ρ μ hq
  cases c : foldOf (qhd q) (qat q) with
  | none =>
    rw [c] at hf
    simp [F_fold, B_fold, hw, hf, optZ, foldR]
  | some r =>
    rw [c] at hf
    have tm := fun ρ => told_map_k ρ μ (foldOf_led hq c) (s := .fz (.dict (encV (fun d => d) r))) (.inl rfl)
    simp [F_fold, B_fold, hw, hf, optZ, foldR, tm]
end
/-- a question is small -/
theorem q_sh {q : D} (hq : Qk q) : Sh 4 2500 q := by
  rw [hq.e]
  have z1 := sh_tup (ts := qhd q) (fun t ht => ⟨tm_scal (hq.ht t ht), hq.hv t ht⟩) hq.hl
  have za : ∀ a ∈ qat q, Sh 2 300 a := fun a ha => at_sh (hq.a a ha)
  have z2 : (PyData.tuple (qat q)).weight ≤ 1806 := by
    have := wt_le (w := 300) (n := 6) (fun d hd => (za d hd).w) hq.n1
    simp only [PyData.weight]; omega
  have h3 : (PyData.str "ask").weight ≤ 40 := by simpa only [PyData.weight] using (gdS "ask" (by decide +kernel)).2.2
  refine ⟨.tup fun d hd => ?_, .tup fun d hd => ?_, dep_tup.mpr fun d hd => ?_, ?_⟩
  · simp only [List.mem_cons, List.not_mem_nil, or_false] at hd
    rcases hd with rfl | rfl | rfl
    · exact .str (by decide +kernel)
    · exact z1.v
    · exact .tup fun a ha => (za a ha).v
  · simp only [List.mem_cons, List.not_mem_nil, or_false] at hd
    rcases hd with rfl | rfl | rfl
    · exact .str _
    · exact z1.n
    · exact .tup fun a ha => (za a ha).n
  · simp only [List.mem_cons, List.not_mem_nil, or_false] at hd
    rcases hd with rfl | rfl | rfl
    · exact Nat.zero_le _
    · have := z1.k; omega
    · exact dep_tup.mpr fun a ha => (za a ha).k
  · have := z1.w
    simp only [PyData.weight, PyData.weightAll] at *
    omega
end K61
end
section
set_option Elab.async false
set_option linter.all false
set_option maxRecDepth 100000
set_option maxHeartbeats 8000000
namespace K61
open PySem PySem.Spec PyProof.Rows L2 DV
/-! ### the law's fits -/
theorem tm_sh {t : D} (h : tm t = true) (v : Vd S t) : Sh 0 40 t := ⟨v, tm_nb h, Nat.le_of_eq (tm_dep h), scal_wt (tm_scal h) v⟩
theorem map_up {x : Str} {o : D} : ∀ {ps : List (Str × D)}, (∀ p ∈ ps, p.1 = x → p.2 = o) → ps.map (fun p => if p.1 = x then (p.1, o) else p) = ps
  | [], _ => rfl
  | p :: ps, h => by
    rw [List.map_cons, map_up fun q hq => h q (List.mem_cons_of_mem _ hq)]
    by_cases c : p.1 = x
    · rw [if_pos c]
      have := h p (List.mem_cons_self ..) c
      rw [← this]
    · rw [if_neg c]
theorem up_same {ps : List (Str × D)} (h : LedI ps) {x : Str} {o : D} (e : lk x ps = some o) : upS x o ps = ps := by
  unfold upS
  rw [e, if_pos (show (some o).isSome = true from rfl)]
  refine map_up fun p hp ex => ?_
  have := lk_nodup h.n (show (p.1, p.2) ∈ ps from hp)
  rw [ex, e] at this
  exact (Option.some.inj this).symm
section
variable (ρ : List (Option Sl)) (μ : Mu)
theorem fits_k {ts gs : List D} (ht : ∀ t ∈ ts, tm t = true ∧ Vd S t) (hg : ∀ t ∈ gs, tm t = true ∧ Vd S t) {ps : List (Str × D)} (hp : LedI ps) {s : Sl} (hs : s = .fz (.dict (encV (fun d => d) ps)) ∨ s = .bo (.dict (encV (fun d => d) ps))) :
    cal F_u_law_fits [.fz (.tuple ts), .fz (.tuple gs), s] ⟨ρ, μ⟩ = some (optR (agr ts gs ps), ⟨ρ, μ⟩) := by
  have hd : dictG (.dict (encV (fun d => d) ps)) = some (.fr (.dict (encV (fun d => d) ps))) := by
    have : dictG (.dict (encV (fun d => d) ps)) = if smpK (encV (fun d => d) ps) = true then some (.fr (.dict (encV (fun d => d) ps))) else none := rfl
    rw [this, if_pos (smpK_enc _ _)]
  have hf := forL_run (t := tgT 2 (tgCons (tgN 4) (tgCons (tgN 5) tgNil))) (b := L_u_law_fits_1) (fun p : D × D => PyData.tuple [p.1, p.2]) agS
    (fun ps => ⟨[some (.fz (.tuple ts)), some (.fz (.tuple gs)), some s, some (.ow (.dict (encV (fun d => d) ps))), none, none], μ⟩) (.fz .none) (fun e => e.μ = μ)
    (fun ps rest => LedI ps ∧ ∀ p ∈ rest, (tm p.1 = true ∧ Vd S p.1) ∧ (tm p.2 = true ∧ Vd S p.2)) (fun ps p rest hJ => by
      obtain ⟨h1, h2⟩ := hJ
      obtain ⟨⟨a1, a2⟩, b1, b2⟩ := h2 p (List.mem_cons_self ..)
      have hr : ∀ q ∈ rest, (tm q.1 = true ∧ Vd S q.1) ∧ (tm q.2 = true ∧ Vd S q.2) := fun q hq => h2 q (List.mem_cons_of_mem _ hq)
      have inv := fun ps' => agS_led (ps' := ps') h1 a2 ⟨b1, b2⟩
      obtain ⟨t, o⟩ := p
      simp only at a1 a2 b1 b2 inv
      have en := nm_nmO t
      have n1 := fun ρ => l_is_name_k ρ μ a2 a1
      have zt := tm_sh a1 a2
      have zo := tm_sh b1 b2
      have r1 := zt.repr (by omega) (by omega)
      have r2 := zo.repr (by omega) (by omega)
      have ne := ne_strs2 zt.so zo.so
      rw [sh_eq zt zo, nb_eqv a1 b1] at ne
      cases q : nmO t with
      | none =>
        rw [q] at en
        by_cases c : t = o
        · subst c
          have e : agS ps (t, t) = some ps := by simp [agS, q]
          rw [e]
          simp at ne
          exact ⟨by simp [L_u_law_fits_1, L_u_law_fits_1b, n1, en, r1, ne], h1, hr⟩
        · have e : agS ps (t, o) = none := by simp [agS, q, c]
          rw [e]
          simp only [c, decide_false, Bool.not_false] at ne
          exact ⟨_, by simp [L_u_law_fits_1, L_u_law_fits_1b, n1, en, r1, r2, ne]; rfl, rfl⟩
      | some x =>
        rw [q] at en
        obtain ⟨rfl, _⟩ := nmO_some q
        have hlen : ps.length < 100000 := by have := h1.len; omega
        have gk : getK (.inr x) (encV (fun d => d) ps) = lk x ps := by rw [getK_encV]; cases lk x ps <;> rfl
        have sm := smpK_enc (fun d : D => d) ps
        have pu := putD_encV (fun d : D => d) x o ps
        cases l : lk x ps with
        | some d =>
          rw [l] at gk
          have dd := h1.lk l
          have zd := tm_sh dd.1 dd.2
          have r3 := zd.repr (by omega) (by omega)
          have ne2 := ne_strs2 zd.so zo.so
          rw [sh_eq zd zo, nb_eqv dd.1 b1] at ne2
          by_cases c : d = o
          · subst c
            have e : agS ps (.str x, d) = some ps := by simp [agS, q, l]
            rw [e]
            rw [up_same h1 l] at pu
            simp at ne2
            exact ⟨by simp [L_u_law_fits_1, L_u_law_fits_1b, n1, en, getG, gk, sm, r3, ne2, hlen, pu], h1, hr⟩
          · have e : agS ps (.str x, o) = none := by simp [agS, q, l, c]
            rw [e]
            simp only [c, decide_false, Bool.not_false] at ne2
            exact ⟨_, by simp [L_u_law_fits_1, L_u_law_fits_1b, n1, en, getG, gk, sm, r2, r3, ne2]; rfl, rfl⟩
        | none =>
          rw [l] at gk
          have e : agS ps (.str x, o) = some (ps ++ [(x, o)]) := by simp [agS, q, l]
          rw [e]
          have up : upS x o ps = ps ++ [(x, o)] := by unfold upS; rw [l]; simp
          rw [up] at pu
          have ne2 := ne_strs2 zo.so zo.so
          simp at ne2
          exact ⟨by simp [L_u_law_fits_1, L_u_law_fits_1b, n1, en, getG, gk, sm, r2, ne2, hlen, pu], inv _ e, hr⟩) (ts.zip gs) ps ⟨hp, fun p h => ⟨ht _ (List.of_mem_zip h).1, hg _ (List.of_mem_zip h).2⟩⟩
  rw [← zipL_map] at hf
  unfold agr
  cases q : runO agS ps (ts.zip gs) with
  | some r =>
    rw [q] at hf
    simp only at hf
    refine cal_fr ?_
    rcases hs with rfl | rfl <;> simp [F_u_law_fits, B_u_law_fits, hd, forR_none, hf.1]
  | none =>
    rw [q] at hf
    obtain ⟨e2, h1, h2⟩ := hf
    refine cal_fz ?_
    rcases hs with rfl | rfl <;> simp [F_u_law_fits, B_u_law_fits, hd, forR_none, h1, h2]
end
end K61
end
section
set_option Elab.async false
set_option linter.all false
set_option maxRecDepth 100000
set_option maxHeartbeats 8000000
namespace K61
open PySem PySem.Spec PyProof.Rows L2 DV
/-! ### all maps -/
abbrev Led := List (Str × D)
def addK (K : List Str) (t : D) : List Str := match nmO t with
  | some x => if x ∈ K then K else K ++ [x]
  | none => K
def keysA (K : List Str) (ts : List D) : List Str := ts.foldl addK K
theorem lk_isSome_iff {α : Type} {x : Str} {ps : List (Str × α)} : (lk x ps).isSome = true ↔ x ∈ ps.map Prod.fst := by
  constructor
  · intro h
    cases c : lk x ps with
    | none => rw [c] at h; cases h
    | some d => exact List.mem_map.mpr ⟨_, lk_mem c, rfl⟩
  · exact lk_isSome
theorem agS_keys {ps m : Led} {p : D × D} (e : agS ps p = some m) : m.map Prod.fst = addK (ps.map Prod.fst) p.1 := by
  unfold agS at e
  unfold addK
  split at e
  · rename_i h
    split at e
    · cases e; rw [h]
    · cases e
  · rename_i x h
    rw [h]
    simp only
    split at e
    · rename_i d hl
      split at e
      · cases e
        rw [if_pos (lk_isSome_iff.mp (by rw [hl]; rfl))]
      · cases e
    · rename_i hl
      cases e
      rw [if_neg (lk_none hl)]
      simp
theorem run_keys : ∀ (xs : List (D × D)) {ps m : Led}, runO agS ps xs = some m → m.map Prod.fst = keysA (ps.map Prod.fst) (xs.map Prod.fst)
  | [], ps, m, e => by cases e; rfl
  | p :: xs, ps, m, e => by
    rw [runO_cons] at e
    cases q : agS ps p with
    | none => rw [q] at e; cases e
    | some r =>
      rw [q] at e
      rw [run_keys xs e, agS_keys q]; rfl
theorem zip_fst : ∀ {ts gs : List D}, ts.length = gs.length → (ts.zip gs).map Prod.fst = ts
  | [], [], _ => rfl
  | t :: ts, g :: gs, h => by
    rw [List.zip_cons_cons, List.map_cons, zip_fst (by simpa using h)]
theorem agr_keys {ts gs : List D} {ps m : Led} (hl : ts.length = gs.length) (e : agr ts gs ps = some m) : m.map Prod.fst = keysA (ps.map Prod.fst) ts := by
  rw [run_keys _ e, zip_fst hl]
/-! dicts with the same keys -/
theorem led_eta : ∀ {m : Led}, (m.map Prod.fst).Nodup → m = (m.map Prod.fst).map fun x => (x, (lk x m).getD .none)
  | m, h => by
    rw [List.map_map]
    refine (List.map_id' m).symm.trans (List.map_congr_left fun p hp => ?_)
    show p = (p.1, (lk p.1 m).getD .none)
    rw [lk_nodup h (show (p.1, p.2) ∈ m from hp)]; rfl
theorem led_ext {m n : Led} (hm : (m.map Prod.fst).Nodup) (hk : m.map Prod.fst = n.map Prod.fst) (h : ∀ x, lk x m = lk x n) : m = n := by
  refine (led_eta hm).trans (Eq.trans ?_ (led_eta (m := n) (by rw [← hk]; exact hm)).symm)
  rw [hk]
  refine List.map_congr_left fun x _ => by rw [h]
theorem dEq_led {m n : Led} (hm : LedI m) (hn : LedI n) (hk : m.map Prod.fst = n.map Prod.fst) : dEq (encV (fun d => d) m) (encV (fun d => d) n) = decide (m = n) := by
  have hl : m.length = n.length := by have := congrArg List.length hk; simpa using this
  have e : dEq (encV (fun d => d) m) (encV (fun d => d) n) = m.all fun p => (match lk p.1 n with | some y => PyData.eqv p.2 y | none => false) := by
    unfold dEq
    rw [encV_len, encV_len, hl]
    simp only [beq_self_eq_true, Bool.true_and]
    unfold encV
    rw [List.all_map]
    refine congrArg (List.all m) (funext fun p => ?_)
    show (match getK (.inr p.1) (encV (fun d => d) n) with | some y => PyData.eqv p.2 y | none => false) = _
    rw [getK_encV]
    cases lk p.1 n <;> rfl
  rw [e, Bool.eq_iff_iff, List.all_eq_true, decide_eq_true_eq]
  constructor
  · intro h
    refine led_ext hm.n hk fun x => ?_
    cases c : lk x m with
    | some d =>
      have := h _ (lk_mem c)
      simp only at this
      cases c2 : lk x n with
      | none => rw [c2] at this; cases this
      | some y =>
        rw [c2] at this
        have e2 := (eqv_nb (tm_nb (hm.lk c).1) y (tm_nb (hn.lk c2).1)).mp this
        rw [e2]
    | none =>
      have h1 := lk_none c
      rw [hk] at h1
      cases c2 : lk x n with
      | none => rfl
      | some y => exact absurd (lk_isSome_iff.mp (by rw [c2]; rfl)) h1
  · rintro rfl p hp
    have := lk_nodup hm.n (show (p.1, p.2) ∈ m from hp)
    rw [this]
    exact (eqv_nb (tm_nb (hm.t p hp).1) _ (tm_nb (hm.t p hp).1)).mpr rfl
def dct (m : Led) : D := .dict (encV (fun d => d) m)
theorem dctL_led {m : Led} (h : LedI m) : dctL (dct m) = some (encV (fun d => d) m) := by
  have c2 : ((encV (fun d => d) m).all fun p => smp1 p.2) = true := by
    rw [List.all_eq_true]
    intro p hp
    obtain ⟨x, hx, rfl⟩ := List.mem_map.mp hp
    have := (h.t x hx).1
    obtain ⟨a, b⟩ := x
    cases b with
    | int i => rfl
    | str y => rfl
    | _ => cases this
  show (if smpK _ = true ∧ _ then _ else none) = _
  exact if_pos ⟨smpK_enc _ _, c2⟩
structure FsI (K : List Str) (fs : List Led) : Prop where
  l : ∀ m ∈ fs, LedI m
  k : ∀ m ∈ fs, m.map Prod.fst = K
theorem hasD_k {K : List Str} {m : Led} (hm : LedI m) (hk : m.map Prod.fst = K) {fs : List Led} (h : FsI K fs) : hasDG true (dct m) (.list (fs.map dct)) = some (.fz (.bool (!decide (m ∈ fs)))) := by
  have all : (fs.map dct).all (fun d => (dctL d).isSome) = true := by
    rw [List.all_map, List.all_eq_true]
    intro n hn
    show (dctL (dct n)).isSome = true
    rw [dctL_led (h.l n hn)]; rfl
  unfold hasDG
  rw [dctL_led hm]
  simp only
  rw [if_pos all]
  have e : (fs.map dct).any (fun d => dEq (dOf d) (encV (fun d => d) m)) = decide (m ∈ fs) := by
    rw [List.any_map, Bool.eq_iff_iff, List.any_eq_true, decide_eq_true_eq]
    constructor
    · rintro ⟨n, hn, e⟩
      have e2 : dEq (encV (fun d => d) n) (encV (fun d => d) m) = true := e
      rw [dEq_led (h.l n hn) hm (by rw [h.k n hn, hk]), decide_eq_true_eq] at e2
      rw [← e2]; exact hn
    · intro hm'
      refine ⟨m, hm', ?_⟩
      show dEq (encV (fun d => d) m) (encV (fun d => d) m) = true
      rw [dEq_led hm hm rfl]; simp
  rw [e]
  cases decide (m ∈ fs) <;> rfl
/-! in plain words -/
noncomputable def goOn (a z : D) (ps : Led) : Option Led := if tbl z = tbl a then agr (tsl a) (tsl z) ps else none
noncomputable def putL (late : List Led) : Option Led → List Led
  | some m => if m ∈ late then late else late ++ [m]
  | none => late
noncomputable def lateS (a : D) (g : List D) (late : List Led) (ps : Led) : List Led := g.foldl (fun late z => putL late (goOn a z ps)) late
noncomputable def stepM (g : List D) (fs : List Led) (a : D) : List Led := fs.foldl (lateS a g) []
noncomputable def startM (hs gh : List D) : List Led := match agr hs gh [] with
  | some m => [m]
  | none => []
noncomputable def mapsOf (hs l g gh : List D) : List Led := l.foldl (stepM g) (startM hs gh)
theorem mem_putL {late : List Led} {o : Option Led} {m : Led} : m ∈ putL late o ↔ m ∈ late ∨ o = some m := by
  cases o with
  | none => simp [putL]
  | some n =>
    unfold putL
    simp only
    split
    · rename_i c
      constructor
      · exact .inl
      · rintro (h | h)
        · exact h
        · cases h; exact c
    · simp only [List.mem_append, List.mem_singleton, Option.some.injEq]
      exact or_congr Iff.rfl eq_comm
theorem mem_lateS {a : D} {ps m : Led} : ∀ (g : List D) (late : List Led), m ∈ lateS a g late ps ↔ m ∈ late ∨ ∃ z ∈ g, goOn a z ps = some m
  | [], late => by simp [lateS]
  | z :: g, late => by
    have ih := mem_lateS (a := a) (ps := ps) (m := m) g (putL late (goOn a z ps))
    unfold lateS at ih ⊢
    rw [List.foldl_cons, ih, mem_putL]
    simp only [List.mem_cons, exists_eq_or_imp, or_assoc]
theorem mem_stepM {a : D} {g : List D} {m : Led} {fs : List Led} : m ∈ stepM g fs a ↔ ∃ ps ∈ fs, ∃ z ∈ g, goOn a z ps = some m := by
  have key : ∀ (fs late : List Led), m ∈ fs.foldl (lateS a g) late ↔ m ∈ late ∨ ∃ ps ∈ fs, ∃ z ∈ g, goOn a z ps = some m := fun fs => by
    induction fs with
    | nil => intro late; simp
    | cons ps fs ih =>
      intro late
      rw [List.foldl_cons, ih, mem_lateS]
      simp only [List.mem_cons, exists_eq_or_imp, or_assoc]
  unfold stepM
  rw [key]; simp
theorem putL_len (late : List Led) (o : Option Led) : (putL late o).length ≤ late.length + 1 := by
  cases o with
  | none => simp [putL]
  | some n => unfold putL; simp only; split <;> simp
theorem lateS_len {a : D} {ps : Led} : ∀ (g : List D) (late : List Led), (lateS a g late ps).length ≤ late.length + g.length
  | [], late => by simp [lateS]
  | z :: g, late => by
    have ih := lateS_len (a := a) (ps := ps) g (putL late (goOn a z ps))
    have := putL_len late (goOn a z ps)
    unfold lateS at ih ⊢
    rw [List.foldl_cons]
    simp only [List.length_cons]; omega
theorem stepM_len {a : D} {g : List D} (fs : List Led) : (stepM g fs a).length ≤ fs.length * g.length := by
  have key : ∀ (fs late : List Led), (fs.foldl (lateS a g) late).length ≤ late.length + fs.length * g.length := fun fs => by
    induction fs with
    | nil => intro late; simp
    | cons ps fs ih =>
      intro late
      rw [List.foldl_cons]
      have h1 := ih (lateS a g late ps)
      have h2 := lateS_len (a := a) (ps := ps) g late
      simp only [List.length_cons, Nat.succ_mul]; omega
  have := key fs []
  simpa [stepM] using this
/-- goals of as many terms as the atoms of their tables -/
def Ars (g l : List D) : Prop := ∀ z ∈ g, ∀ a ∈ l, tbl z = tbl a → (tsl a).length = (tsl z).length
theorem goOn_inv {a z : D} {ps m : Led} (ha : At a) (hz : At z) (hl : tbl z = tbl a → (tsl a).length = (tsl z).length) (h : LedI ps) (e : goOn a z ps = some m) : LedI m ∧ m.map Prod.fst = keysA (ps.map Prod.fst) (tsl a) := by
  unfold goOn at e
  split at e
  · rename_i c
    exact ⟨agr_led (at_tv ha) (at_tv hz) h e, agr_keys (hl c) e⟩
  · cases e
theorem stepM_inv {g l : List D} (hl : Ars g l) (hg : ∀ z ∈ g, At z) {a : D} (hal : a ∈ l) (ha : At a) {K : List Str} {fs : List Led} (h : FsI K fs) : FsI (keysA K (tsl a)) (stepM g fs a) := by
  refine ⟨fun m hm => ?_, fun m hm => ?_⟩
  · obtain ⟨ps, hp, z, hz, e⟩ := mem_stepM.mp hm
    exact (goOn_inv ha (hg z hz) (hl z hz a hal) (h.l ps hp) e).1
  · obtain ⟨ps, hp, z, hz, e⟩ := mem_stepM.mp hm
    rw [(goOn_inv ha (hg z hz) (hl z hz a hal) (h.l ps hp) e).2, h.k ps hp]
end K61
end
section
set_option Elab.async false
set_option linter.all false
set_option maxRecDepth 100000
set_option maxHeartbeats 8000000
namespace K61
open PySem PySem.Spec PyProof.Rows L2 DV
/-! ### all maps, walked -/
theorem isN_dct (m : Led) : isNoneD (dct m) = false := rfl
section
variable (μ : Mu)
/-- one goal -/
theorem goal_turn {q w : D} {gh : List D} {s3 s4 : Option Sl} {a : D} (ha : At a) {ps : Led} (hp : LedI ps) {K : List Str} (hK : ps.map Prod.fst = K) {g l : List D} (hal : a ∈ l) (hg : ∀ z ∈ g, At z) (hl : Ars g l) {late : List Led} (hI : FsI (keysA K (tsl a)) late) (hlen : late.length < 99999) {z : D} (hz : z ∈ g) :
    bnd (tgT 2 (tgCons (tgN 9) (tgCons (tgN 10) tgNil)) z) (fun _ => L_u_law_maps_1) ⟨[some (.fz q), some (.fz w), some (.fz (.tuple gh)), s3, s4, some (.fz (.str (tbl a))), some (.fz (.tuple (tsl a))), some (.ow (.list (late.map dct))), some (.fz (dct ps)), none, none, none], μ⟩ =
    some (.nx, ⟨[some (.fz q), some (.fz w), some (.fz (.tuple gh)), s3, s4, some (.fz (.str (tbl a))), some (.fz (.tuple (tsl a))), some (.ow (.list ((putL late (goOn a z ps)).map dct))), some (.fz (dct ps)), none, none, none], μ⟩) := by
  have hZ := hg z hz
  have fi := fun ρ => fits_k ρ μ (at_tv ha) (at_tv hZ) hp (s := .fz (dct ps)) (.inl rfl)
  have inv : ∀ m, goOn a z ps = some m → _ := fun m => goOn_inv (m := m) ha hZ (hl z hz a hal) hp
  have eq := eq_strs2 (soS hZ.s) (soS ha.s)
  have g0 : tbl z = tbl a → goOn a z ps = agr (tsl a) (tsl z) ps := fun c => if_pos c
  have g1 : ¬ tbl z = tbl a → goOn a z ps = none := fun c => if_neg c
  generalize goOn a z ps = o at g0 g1 inv ⊢
  obtain ⟨tz, us, rfl⟩ : ∃ tz us, z = .tuple [.str tz, .tuple us] := ⟨_, _, hZ.e⟩
  simp only [tbl_mk, tsl_mk] at *
  by_cases c : tz = tbl a
  · have e0 := g0 c
    subst e0
    simp only [c, decide_true] at eq
    cases q1 : agr (tsl a) us ps with
    | none =>
      rw [q1] at fi
      simp [L_u_law_maps_1, L_u_law_maps_1b, c, eq, fi, optR, putL]
    | some m =>
      rw [q1] at fi
      obtain ⟨i1, i2⟩ := inv m q1
      have hd := hasD_k i1 (by rw [i2, hK]) hI
      have hap := app_one (xs := late.map dct) (d := dct m) (by simp; omega)
      by_cases c2 : m ∈ late
      · simp only [c2, decide_true] at hd
        have : putL late (some m) = late := by unfold putL; simp only; rw [if_pos c2]
        rw [this]
        have hd' : hasDG true (.dict (encV (fun d => d) m)) (.list (late.map dct)) = _ := hd
        simp [L_u_law_maps_1, L_u_law_maps_1b, c, eq, fi, optR, hd']
      · simp only [c2, decide_false] at hd
        have : putL late (some m) = late ++ [m] := by unfold putL; simp only; rw [if_neg c2]
        rw [this]
        have hd' : hasDG true (.dict (encV (fun d => d) m)) (.list (late.map dct)) = _ := hd
        have hap' : appG (.list (late.map dct)) [.dict (encV (fun d => d) m)] = _ := hap
        simp [L_u_law_maps_1, L_u_law_maps_1b, c, eq, fi, optR, hd', hap']
  · have e0 := g1 c
    subst e0
    simp only [c, decide_false] at eq
    simp [L_u_law_maps_1, L_u_law_maps_1b, eq, putL]
/-- one map, all goals -/
theorem led_turn {q w : D} {gh : List D} {s3 s4 : Option Sl} {a : D} (ha : At a) {ps : Led} (hp : LedI ps) {K : List Str} (hK : ps.map Prod.fst = K) {g l : List D} (hw : w = .tuple g ∨ w = .list g) (hal : a ∈ l) (hg : ∀ z ∈ g, At z) (hl : Ars g l) {late : List Led} (hI : FsI (keysA K (tsl a)) late) (hlen : late.length + g.length < 99999) :
    bnd (tgN 8 (dct ps)) (fun _ => L_u_law_maps_2) ⟨[some (.fz q), some (.fz w), some (.fz (.tuple gh)), s3, s4, some (.fz (.str (tbl a))), some (.fz (.tuple (tsl a))), some (.ow (.list (late.map dct))), none, none, none, none], μ⟩ =
    some (.nx, ⟨[some (.fz q), some (.fz w), some (.fz (.tuple gh)), s3, s4, some (.fz (.str (tbl a))), some (.fz (.tuple (tsl a))), some (.ow (.list ((lateS a g late ps).map dct))), none, none, none, none], μ⟩) := by
  have hf := forL_fold (t := tgT 2 (tgCons (tgN 9) (tgCons (tgN 10) tgNil))) (b := L_u_law_maps_1) (fun z : D => z) (fun late z => putL late (goOn a z ps))
    (fun late => ⟨[some (.fz q), some (.fz w), some (.fz (.tuple gh)), s3, s4, some (.fz (.str (tbl a))), some (.fz (.tuple (tsl a))), some (.ow (.list (late.map dct))), some (.fz (dct ps)), none, none, none], μ⟩)
    (fun late rest => FsI (keysA K (tsl a)) late ∧ (∀ z ∈ rest, z ∈ g) ∧ late.length + rest.length < 99999) (fun late z rest hJ => by
      obtain ⟨h1, h2, h3⟩ := hJ
      simp only [List.length_cons] at h3
      have hz := h2 z (List.mem_cons_self ..)
      refine ⟨goal_turn μ ha hp hK hal hg hl h1 (by omega) hz, ⟨fun m hm => ?_, fun m hm => ?_⟩, fun y hy => h2 y (List.mem_cons_of_mem _ hy), by have := putL_len late (goOn a z ps); omega⟩
      · rcases mem_putL.mp hm with hm | hm
        · exact h1.l m hm
        · exact (goOn_inv ha (hg z hz) (hl z hz a hal) hp hm).1
      · rcases mem_putL.mp hm with hm | hm
        · exact h1.k m hm
        · rw [(goOn_inv ha (hg z hz) (hl z hz a hal) hp hm).2, hK]) g late ⟨hI, fun z hz => hz, hlen⟩
  rw [List.map_id'] at hf
  have e : g.foldl (fun late z => putL late (goOn a z ps)) late = lateS a g late ps := rfl
  rw [e] at hf
  generalize lateS a g late ps = out at hf ⊢
  rcases hw with rfl | rfl <;> simp [L_u_law_maps_2, L_u_law_maps_2b, forR_none, hf]
/-- one atom, all maps -/
theorem atom_turn {q w : D} {gh : List D} {s3 : Option Sl} {s4 : Sl} {a : D} (ha : At a) {fs : List Led} {K : List Str} (hF : FsI K fs) (h4 : s4 = .fz (.list (fs.map dct)) ∨ s4 = .ow (.list (fs.map dct))) {g l : List D} (hw : w = .tuple g ∨ w = .list g) (hal : a ∈ l) (hg : ∀ z ∈ g, At z) (hl : Ars g l) (hlen : fs.length * g.length + g.length < 90000) :
    bnd (tgT 2 (tgCons (tgN 5) (tgCons (tgN 6) tgNil)) a) (fun _ => L_u_law_maps_3) ⟨[some (.fz q), some (.fz w), some (.fz (.tuple gh)), s3, some s4, none, none, none, none, none, none, none], μ⟩ =
    some (.nx, ⟨[some (.fz q), some (.fz w), some (.fz (.tuple gh)), s3, some (.ow (.list ((stepM g fs a).map dct))), none, none, none, none, none, none, none], μ⟩) := by
  have hf := fun s4 => forL_fold (t := tgN 8) (b := L_u_law_maps_2) (fun ps : Led => dct ps) (lateS a g)
    (fun late => ⟨[some (.fz q), some (.fz w), some (.fz (.tuple gh)), s3, s4, some (.fz (.str (tbl a))), some (.fz (.tuple (tsl a))), some (.ow (.list (late.map dct))), none, none, none, none], μ⟩)
    (fun late rest => FsI (keysA K (tsl a)) late ∧ (∀ m ∈ rest, m ∈ fs) ∧ late.length + rest.length * g.length + g.length < 99999) (fun late ps rest hJ => by
      obtain ⟨h1, h2, h3⟩ := hJ
      simp only [List.length_cons, Nat.succ_mul] at h3
      have hm := h2 ps (List.mem_cons_self ..)
      have hp := hF.l ps hm
      have hk := hF.k ps hm
      refine ⟨led_turn μ ha hp hk hw hal hg hl h1 (by omega), ⟨fun m hm => ?_, fun m hm => ?_⟩, fun y hy => h2 y (List.mem_cons_of_mem _ hy), by have := lateS_len (a := a) (ps := ps) g late; omega⟩
      · rcases (mem_lateS g late).mp hm with hm | ⟨z, hz, e⟩
        · exact h1.l m hm
        · exact (goOn_inv ha (hg z hz) (hl z hz a hal) hp e).1
      · rcases (mem_lateS g late).mp hm with hm | ⟨z, hz, e⟩
        · exact h1.k m hm
        · rw [(goOn_inv ha (hg z hz) (hl z hz a hal) hp e).2, hk]) fs [] ⟨⟨fun m hm => (by cases hm), fun m hm => (by cases hm)⟩, fun m hm => hm, by simp; omega⟩
  have e : fs.foldl (lateS a g) [] = stepM g fs a := rfl
  rw [e] at hf
  have ea := ha.e
  have tg : ∀ e1 : En, tgT 2 (tgCons (tgN 5) (tgCons (tgN 6) tgNil)) a e1 = tgT 2 (tgCons (tgN 5) (tgCons (tgN 6) tgNil)) (.tuple [.str (tbl a), .tuple (tsl a)]) e1 := fun e1 => by rw [← ea]
  rcases h4 with rfl | rfl <;> simp at hf <;> simp [tg, L_u_law_maps_3, L_u_law_maps_3b, forR_ap, lockable, lock1, unlock1, hf]
end
end K61
end
section
set_option Elab.async false
set_option linter.all false
set_option maxRecDepth 100000
set_option maxHeartbeats 8000000
namespace K61
open PySem PySem.Spec PyProof.Rows L2 DV
theorem startM_inv {hs gh : List D} (ht : ∀ t ∈ hs, tm t = true ∧ Vd S t) (hg : ∀ t ∈ gh, tm t = true ∧ Vd S t) (hl : hs.length = gh.length) : FsI (keysA [] hs) (startM hs gh) := by
  unfold startM
  cases q : agr hs gh [] with
  | none => exact ⟨fun m hm => (by cases hm), fun m hm => (by cases hm)⟩
  | some m =>
    refine ⟨fun n hn => ?_, fun n hn => ?_⟩
    · rw [List.mem_singleton.mp hn]; exact agr_led ht hg LedI.nil q
    · rw [List.mem_singleton.mp hn]; exact agr_keys hl q
theorem startM_len (hs gh : List D) : (startM hs gh).length ≤ 1 := by
  unfold startM; split <;> simp
theorem maps_inv {g : List D} (hg : ∀ z ∈ g, At z) : ∀ {l l2 : List D} {K : List Str} {fs : List Led}, Ars g l2 → (∀ a ∈ l, a ∈ l2 ∧ At a) → FsI K fs → FsI (l.foldl (fun K a => keysA K (tsl a)) K) (l.foldl (stepM g) fs)
  | [], l2, K, fs, _, _, h => h
  | a :: l, l2, K, fs, ar, ha, h => by
    rw [List.foldl_cons, List.foldl_cons]
    have h0 := ha a (List.mem_cons_self ..)
    exact maps_inv hg ar (fun b hb => ha b (List.mem_cons_of_mem _ hb)) (stepM_inv ar hg h0.1 h0.2 h)
section
variable (ρ : List (Option Sl)) (μ : Mu)
theorem l_maps_k {q w : D} (hq : Qk q) {g gh : List D} (hw : w = .tuple g ∨ w = .list g) (hg : ∀ a ∈ g, At a) (hgl : g.length ≤ 6) (hgh : ∀ t ∈ gh, tm t = true ∧ Vd S t) (hl : (qhd q).length = gh.length) (ar : Ars g (qat q)) :
    cal F_u_law_maps [.fz q, .fz w, .fz (.tuple gh)] ⟨ρ, μ⟩ = some (.fr (.list ((mapsOf (qhd q) (qat q) g gh).map dct)), ⟨ρ, μ⟩) := by
  refine cal_fr ?_
  have ix1 := ix_hd hq
  have ix2 := ix_at hq
  have ht : ∀ t ∈ qhd q, tm t = true ∧ Vd S t := fun t h => ⟨hq.ht t h, hq.hv t h⟩
  have fi := fun ρ => fits_k ρ μ ht hgh LedI.nil (s := .fz (.dict (encV (fun d => d) []))) (.inl rfl)
  simp only [encV_nil] at fi
  have si := startM_inv ht hgh hl
  have sl := startM_len (qhd q) gh
  have n1 := hq.n1
  have hf := fun s3 => forL_fold (t := tgT 2 (tgCons (tgN 5) (tgCons (tgN 6) tgNil))) (b := L_u_law_maps_3) (fun a : D => a) (stepM g)
    (fun fs => ⟨[some (.fz q), some (.fz w), some (.fz (.tuple gh)), s3, some (.ow (.list (fs.map dct))), none, none, none, none, none, none, none], μ⟩)
    (fun fs rest => (∃ K, FsI K fs) ∧ (∀ a ∈ rest, a ∈ qat q) ∧ fs.length * g.length ^ rest.length ≤ 50000) (fun fs a rest hJ => by
      obtain ⟨⟨K, h1⟩, h2, h3⟩ := hJ
      have ha := h2 a (List.mem_cons_self ..)
      have hA := hq.a a ha
      rw [List.length_cons, Nat.pow_succ] at h3
      have hb : fs.length * g.length ≤ 50000 := by
        rcases Nat.eq_zero_or_pos g.length with h0 | h0
        · rw [h0]; omega
        · have : 1 ≤ g.length ^ rest.length := Nat.one_le_pow _ _ h0
          have h5 : fs.length * g.length * 1 ≤ fs.length * g.length * g.length ^ rest.length := Nat.mul_le_mul_left _ this
          have h6 : fs.length * g.length * g.length ^ rest.length = fs.length * (g.length ^ rest.length * g.length) := by rw [Nat.mul_assoc, Nat.mul_comm g.length]
          omega
      refine ⟨atom_turn μ hA h1 (.inr rfl) hw ha hg ar (by omega), ⟨_, stepM_inv ar hg ha hA h1⟩, fun y hy => h2 y (List.mem_cons_of_mem _ hy), ?_⟩
      have h7 := Nat.mul_le_mul_right (g.length ^ rest.length) (stepM_len (a := a) (g := g) fs)
      have h6 : fs.length * g.length * g.length ^ rest.length = fs.length * (g.length ^ rest.length * g.length) := by rw [Nat.mul_assoc, Nat.mul_comm g.length]
      omega) (qat q) (startM (qhd q) gh) ⟨⟨_, si⟩, fun a ha => ha, by
        have h1 : g.length ^ (qat q).length ≤ 6 ^ (qat q).length := Nat.pow_le_pow_left hgl _
        have h2 : 6 ^ (qat q).length ≤ 6 ^ 6 := Nat.pow_le_pow_right (by omega) n1
        have h3 : (startM (qhd q) gh).length * g.length ^ (qat q).length ≤ 1 * g.length ^ (qat q).length := Nat.mul_le_mul_right _ sl
        omega⟩
  have e : (qat q).foldl (stepM g) (startM (qhd q) gh) = mapsOf (qhd q) (qat q) g gh := rfl
  rw [e] at hf
  rw [List.map_id'] at hf
  generalize mapsOf (qhd q) (qat q) g gh = out at hf ⊢
  unfold startM at hf
  cases q1 : agr (qhd q) gh [] with
  | none =>
    rw [q1] at fi hf
    simp at hf
    rcases hw with rfl | rfl <;> simp [F_u_law_maps, B_u_law_maps, ix1, ix2, fi, optR, forR_none, hf]
  | some m =>
    rw [q1] at fi hf
    simp at hf
    have hf' := fun s3 => hf s3
    unfold dct at hf'
    rcases hw with rfl | rfl <;> (simp [F_u_law_maps, B_u_law_maps, ix1, ix2, fi, optR, forR_none, hf']; exact fun _ _ => rfl)
end
end K61
end
section
set_option Elab.async false
set_option linter.all false
set_option maxRecDepth 100000
set_option maxHeartbeats 8000000
namespace K61
open PySem PySem.Spec PyProof.Rows L2 DV
/-! ### there is a map: each name itself -/
def idn (ps : Led) : Prop := ∀ p ∈ ps, p.2 = .str p.1
theorem agr_id : ∀ (ts : List D) {ps : Led}, idn ps → ∃ m, agr ts ts ps = some m ∧ idn m
  | [], ps, h => ⟨ps, rfl, h⟩
  | t :: ts, ps, h => by
    unfold agr
    rw [List.zip_cons_cons, runO_cons]
    have : ∃ r, agS ps (t, t) = some r ∧ idn r := by
      unfold agS
      cases q : nmO t with
      | none => exact ⟨ps, by simp, h⟩
      | some x =>
        obtain ⟨rfl, _⟩ := nmO_some q
        simp only
        cases l : lk x ps with
        | some d =>
          have := h _ (lk_mem l)
          simp only at this
          subst this
          exact ⟨ps, by simp, h⟩
        | none =>
          refine ⟨_, rfl, fun p hp => ?_⟩
          rcases List.mem_append.mp hp with hp | hp
          · exact h p hp
          · rw [List.mem_singleton.mp hp]
    obtain ⟨r, e, hr⟩ := this
    rw [e]
    exact agr_id ts hr
theorem maps_id {g : List D} : ∀ {l : List D} {fs : List Led}, (∀ a ∈ l, a ∈ g) → (∃ m ∈ fs, idn m) → ∃ m ∈ l.foldl (stepM g) fs, idn m
  | [], fs, _, h => h
  | a :: l, fs, hl, ⟨m, hm, hi⟩ => by
    rw [List.foldl_cons]
    refine maps_id (fun b hb => hl b (List.mem_cons_of_mem _ hb)) ?_
    obtain ⟨r, e, hr⟩ := agr_id (tsl a) hi
    refine ⟨r, mem_stepM.mpr ⟨m, hm, a, hl a (List.mem_cons_self ..), ?_⟩, hr⟩
    unfold goOn
    rw [if_pos rfl]; exact e
theorem maps_ne {hs l g : List D} (hl : ∀ a ∈ l, a ∈ g) : mapsOf hs l g hs ≠ [] := by
  obtain ⟨m, e, hm⟩ := agr_id hs (ps := []) fun p hp => (by cases hp)
  obtain ⟨r, hr, _⟩ := maps_id (g := g) (l := l) (fs := startM hs hs) hl ⟨m, by unfold startM; rw [e]; exact List.mem_singleton.mpr rfl, hm⟩
  intro h
  unfold mapsOf at h
  rw [h] at hr; cases hr
theorem keysA_mem : ∀ (ts : List D) {K : List Str} {x : Str}, (x ∈ K ∨ x ∈ nms ts) → x ∈ keysA K ts
  | [], K, x, h => by
    rcases h with h | h
    · exact h
    · cases h
  | t :: ts, K, x, h => by
    show x ∈ keysA (addK K t) ts
    refine keysA_mem ts ?_
    unfold addK
    cases q : nmO t with
    | none =>
      have e : nms (t :: ts) = nms ts := by simp [nms, List.filterMap_cons, q]
      rw [e] at h; exact h
    | some y =>
      have e : nms (t :: ts) = y :: nms ts := by simp [nms, List.filterMap_cons, q]
      rw [e] at h
      simp only
      split
      · rename_i c
        rcases h with h | h
        · exact .inl h
        · rcases List.mem_cons.mp h with rfl | h
          · exact .inl c
          · exact .inr h
      · rcases h with h | h
        · exact .inl (List.mem_append_left _ h)
        · rcases List.mem_cons.mp h with rfl | h
          · exact .inl (by simp)
          · exact .inr h
theorem keysL_mem : ∀ (l : List D) {K : List Str} {x : Str}, (x ∈ K ∨ x ∈ namesA l) → x ∈ l.foldl (fun K a => keysA K (tsl a)) K
  | [], K, x, h => by
    rcases h with h | h
    · exact h
    · cases h
  | a :: l, K, x, h => by
    rw [List.foldl_cons]
    refine keysL_mem l ?_
    rcases h with h | h
    · exact .inl (keysA_mem _ (.inl h))
    · rcases List.mem_append.mp (show x ∈ nms (tsl a) ++ namesA l from by simpa [namesA] using h) with h | h
      · exact .inl (keysA_mem _ (.inr h))
      · exact .inr h
/-- a told map -/
structure Mp (v : D) : Prop where
  e : ∃ ps, v = .tuple ps ∧ ps.length ≤ 12 ∧ ∀ p ∈ ps, ∃ x t, p = .tuple [.str x, t] ∧ x ∈ S ∧ tm t = true ∧ Vd S t
def tupM (xs : List Str) (ps : Led) : List D := xs.map fun x => .tuple [.str x, (lk x ps).getD .none]
theorem tup_mp {xs : List Str} {ps : Led} (h : LedI ps) (hn : xs.length ≤ 12) (hx : ∀ x ∈ xs, (lk x ps).isSome = true) : Mp (.tuple (tupM xs ps)) := by
  refine ⟨_, rfl, by unfold tupM; simpa using hn, fun p hp => ?_⟩
  obtain ⟨x, hx', rfl⟩ := List.mem_map.mp hp
  obtain ⟨d, hd⟩ := Option.isSome_iff_exists.mp (hx x hx')
  refine ⟨x, d, by rw [hd]; rfl, (h.s _ (lk_mem hd)).1, h.lk hd⟩
theorem names_len {q : D} (hq : Qk q) : (sset (namesA (qat q))).length ≤ 12 := by
  have := List.Nodup.length_le_of_subset (up_nodup (up_sset (namesA (qat q)))) (l₂ := S) fun x hx => ns_S hq x hx
  simpa [S] using this
theorem fold_mp {q : D} (hq : Qk q) {r : Led} (e : foldOf (qhd q) (qat q) = some r) : Mp (.tuple (tmap r)) := by
  have h := foldOf_led hq e
  have hn : (sset (r.map Prod.fst)).length ≤ 12 := by
    have := List.Nodup.length_le_of_subset (up_nodup (up_sset (r.map Prod.fst))) (l₂ := S) fun x hx => by
      obtain ⟨p, hp, rfl⟩ := List.mem_map.mp ((mem_sset x _).mp hx)
      exact (h.s p hp).1
    simpa [S] using this
  exact tup_mp h hn fun x hx => lk_isSome ((mem_sset x _).mp hx)
section
variable (ρ : List (Option Sl)) (μ : Mu)
theorem l_told_map_k {q : D} (hq : Qk q) {ps : Led} (hk : ∀ x ∈ namesA (qat q), (lk x ps).isSome = true) : cal F_u_law_told_map [.fz q, .fz (dct ps)] ⟨ρ, μ⟩ = some (.fz (.tuple (tupM (sset (namesA (qat q))) ps)), ⟨ρ, μ⟩) := by
  refine cal_fz ?_
  have ln := fun ρ => l_names_k ρ μ hq
  have l1 : lcR [2] (tgN 2) (DV.ret true) C_u_law_told_map_1 ((sset (namesA (qat q))).map .str, none) ⟨[some (.fz q), some (.fz (dct ps)), none], μ⟩ = some (.fr (.list (((sset (namesA (qat q))).map PyData.str).map fun d => .tuple [d, match d with | .str x => (lk x ps).getD .none | _ => .none])), ⟨[some (.fz q), some (.fz (dct ps)), none], μ⟩) := by
    refine lcR_map _ rfl rfl fun d hd => ?_
    obtain ⟨x, hx, rfl⟩ := List.mem_map.mp hd
    obtain ⟨y, hy⟩ := Option.isSome_iff_exists.mp (hk x ((mem_sset x _).mp hx))
    have ix := ix_dict (fun d : D => d) hy
    have ix' : ixG (dct ps) (.str x) = some (.fz y) := ix
    simp [wipeR, lock1, C_u_law_told_map_1, ix', hy]
  rw [List.map_map] at l1
  have e : tupM (sset (namesA (qat q))) ps = (sset (namesA (qat q))).map ((fun d => .tuple [d, match d with | .str x => (lk x ps).getD .none | _ => .none]) ∘ PyData.str) := rfl
  rw [← e] at l1
  simp [F_u_law_told_map, B_u_law_told_map, ln, l1]
end
theorem maps_has {q : D} (hq : Qk q) {g gh : List D} (hg : ∀ a ∈ g, At a) (hgh : ∀ t ∈ gh, tm t = true ∧ Vd S t) (hl : (qhd q).length = gh.length) (ar : Ars g (qat q)) : ∀ m ∈ mapsOf (qhd q) (qat q) g gh, LedI m ∧ ∀ x ∈ namesA (qat q), (lk x m).isSome = true := fun m hm => by
  have ht : ∀ t ∈ qhd q, tm t = true ∧ Vd S t := fun t h => ⟨hq.ht t h, hq.hv t h⟩
  have F := maps_inv (l := qat q) hg ar (fun a ha => ⟨ha, hq.a a ha⟩) (startM_inv ht hgh hl)
  refine ⟨F.l m hm, fun x hx => lk_isSome ?_⟩
  rw [F.k m hm]
  exact keysL_mem _ (.inr hx)
end K61
end
section
set_option Elab.async false
set_option linter.all false
set_option maxRecDepth 100000
set_option maxHeartbeats 8000000
namespace K61
open PySem PySem.Spec PyProof.Rows L2 DV
/-! ### bent values -/
theorem vd_t2 {a b : D} (h : Vd S a) (k : Vd S b) : Vd S (.tuple [a, b]) := .tup fun d hd => by
  simp only [List.mem_cons, List.not_mem_nil, or_false] at hd
  rcases hd with rfl | rfl
  · exact h
  · exact k
theorem vd_l2 {a b : D} (h : Vd S a) (k : Vd S b) : Vd S (.list [a, b]) := .lst fun d hd => by
  simp only [List.mem_cons, List.not_mem_nil, or_false] at hd
  rcases hd with rfl | rfl
  · exact h
  · exact k
theorem dep_t2 {a b : D} {k : Nat} (h : a.depth ≤ k) (g : b.depth ≤ k) : (PyData.tuple [a, b]).depth ≤ k + 1 := dep_tup.mpr fun d hd => by
  simp only [List.mem_cons, List.not_mem_nil, or_false] at hd
  rcases hd with rfl | rfl
  · exact h
  · exact g
theorem dep_l2 {a b : D} {k : Nat} (h : a.depth ≤ k) (g : b.depth ≤ k) : (PyData.list [a, b]).depth ≤ k + 1 := dep_lst.mpr fun d hd => by
  simp only [List.mem_cons, List.not_mem_nil, or_false] at hd
  rcases hd with rfl | rfl
  · exact h
  · exact g
def Rw (p : D) : Prop := Vd S p ∧ p.depth ≤ 5
theorem uv_tup {ds : List D} (h : ∀ d ∈ ds, Rw d) : Uv (.tuple ds) := .inl ⟨.tup fun d hd => (h d hd).1, Nat.le_trans (dep_tup.mpr fun d hd => (h d hd).2) (by omega)⟩
theorem uv_lst {ds : List D} (h : ∀ d ∈ ds, Rw d) : Uv (.list ds) := .inl ⟨.lst fun d hd => (h d hd).1, Nat.le_trans (dep_lst.mpr fun d hd => (h d hd).2) (by omega)⟩
theorem row_rw {p : D} (h : ∃ x t, p = .tuple [.str x, t] ∧ x ∈ S ∧ tm t = true ∧ Vd S t) : Rw p := by
  obtain ⟨x, t, rfl, hx, ht, hv⟩ := h
  exact ⟨vd_t2 (.str hx) hv, Nat.le_trans (dep_t2 (k := 0) (Nat.zero_le _) (Nat.le_of_eq (tm_dep ht))) (by omega)⟩
theorem depKv_zero : ∀ {m : List (Str × D)}, (∀ p ∈ m, p.2.depth = 0) → PyData.depthKv (encV (fun d => d) m) = 0
  | [], _ => by simp [PyData.depthKv]
  | p :: m, h => by
    have ih := depKv_zero (m := m) fun q hq => h q (List.mem_cons_of_mem _ hq)
    have h0 := h p (List.mem_cons_self ..)
    show PyData.depthKv ((.str p.1, p.2) :: encV (fun d => d) m) = 0
    simp only [PyData.depthKv, PyData.depth, h0, ih]
    rfl
theorem uv_dct {m : List (Str × D)} (h : ∀ p ∈ m, p.2.depth = 0) : Uv (.dict (encV (fun d => d) m)) := by
  refine .inr ⟨_, rfl, smpK_enc _ _, ?_⟩
  have := depKv_zero h
  simp only [PyData.depth]
  omega
theorem dictP_mem : ∀ (ps acc : List (Str × D)), ∀ p ∈ ps.foldl (fun a p => upS p.1 p.2 a) acc, p.2 ∈ acc.map Prod.snd ∨ p.2 ∈ ps.map Prod.snd
  | [], acc, p, h => .inl (List.mem_map.mpr ⟨p, h, rfl⟩)
  | q :: ps, acc, p, h => by
    rw [List.foldl_cons] at h
    rcases dictP_mem ps _ p h with h2 | h2
    · obtain ⟨r, hr, e⟩ := List.mem_map.mp h2
      unfold upS at hr
      split at hr
      · obtain ⟨r0, hr0, e0⟩ := List.mem_map.mp hr
        split at e0
        · subst e0
          simp only at e
          exact .inr (by rw [← e]; simp)
        · subst e0
          exact .inl (List.mem_map.mpr ⟨_, hr0, e⟩)
      · rcases List.mem_append.mp hr with hr | hr
        · exact .inl (List.mem_map.mpr ⟨_, hr, e⟩)
        · rw [List.mem_singleton.mp hr] at e
          simp only at e
          exact .inr (by rw [← e]; simp)
    · exact .inr (List.mem_cons_of_mem _ h2)
def ones : List D := [.str "x", .str "y", .str "z", .str "u", .int 1, .int 2, .str "Red", .str "Blue", .none, .bool true, .str "aB", .str ""]
theorem ones_rw : ∀ d ∈ ones, Vd S d ∧ d.depth = 0 := by
  intro d hd
  simp only [ones, List.mem_cons, List.not_mem_nil, or_false] at hd
  rcases hd with rfl | rfl | rfl | rfl | rfl | rfl | rfl | rfl | rfl | rfl | rfl | rfl
  all_goals first
    | exact ⟨.str (by decide +kernel), rfl⟩
    | exact ⟨.int (by omega) (by omega), rfl⟩
    | exact ⟨.none, rfl⟩
    | exact ⟨.bool _, rfl⟩
theorem uv_leaf {d : D} (h : Vd S d) (k : d.depth = 0) : Uv d := .inl ⟨h, by omega⟩
def BOk (vs : List D) : Prop := (∀ v ∈ vs, Uv v) ∧ vs.length ≤ 100
theorem sl_from1 (xs : List D) (n : Nat) : slG2 (.tuple xs) (some ((n : Int) + 1)) none = some (.fz (.tuple (xs.drop (n + 1)))) := sl_from xs (n + 1)
theorem ix_tup_at {ds : List D} {i : Int} (h0 : 0 ≤ i) (h1 : i < ds.length) : ∃ n : Nat, i = n ∧ ∃ d ∈ ds, ixG (.tuple ds) (.int i) = some (.fz d) := by
  obtain ⟨n, rfl⟩ := Int.eq_ofNat_of_zero_le h0
  have hl : n < ds.length := by omega
  exact ⟨n, rfl, ds[n], List.getElem_mem hl, ix_nat ds n (List.getElem?_eq_getElem hl)⟩
theorem prs_rows {ps : List D} (h : ∀ p ∈ ps, ∃ x t, p = .tuple [.str x, t] ∧ x ∈ S ∧ tm t = true ∧ Vd S t) : ps = encP (fun d => d) (prs ps) := by
  induction ps with
  | nil => rfl
  | cons p ps ih =>
    obtain ⟨x, t, rfl, _⟩ := h p (List.mem_cons_self ..)
    have := ih fun q hq => h q (List.mem_cons_of_mem _ hq)
    show _ :: ps = PyData.tuple [.str x, t] :: encP (fun d => d) (prs ps)
    rw [← this]
theorem bent_ok {μ : Mu} (ok : Ok μ) {v : D} (hv : Mp v) : Sp (F_u_law_bent [.pt 0, .fz v] μ) (fun r μ' => ∃ d, r = .fr d ∧ (∃ vs, d = .list vs ∧ BOk vs) ∧ Ok μ') := by
  obtain ⟨ps, rfl, hl, hr⟩ := hv.e
  have hrw : ∀ p ∈ ps, Rw p := fun p hp => row_rw (hr p hp)
  have s1 : slG2 (.tuple ps) (some (1 : Int)) none = some (.fz (.tuple (ps.drop 1))) := sl_from ps 1
  have s2 : slG2 (.tuple ps) none (some (1 : Int)) = some (.fz (.tuple (ps.take 1))) := sl_to ps 1
  have a1 := add_tup ps (ps.take 1) (by simp; omega)
  have hd := dict_tup (fun d : D => d) (prs ps)
  rw [← prs_rows hr] at hd
  have shp : SeqAt.shaped (.tuple ps) = true := shp_tup (k := 5) (by omega) hrw
  have ne := ne_sh shp (show SeqAt.shaped (.tuple []) = true by decide +kernel)
  have evn : PyData.eqv (.tuple ps) (.tuple []) = ps.isEmpty := by cases ps <;> simp [PyData.eqv, PyData.eqvAll]
  rw [evn] at ne
  have dp0 : ∀ p ∈ dictP (prs ps), p.2.depth = 0 := fun p hp => by
    rcases dictP_mem (prs ps) [] p hp with h | h
    · cases h
    · obtain ⟨q, hq, e⟩ := List.mem_map.mp h
      obtain ⟨p2, hp2, e2⟩ := List.mem_map.mp hq
      obtain ⟨x, t, rfl, _, ht, _⟩ := hr p2 hp2
      subst e2
      rw [← e]
      exact tm_dep ht
  obtain ⟨base, eb⟩ : ∃ base, base = [PyData.none, .int 0, .tuple [], .dict [], .list ps, .tuple (ps.drop 1), .tuple (ps ++ ps.take 1), .tuple ps.reverse, .dict (encV (fun d => d) (dictP (prs ps)))] := ⟨_, rfl⟩
  have hb : ∀ d ∈ base, Uv d := fun d h => by
    rw [eb] at h
    simp only [List.mem_cons, List.not_mem_nil, or_false] at h
    rcases h with rfl | rfl | rfl | rfl | rfl | rfl | rfl | rfl | rfl
    · exact uv_leaf .none rfl
    · exact uv_leaf (.int (by omega) (by omega)) rfl
    · exact uv_tup fun d h => (by cases h)
    · exact uv_dct (m := []) fun p h => (by cases h)
    · exact uv_lst hrw
    · exact uv_tup fun d h => hrw d (List.mem_of_mem_drop h)
    · exact uv_tup fun d h => by
        rcases List.mem_append.mp h with h | h
        · exact hrw d h
        · exact hrw d (List.mem_of_mem_take h)
    · exact uv_tup fun d h => hrw d (List.mem_reverse.mp h)
    · exact uv_dct dp0
  have bl : base.length = 9 := by rw [eb]; rfl
  refine Sp_fn rfl rfl ?_
  simp [-bnd_ap, -seqM_ap, B_u_law_bent, s1, s2, a1, hd]
  have eb' : [PyData.none, .int 0, .tuple [], .dict [], .list ps, .tuple ps.tail, .tuple (ps ++ ps.take 1), .tuple ps.reverse, .dict (encV (fun d => d) (dictP (prs ps)))] = base := by rw [eb]; simp
  rw [eb']
  cases c : ps.isEmpty
  · rw [c] at ne
    have pl : 0 < ps.length := by cases ps with
      | nil => cases c
      | cons => simp
    simp [-bnd_ap, -seqM_ap, ne]
    refine draw_w ok (by omega) (by omega) fun r μ1 ok1 r0 r1 => ?_
    obtain ⟨n, rfl, p, hp, ix⟩ := ix_tup_at r0 r1
    obtain ⟨x, t, rfl, hx, ht, hvt⟩ := hr p hp
    have st := sl_to ps n
    have sf := sl_from1 ps n
    have aL := add_lst (ones.map fun d => .tuple [.str x, d]) [.tuple [.str x], .list [.str x, t], .tuple [t, .str x]] (by simp [ones])
    obtain ⟨rows, er⟩ : ∃ rows, rows = (ones.map fun d => PyData.tuple [.str x, d]) ++ [.tuple [.str x], .list [.str x, t], .tuple [t, .str x]] := ⟨_, rfl⟩
    have hrows : ∀ d ∈ rows, Rw d := fun d h => by
      rw [er] at h
      rcases List.mem_append.mp h with h | h
      · obtain ⟨o, ho, rfl⟩ := List.mem_map.mp h
        have := ones_rw o ho
        exact ⟨vd_t2 (.str hx) this.1, Nat.le_trans (dep_t2 (k := 0) (Nat.zero_le _) (by omega)) (by omega)⟩
      · simp only [List.mem_cons, List.not_mem_nil, or_false] at h
        rcases h with rfl | rfl | rfl
        · exact ⟨.tup fun d hd => by rw [List.mem_singleton.mp hd]; exact .str hx, Nat.le_trans ((dep_tup (k := 0)).mpr fun d hd => by rw [List.mem_singleton.mp hd]; exact Nat.zero_le _) (by omega)⟩
        · exact ⟨vd_l2 (.str hx) hvt, Nat.le_trans (dep_l2 (k := 0) (Nat.zero_le _) (Nat.le_of_eq (tm_dep ht))) (by omega)⟩
        · exact ⟨vd_t2 hvt (.str hx), Nat.le_trans (dep_t2 (k := 0) (Nat.le_of_eq (tm_dep ht)) (Nat.zero_le _)) (by omega)⟩
    have rl : rows.length = 15 := by rw [er]; simp [ones]
    rw [← er] at aL
    have l1 : ∀ ρ0 ρ1 ρ2 ρ3 ρ6, lcR [7] (tgN 7) (DV.ret true) C_u_law_bent_1 (ones, none) ⟨[ρ0, ρ1, ρ2, ρ3, some (.fz (.str x)), some (.fz t), ρ6, none, none], μ1⟩ = some (.fr (.list (ones.map fun d => .tuple [.str x, d])), ⟨[ρ0, ρ1, ρ2, ρ3, some (.fz (.str x)), some (.fz t), ρ6, none, none], μ1⟩) := fun ρ0 ρ1 ρ2 ρ3 ρ6 =>
      lcR_map _ rfl rfl fun d hd => by simp [wipeR, lock1, C_u_law_bent_1]
    have l2 : lcR [8] (tgN 8) (DV.ret true) C_u_law_bent_2 (rows, some 6) ⟨[some (.pt 0), some (.fz (.tuple ps)), some (.ow (.list base)), some (.fz (.int n)), some (.fz (.str x)), some (.fz t), some (.ow (.list rows)), none, none], μ1⟩ =
        some (.fr (.list (rows.map fun d => .tuple (ps.take n ++ [d] ++ ps.drop (n + 1)))), ⟨[some (.pt 0), some (.fz (.tuple ps)), some (.ow (.list base)), some (.fz (.int n)), some (.fz (.str x)), some (.fz t), some (.ow (.list rows)), none, none], μ1⟩) :=
      lcR_map _ rfl rfl fun d hd => by
        have b1 := add_tup (ps.take n) [d] (by simp; omega)
        have b2 := add_tup (ps.take n ++ [d]) (ps.drop (n + 1)) (by simp; omega)
        simp [wipeR, lock1, C_u_law_bent_2, st, sf, b1, b2, -List.append_assoc]
    have ones' : ones = [.str "x", .str "y", .str "z", .str "u", .int 1, .int 2, .str "Red", .str "Blue", .none, .bool true, .str "aB", .str ""] := rfl
    simp [-bnd_ap, -seqM_ap, ix]
    rw [← ones']
    have hsz : base.length + rows.length ≤ 100000 := by omega
    simp [-bnd_ap, -seqM_ap, l1, aL, l2, hsz, tk_ok ok ok1]
    refine ⟨⟨fun d h => ?_, by simp; omega⟩, ok1⟩
    rcases List.mem_append.mp h with h | h
    · exact hb d h
    · obtain ⟨o, ho, rfl⟩ := List.mem_map.mp h
      refine uv_tup fun e he => ?_
      simp only [List.mem_append, List.mem_cons] at he
      rcases he with he | rfl | he
      · exact hrw e (List.mem_of_mem_take he)
      · exact hrows _ ho
      · exact hrw e (List.mem_of_mem_drop he)
  · rw [c] at ne
    simp [-bnd_ap, -seqM_ap, ne, tk_ok ok ok]
    exact ⟨⟨hb, by omega⟩, ok⟩
end K61
end
section
set_option Elab.async false
set_option linter.all false
set_option maxRecDepth 100000
set_option maxHeartbeats 16000000
namespace K61
open PySem PySem.Spec PyProof.Rows L2 DV
theorem pot_ok (ns : List Int) : ∃ x y : Int, F_u_law_pot [.fz (.list (ns.map .int)), .fz (.int 0)] [] = some (.fr (.list [.int x, .int y]), []) := by
  have m0 : mulG (.int 13309) (.int 0) = some (.fz (.int 0)) := rfl
  have m1 : mulG (.int 13217) (.int 0) = some (.fz (.int 0)) := rfl
  have mx : ∀ i j : Int, maxG (.int i) (.int j) = some (.fz (.int (if j > i then j else i))) := fun _ _ => rfl
  have md1 : ∀ i : Int, intG modF (.int i) (.int 2147483549) = some (.fz (.int (i % 2147483549))) := fun i => DV.mod_int i _ (by decide)
  have md2 : ∀ i : Int, intG modF (.int i) (.int 2147483563) = some (.fz (.int (i % 2147483563))) := fun i => DV.mod_int i _ (by decide)
  have ml : ∀ i : Int, mulG (.int i) (.int 12809) = some (.fz (.int (i * 12809))) := fun i => DV.mul_r i _ (by decide)
  cases ns with
  | nil =>
    simp [F_u_law_pot, B_u_law_pot, m0, m1, mx, md1, md2, ml]
  | cons n ns =>
    have pos : (0 : Int) < (ns.length : Int) + 1 := by omega
    have ix : ixG (.list (.int n :: ns.map .int)) (.int 0) = some (.fz (.int n)) := ixl_nat _ 0 rfl
    simp [F_u_law_pot, B_u_law_pot, pos, ix, m0, m1, mx, md1, md2, ml]
theorem forL_same {t : D → M Unit} {b : M Fl} {e : En} : ∀ (ds : List D), (∀ d ∈ ds, bnd (t d) (fun _ => b) e = some (.nx, e)) → forL t b ds e = some (.nx, e)
  | [], _ => rfl
  | d :: ds, h => by
    rw [forL_next (h d (List.mem_cons_self ..))]
    exact forL_same ds fun x hx => h x (List.mem_cons_of_mem _ hx)
theorem repr_two (b : Bool) : ∃ X, reprA (.list [.bool b, .bool b]) = some (.fz (.str X)) ∧ neG (.str X) (.str X) = some (.fz (.bool false)) := by
  have w : Wr (.list [.bool b, .bool b]) := wr_bools [b, b]
  exact ⟨_, repr_wr w (by simp [PyData.depth, PyData.depthAll]) (by simp [PyData.weight, PyData.weightAll]), ne_self w.t⟩
theorem value_turn {μ : Mu} {q v : D} (hq : Qk q) (hv : Uv v) (r0 r2 r4 r5 r8 : Option Sl) : bnd (tgN 6 v) (fun _ => L_law_1) ⟨[r0, some (.pt 0), r2, some (.fz q), r4, r5, none, none, r8], μ⟩ = some (.nx, ⟨[r0, some (.pt 0), r2, some (.fz q), r4, r5, none, none, r8], μ⟩) := by
  have zq := q_sh hq
  have l1 := fun ρ => l_is_fold_k ρ μ hq hv
  have l2 := fun ρ => is_fold_k ρ μ hq zq.v (by have := zq.k; omega) hv
  rw [folds_alike hq hv] at l2
  generalize (lawOk (qat q) v && lead2 q v && movB q v) = b at *
  obtain ⟨Y, y1, y2⟩ := repr_two b
  simp [L_law_1, L_law_1b, l1, l2, pick, y1, y2]
def lawI (s : D) (rest : List D) (e : En) : Prop := ∃ μ', e = ⟨[some (.fz s), some (.pt 0), none, none, none, none, none, none, none], μ'⟩ ∧ Ok μ'
theorem mp_uv {v : D} (h : Mp v) : Uv v := by
  obtain ⟨ps, rfl, _, hr⟩ := h.e
  exact uv_tup fun p hp => row_rw (hr p hp)
theorem law_turn {μ : Mu} (ok : Ok μ) {s d : D} {rest : List D} {Q : Fl → En → Prop} : Wp (bnd (tgN 2 d) (fun _ => L_law_2) ⟨[some (.fz s), some (.pt 0), none, none, none, none, none, none, none], μ⟩) (turn (lawI s rest) Q) := by
  simp [-bnd_ap, -seqM_ap, L_law_2, L_law_2b, Wp_kilM, -kilM_ap]
  refine draw_w ok (n := 3) (by decide) (by decide) fun long μ1 ok1 r0 r1 => ?_
  simp [-bnd_ap, -seqM_ap]
  refine (question_ok ok1 (most := 4) (by decide) (by decide) (long := long) r0 (by omega)).fz fun q μ2 ⟨hQ, ok2⟩ => ?_
  have hq := hQ.ok
  have zq := q_sh hq
  have ix1 := ix_hd hq
  have ix2 := ix_at hq
  have fk := fun ρ => fold_k ρ μ2 hq zq.v (by have := zq.k; omega)
  have ul := fun ρ => l_unlike_k ρ μ2 (w := .tuple (qat q)) (.inl rfl) hq.a (by have := hq.n1; omega)
  have ht : ∀ t ∈ qhd q, tm t = true ∧ Vd S t := fun t h => ⟨hq.ht t h, hq.hv t h⟩
  have hu : ∀ a ∈ uq (qat q), At a := fun a ha => hq.a a (mem_uq.mp ha)
  have hul := uq_len (qat q)
  have ar : Ars (uq (qat q)) (qat q) := fun z hz a ha e => by
    have h1 := (hQ.ar z (mem_uq.mp hz)).r
    have h2 := (hQ.ar a ha).r
    have dif : ("R" : Str) ≠ "S" ∧ ("R" : Str) ≠ "T" ∧ ("S" : Str) ≠ "T" := by decide +kernel
    rcases h1 with ⟨e1, l1⟩ | ⟨e1, l1⟩ | ⟨e1, l1⟩ <;> rcases h2 with ⟨e2, l2⟩ | ⟨e2, l2⟩ | ⟨e2, l2⟩ <;> rw [e1, e2] at e <;> first
      | exact absurd e dif.1
      | exact absurd e dif.2.1
      | exact absurd e dif.2.2
      | exact absurd e.symm dif.1
      | exact absurd e.symm dif.2.1
      | exact absurd e.symm dif.2.2
      | rw [l1, l2]
  have mk := fun ρ => l_maps_k ρ μ2 hq (w := .list (uq (qat q))) (.inr rfl) hu (by have := hq.n1; omega) ht rfl ar
  have mh := maps_has hq hu ht rfl ar
  have mn := maps_ne (hs := qhd q) (l := qat q) (g := uq (qat q)) fun a ha => mem_uq.mpr ha
  generalize mapsOf (qhd q) (qat q) (uq (qat q)) (qhd q) = fs at mk mh mn
  have l1 : ∀ t, lcR [8] (tgN 8) (DV.ret true) C_law_1 (fs.map dct, none) ⟨[some (.fz s), some (.pt 0), some (.fz d), some (.fz q), t, none, none, none, none], μ2⟩ = some (.fr (.list ((fs.map dct).map fun m => match m with | .dict kvs => .tuple ((sset (namesA (qat q))).map fun x => .tuple [.str x, (getK (.inr x) kvs).getD .none]) | _ => .none)), ⟨[some (.fz s), some (.pt 0), some (.fz d), some (.fz q), t, none, none, none, none], μ2⟩) := fun t => by
    refine lcR_map _ rfl rfl fun m hm => ?_
    obtain ⟨ps, hp, rfl⟩ := List.mem_map.mp hm
    have tk := fun ρ => l_told_map_k ρ μ2 hq (mh ps hp).2
    have e : (sset (namesA (qat q))).map (fun x => PyData.tuple [.str x, (getK (.inr x) (encV (fun d => d) ps)).getD .none]) = tupM (sset (namesA (qat q))) ps := by
      unfold tupM
      refine List.map_congr_left fun x _ => ?_
      rw [getK_encV]
      cases lk x ps <;> rfl
    unfold dct at tk ⊢
    simp [wipeR, lock1, C_law_1, tk, e]
  obtain ⟨ts, ets⟩ : ∃ ts, ts = (fs.map dct).map fun m => match m with | .dict kvs => PyData.tuple ((sset (namesA (qat q))).map fun x => .tuple [.str x, (getK (.inr x) kvs).getD .none]) | _ => .none := ⟨_, rfl⟩
  have hts : ∀ v ∈ ts, Mp v := fun v hv => by
    rw [ets] at hv
    obtain ⟨m, hm, rfl⟩ := List.mem_map.mp hv
    obtain ⟨ps, hp, rfl⟩ := List.mem_map.mp hm
    have := tup_mp (xs := sset (namesA (qat q))) (mh ps hp).1 (names_len hq) fun x hx => (mh ps hp).2 x ((mem_sset x _).mp hx)
    have e : (sset (namesA (qat q))).map (fun x => PyData.tuple [.str x, (getK (.inr x) (encV (fun d => d) ps)).getD .none]) = tupM (sset (namesA (qat q))) ps := by
      unfold tupM
      refine List.map_congr_left fun x _ => ?_
      rw [getK_encV]
      cases lk x ps <;> rfl
    show Mp (.tuple ((sset (namesA (qat q))).map fun x => .tuple [.str x, (getK (.inr x) (encV (fun d => d) ps)).getD .none]))
    rw [e]; exact this
  have ht0 : 0 < ts.length := by
    rw [ets]
    cases fs with
    | nil => exact absurd rfl mn
    | cons => simp
  rw [← ets] at l1
  have s6 : slG2 (.list ts) none (some (6 : Int)) = some (.fr (.list (ts.take 6))) := sll_to ts 6
  simp [-bnd_ap, -seqM_ap, fk, ix1, ix2, ul, mk, l1, s6]
  obtain ⟨own, eo, ho, o0, o1⟩ : ∃ own, addG (.list (ts.take 6)) (.list (match foldOf (qhd q) (qat q) with | some r => [.tuple (tmap r)] | none => [])) = some (.fr (.list own)) ∧ (∀ v ∈ own, Mp v) ∧ 0 < own.length ∧ own.length ≤ 7 := by
    refine ⟨_, add_lst _ _ ?_, ?_, ?_, ?_⟩
    · have : (ts.take 6).length ≤ 6 := by simp; omega
      split <;> simp <;> omega
    · intro v hv
      rcases List.mem_append.mp hv with hv | hv
      · exact hts v (List.mem_of_mem_take hv)
      · split at hv
        · rename_i r e
          rw [List.mem_singleton.mp hv]; exact fold_mp hq e
        · cases hv
    · rw [List.length_append]
      have : 0 < (ts.take 6).length := by simp; omega
      omega
    · rw [List.length_append]
      have : (ts.take 6).length ≤ 6 := by simp; omega
      split <;> simp at * <;> omega
  have fin : ∀ (tl : D), Wp (bnd (forS (seqS (op2 addG (slM 5) (callM F_u_law_bent (consM (slM 1) (consM (callM F_u_law_pick (consM (slM 1) (consM (slM 5) (DV.ret [])))) (DV.ret [])))))) (tgN 6) L_law_1) (fun fl => DV.ret fl) ⟨[some (.fz s), some (.pt 0), some (.fz d), some (.fz q), some (.fz tl), some (.ow (.list own)), none, none, none], μ2⟩) (kfl [2, 3, 4, 5, 6, 7] (turn (lawI s rest) Q)) := fun tl => by
    simp [-bnd_ap, -seqM_ap]
    refine pick_w ok2 (xs := own) (.inr rfl) o0 (by omega) fun v μ3 ok3 hv => ?_
    simp [-bnd_ap, -seqM_ap]
    refine (bent_ok ok3 (ho v hv)).fr fun b μ4 ⟨⟨vs, eb, hb⟩, ok4⟩ => ?_
    subst eb
    have ad := add_lst own vs (by have := hb.2; omega)
    have hall : ∀ v ∈ own ++ vs, Uv v := fun v hv => by
      rcases List.mem_append.mp hv with hv | hv
      · exact mp_uv (ho v hv)
      · exact hb.1 v hv
    simp [-bnd_ap, -seqM_ap, ad, forR_none]
    refine Wp_eq (forL_same (own ++ vs) fun v hv => value_turn hq (hall v hv) _ _ _ _ _) ?_
    simp [-bnd_ap, -seqM_ap]
    exact ⟨_, rfl, ok4⟩
  cases c : foldOf (qhd q) (qat q) with
  | none =>
    rw [c] at eo
    have := fin .none
    simp [-bnd_ap, -seqM_ap] at this
    simp [-bnd_ap, -seqM_ap, foldR, eo]
    exact this
  | some r =>
    rw [c] at eo
    have := fin (.tuple (tmap r))
    simp [-bnd_ap, -seqM_ap] at this
    simp [-bnd_ap, -seqM_ap, foldR, eo]
    exact this
theorem pure_law (ns : List Int) : F_law [.fz (.list (ns.map .int))] [] = some (.fz (.bool true), []) := by
  obtain ⟨x, y, e⟩ := pot_ok ns
  have e0 : ∀ ρ, cal F_u_law_pot [.fz (.list (ns.map .int)), .fz (.int 0)] ⟨ρ, []⟩ = some (.fr (.list [.int x, .int y]), ⟨ρ, []⟩) := fun ρ => cal_fr e
  generalize PyData.list (ns.map PyData.int) = s at *
  refine Sp.eq (Sp_fn rfl rfl ?_)
  simp [-bnd_ap, -seqM_ap, B_law, e0]
  refine Wp_rng1 ?_
  simp [-bnd_ap, -seqM_ap, forR_none]
  refine Wp_forL (lawI s) _ _ ⟨[(x, y)], rfl, x, y, rfl⟩ ?_ ?_
  · rintro d rest e ⟨μ', rfl, ok'⟩
    exact law_turn ok'
  · rintro e ⟨μ', rfl, ok'⟩
    simp [-bnd_ap, -seqM_ap]
end K61
end
section
set_option Elab.async false
set_option linter.all false
set_option maxRecDepth 100000
set_option maxHeartbeats 0
namespace K61
open PySem PySem.Spec PyProof.Rows L2 DV
abbrev R : PySem.W.OpenRow := PySem.W.OpenLaw.row PySem.Challenge.rw_markedrows_k61_any_value_as_fold
abbrev hk : PySem.W.Hook := He.hookD 4 fas fns
def ob (s : PySem.W.SharedT) : He.AlD := He.obsDG 4 fas fns (HandSHeadRun.getT s)
theorem ob_eq (s : PySem.W.SharedT) : ob s = hk.obs s.abs := He.obsDG_eq (HandSHeadRun.getT_eq s)
def loose0 : List Str := ["RowError", "InvalidQuestion", "MOST_NAME", "MOST_WORD", "MOST_VALUE", "SMALL", "CAPITALS", "DIGITS", "is_integer", "is_row", "is_name", "is_word", "is_value", "is_term", "unlike_ones", "ASK", "MOST_HEAD", "MOST_TERMS", "MOST_ATOMS", "is_terms", "is_atom", "unlike_table", "names_in", "is_question_of"]
def loose1 : List Str := ["led_terms", "led_atoms", "want_question", "agreed", "led_into", "map_into", "told_map", "map_dict", "leads_to", "fold_of", "fold", "is_fold", "_law_pot", "_law_draw", "_law_pick", "_law_terms", "_law_question", "_law_is_name", "_law_names", "_law_led", "_law_fits", "_law_maps", "_law_atoms", "_law_unlike"]
def loose2 : List Str := ["_law_told_map", "_law_map_of", "_law_is_fold", "_law_bent"]
abbrev loose : List Str := loose0 ++ loose1 ++ loose2
theorem run (w : World) : HandSHeadRun.RunEq R (PySem.W.view R.prog [57]) hk ob 4000 loose w := by
  intro os
  kernel_rfl
end K61
end
set_option Elab.async false
set_option linter.all false
set_option maxRecDepth 100000
set_option maxHeartbeats 0
namespace K61
open PySem PySem.Spec PyProof.Rows L2 DV
end K61
open PySem PySem.W PySem.Calls PyProof.Rows
theorem PySem.Challenge.cw_markedrows_k61_any_value_as_fold_holds : PySem.Challenge.rw_markedrows_k61_any_value_as_fold.Holds := by
  w_on; o_law
  refine HandSHeadRun.head_any (r := OpenLaw.row PySem.Challenge.rw_markedrows_k61_any_value_as_fold) (q := view (OpenLaw.row PySem.Challenge.rw_markedrows_k61_any_value_as_fold).prog [57]) (H := K61.hk) (ob := K61.ob) (M := 4000) (loose := K61.loose)
    (d := HandSHeadRun.topDef (OpenLaw.row PySem.Challenge.rw_markedrows_k61_any_value_as_fold).prog 57) (kwd := []) K61.ob_eq
    (by kernel_rfl) (fun s => by kernel_rfl) K61.run (by kernel_rfl) (by kernel_rfl) (by kernel_rfl) (by rfl) (by first | assumption | decide +kernel) (by decide +kernel) ⟨rfl, rfl, rfl, rfl, rfl, by decide +kernel⟩ ?hw ?hc
  case hw => w_witness2
  case hc =>
    refine DV.law_walk (l := PySem.Challenge.rw_markedrows_k61_any_value_as_fold) (n := 63) (x := "script") rfl (by decide) (by kernel_rfl) ?F
    intro w mg fa h Y G hmg0
    obtain ⟨K, KX, c⟩ := Y
    have hmg : mg ("law" : PySem.Str) = some (.ref fa) := by
      have e : (HandSHeadRun.topDef (OpenLaw.row PySem.Challenge.rw_markedrows_k61_any_value_as_fold).prog 57).name = ("law" : PySem.Str) := by kernel_rfl
      rw [← e]
      exact hmg0
    obtain ⟨W, fd, F⟩ := K61.world KX G hmg c
    have b := L2.FunD.bindsA (ps := ["script"]) F fun _ _ _ _ _ _ us hl => match us, hl with | [_], _ => rfl
    exact ⟨K, fd, K61.F_law, KX, fun s v => b s [v] rfl, fun ns _ => K61.pure_law ns, fun base _ _ => K61.ok_law W F⟩
