import PyProof.Rows.All
import Wide.All
import OpenK.AllK
import Wide.FinOn
import HandS.ForMost
import HandS.IsInst
import HandS.TupAny
import HandS.WideBits
import HandS.SetKeys
import HandS.Defaults
import HandS.Words
import HandS.MakeKwOnly
import HandS.Comp
import HandS.Iter
import HandS.Deep
import KE.DataCmp
import KE.DataMinMax
import KE.SortData
import HandS.Remove
import HandS.Style
import KE.DataFind
import PyProof.Rows.RegFStrParts
import HandS.SetFor
import HandS.HeadEnd
import HandS.Head0
import HandS.Head1
import HandS.Head2
import HandS.HeadHook1
import HandS.HeadHook2
import PySem.Challenge.RW_markedrows_k63_whole_forms
section
set_option Elab.async false
set_option linter.all false
set_option maxRecDepth 100000
namespace DV
open PySem PySem.Spec PyProof.Rows L2

abbrev D := PyData
/-- what a value is at the other end of a list of pairs -/
inductive All2 {α β : Type} (R : α → β → Prop) : List α → List β → Prop
  | nil : All2 R [] []
  | cons {a b as bs} : R a b → All2 R as bs → All2 R (a :: as) (b :: bs)
theorem All2.imp {α β : Type} {R S : α → β → Prop} (h : ∀ a b, R a b → S a b) : ∀ {as bs}, All2 R as bs → All2 S as bs
  | _, _, .nil => .nil
  | _, _, .cons r t => .cons (h _ _ r) (All2.imp h t)
theorem All2.length {α β : Type} {R : α → β → Prop} : ∀ {as bs}, All2 R as bs → as.length = bs.length
  | _, _, .nil => rfl
  | _, _, .cons _ t => by rw [List.length_cons, List.length_cons, t.length]

def keyD : Key → D
  | .inl i => .int i
  | .inr x => .str x

/-- a list to be read at a: tracked and not hidden, or one of the module's -/
def SqLo (K : PySem.W.Frag) (H : Hp) (O : Addr → Prop) (a : Addr) (xs : List V) : Prop :=
  (Rd H a (.lst xs) ∧ ¬ O a) ∨ ∃ (o : Obj) (its : Array Value) (n : Nat), K.lookup a = some o ∧ o.cls = .type "list" ∧ o.dict = none ∧ o.data = .seq its n ∧ its.size ≤ sizeLine ∧ Vals xs its.toList
def SqTo (K : PySem.W.Frag) (H : Hp) (O : Addr → Prop) (a : Addr) (xs : List V) : Prop :=
  (Rd H a (.tup xs) ∧ ¬ O a) ∨ ∃ (o : Obj) (its : Array Value) (n : Nat), K.lookup a = some o ∧ o.cls = .type "tuple" ∧ o.data = .seq its n ∧ its.size ≤ sizeLine ∧ Vals xs its.toList
theorem SqLo.sq {K : PySem.W.Frag} {H : Hp} {O : Addr → Prop} {a : Addr} {xs : List V} (h : SqLo K H O a xs) : SqL K H a xs := h.imp (·.1) id
theorem SqTo.sq {K : PySem.W.Frag} {H : Hp} {O : Addr → Prop} {a : Addr} {xs : List V} (h : SqTo K H O a xs) : SqT K H a xs := h.imp (·.1) id

mutual
/-- the value v stands for the datum d; nothing of it is hidden (O) -/
inductive Rp (K : PySem.W.Frag) (H : Hp) (O : Addr → Prop) : V → D → Prop
  | non : Rp K H O .non .none
  | bl (b : Bool) : Rp K H O (.bl b) (.bool b)
  | int (i : Int) : Rp K H O (.int i) (.int i)
  | str (x : Str) : Rp K H O (.str x) (.str x)
  | lst {a : Addr} {xs : List V} {ds : List D} : SqLo K H O a xs → RpL K H O xs ds → Rp K H O (.ref a) (.list ds)
  | tup {a : Addr} {xs : List V} {ds : List D} : SqTo K H O a xs → RpL K H O xs ds → Rp K H O (.ref a) (.tuple ds)
  | dct {a : Addr} {ks : List (Key × V)} {kvs : List (D × D)} : H a = some (.dK ks) → ¬ O a → RpE K H O ks kvs → Rp K H O (.ref a) (.dict kvs)
inductive RpL (K : PySem.W.Frag) (H : Hp) (O : Addr → Prop) : List V → List D → Prop
  | nil : RpL K H O [] []
  | cons {v : V} {vs : List V} {d : D} {ds : List D} : Rp K H O v d → RpL K H O vs ds → RpL K H O (v :: vs) (d :: ds)
inductive RpE (K : PySem.W.Frag) (H : Hp) (O : Addr → Prop) : List (Key × V) → List (D × D) → Prop
  | nil : RpE K H O [] []
  | cons {k : Key} {v : V} {ks : List (Key × V)} {d : D} {kvs : List (D × D)} : Rp K H O v d → RpE K H O ks kvs → RpE K H O ((k, v) :: ks) ((keyD k, d) :: kvs)
end

section
variable {K : PySem.W.Frag} {H H' : Hp} {O O' : Addr → Prop}
/-- what is not hidden stands as it did, and is not hidden -/
def Stay (H H' : Hp) (O O' : Addr → Prop) : Prop := ∀ a o, H a = some o → ¬ O a → H' a = some o ∧ ¬ O' a
theorem SqLo.stay (s : Stay H H' O O') {a : Addr} {xs : List V} (h : SqLo K H O a xs) : SqLo K H' O' a xs := by
  rcases h with ⟨r | ⟨o, r⟩, n⟩ | h
  · exact .inl ⟨.inl (s _ _ r n).1, (s _ _ r n).2⟩
  · exact .inl ⟨.inr ⟨o, (s _ _ r n).1⟩, (s _ _ r n).2⟩
  · exact .inr h
theorem SqTo.stay (s : Stay H H' O O') {a : Addr} {xs : List V} (h : SqTo K H O a xs) : SqTo K H' O' a xs := by
  rcases h with ⟨r | ⟨o, r⟩, n⟩ | h
  · exact .inl ⟨.inl (s _ _ r n).1, (s _ _ r n).2⟩
  · exact .inl ⟨.inr ⟨o, (s _ _ r n).1⟩, (s _ _ r n).2⟩
  · exact .inr h
mutual
theorem Rp.stay (s : Stay H H' O O') : ∀ {v : V} (d : D), Rp K H O v d → Rp K H' O' v d
  | _, .none, h => by cases h; exact .non
  | _, .bool _, h => by cases h; exact .bl _
  | _, .int _, h => by cases h; exact .int _
  | _, .str _, h => by cases h; exact .str _
  | _, .list ds, h => by
    cases h with
    | lst q r => exact .lst (q.stay s) (RpL.stay s ds r)
  | _, .tuple ds, h => by
    cases h with
    | tup q r => exact .tup (q.stay s) (RpL.stay s ds r)
  | _, .dict kvs, h => by
    cases h with
    | dct q n r => exact .dct (s _ _ q n).1 (s _ _ q n).2 (RpE.stay s kvs r)
theorem RpL.stay (s : Stay H H' O O') : ∀ {vs : List V} (ds : List D), RpL K H O vs ds → RpL K H' O' vs ds
  | _, [], h => by cases h; exact .nil
  | _, d :: ds, h => by
    cases h with
    | cons q r => exact .cons (Rp.stay s d q) (RpL.stay s ds r)
theorem RpE.stay (s : Stay H H' O O') : ∀ {ks : List (Key × V)} (kvs : List (D × D)), RpE K H O ks kvs → RpE K H' O' ks kvs
  | _, [], h => by cases h; exact .nil
  | _, (k, d) :: kvs, h => by
    cases h with
    | cons q r => exact .cons (Rp.stay s d q) (RpE.stay s kvs r)
end
theorem RpL.length : ∀ {vs : List V} {ds : List D}, RpL K H O vs ds → vs.length = ds.length
  | _, _, .nil => rfl
  | _, _, .cons _ t => by rw [List.length_cons, List.length_cons, t.length]
theorem RpL.get : ∀ {vs : List V} {ds : List D} {i : Nat} {d : D}, RpL K H O vs ds → ds[i]? = some d → ∃ v, vs[i]? = some v ∧ Rp K H O v d
  | _, _, _, _, .nil, e => by simp at e
  | _, _, 0, _, .cons r _, e => by simp at e; subst e; exact ⟨_, rfl, r⟩
  | _, _, i + 1, _, .cons _ t, e => by
    obtain ⟨v, h1, h2⟩ := RpL.get (i := i) t (by simpa using e)
    exact ⟨v, by simpa using h1, h2⟩
theorem RpL.getV : ∀ {vs : List V} {ds : List D} {i : Nat} {v : V}, RpL K H O vs ds → vs[i]? = some v → ∃ d, ds[i]? = some d ∧ Rp K H O v d
  | _, _, _, _, .nil, e => by simp at e
  | _, _, 0, _, .cons r _, e => by simp at e; subst e; exact ⟨_, rfl, r⟩
  | _, _, i + 1, _, .cons _ t, e => by
    obtain ⟨v, h1, h2⟩ := RpL.getV (i := i) t (by simpa using e)
    exact ⟨v, by simpa using h1, h2⟩
theorem RpL.append : ∀ {vs ws : List V} {ds es : List D}, RpL K H O vs ds → RpL K H O ws es → RpL K H O (vs ++ ws) (ds ++ es)
  | _, _, _, _, .nil, s => s
  | _, _, _, _, .cons r t, s => .cons r (RpL.append t s)
theorem RpL.take : ∀ {vs : List V} {ds : List D} (n : Nat), RpL K H O vs ds → RpL K H O (vs.take n) (ds.take n)
  | _, _, 0, _ => .nil
  | _, _, _ + 1, .nil => .nil
  | _, _, n + 1, .cons r t => .cons r (RpL.take n t)
theorem RpL.drop : ∀ {vs : List V} {ds : List D} (n : Nat), RpL K H O vs ds → RpL K H O (vs.drop n) (ds.drop n)
  | _, _, 0, r => r
  | _, _, _ + 1, .nil => .nil
  | _, _, n + 1, .cons _ t => RpL.drop n t
theorem RpL.set {v : V} {d : D} (r : Rp K H O v d) : ∀ {vs : List V} {ds : List D} (i : Nat), RpL K H O vs ds → RpL K H O (vs.set i v) (ds.set i d)
  | _, _, _, .nil => .nil
  | _, _, 0, .cons _ t => .cons r t
  | _, _, i + 1, .cons q t => .cons q (RpL.set r i t)
theorem RpL.eraseIdx : ∀ {vs : List V} {ds : List D} (i : Nat), RpL K H O vs ds → RpL K H O (vs.eraseIdx i) (ds.eraseIdx i)
  | _, _, _, .nil => .nil
  | _, _, 0, .cons _ t => t
  | _, _, i + 1, .cons q t => .cons q (RpL.eraseIdx i t)
theorem RpL.reverse : ∀ {vs : List V} {ds : List D}, RpL K H O vs ds → RpL K H O vs.reverse ds.reverse
  | _, _, .nil => .nil
  | _, _, .cons r t => by rw [List.reverse_cons, List.reverse_cons]; exact (RpL.reverse t).append (.cons r .nil)
theorem RpE.length : ∀ {ks : List (Key × V)} {kvs : List (D × D)}, RpE K H O ks kvs → ks.length = kvs.length
  | _, _, .nil => rfl
  | _, _, .cons _ t => by rw [List.length_cons, List.length_cons, t.length]
theorem RpE.append : ∀ {vs ws : List (Key × V)} {ds es : List (D × D)}, RpE K H O vs ds → RpE K H O ws es → RpE K H O (vs ++ ws) (ds ++ es)
  | _, _, _, _, .nil, s => s
  | _, _, _, _, .cons r t, s => .cons r (RpE.append t s)

/-- the content of a mutable object -/
def Ct (K : PySem.W.Frag) (H : Hp) (O : Addr → Prop) (a : Addr) (d : D) : Prop :=
  (∃ xs ds, d = .list ds ∧ H a = some (.lst xs) ∧ RpL K H O xs ds) ∨ ∃ ks kvs, d = .dict kvs ∧ H a = some (.dK ks) ∧ RpE K H O ks kvs
theorem Ct.stay (s : Stay H H' O O') {a : Addr} {d : D} (h : Ct K H O a d) (ha : ∀ o, H a = some o → H' a = some o) : Ct K H' O' a d := by
  rcases h with ⟨xs, ds, rfl, e, r⟩ | ⟨ks, kvs, rfl, e, r⟩
  · exact .inl ⟨xs, ds, rfl, ha _ e, r.stay s⟩
  · exact .inr ⟨ks, kvs, rfl, ha _ e, r.stay s⟩
theorem Ct.there {a : Addr} {d : D} (h : Ct K H O a d) : ∃ o, H a = some o := by
  rcases h with ⟨xs, ds, rfl, e, r⟩ | ⟨ks, kvs, rfl, e, r⟩
  · exact ⟨_, e⟩
  · exact ⟨_, e⟩
/-- what is read: a datum, or the content of a mutable object -/
def RpR (K : PySem.W.Frag) (H : Hp) (O : Addr → Prop) (v : V) (d : D) : Prop := Rp K H O v d ∨ ∃ a, v = .ref a ∧ Ct K H O a d
end

/-! ### slots, results -/
/-- fz: a datum; ow: a mutable object of this frame alone; bo: one that stands still for now; pt: a cell -/
inductive Sl where
  | fz (d : D) | ow (d : D) | bo (d : D) | pt (k : Nat)
/-- fz: a datum; fr: a new mutable object that nobody else holds; sl: what the slot holds -/
inductive Rs where
  | fz (d : D) | fr (d : D) | sl (i : Nat)
def Sl.isOw : Sl → Bool
  | .ow _ => true
  | _ => false
def Sl.isMu : Sl → Bool
  | .ow _ => true
  | .bo _ => true
  | _ => false
structure En where
  ρ : List (Option Sl)
  μ : List (Int × Int)
abbrev M (α : Type) := En → Option (α × En)

def OwnA (ρ : List (Option Sl)) (σ : L2.St) (a : Addr) : Prop := ∃ (i : Nat) (d : D), ρ[i]? = some (some (Sl.ow d)) ∧ σ[i]? = some (some (V.ref a))
def MutA (ρ : List (Option Sl)) (σ : L2.St) (a : Addr) : Prop := ∃ (i : Nat) (s : Sl), ρ[i]? = some (some s) ∧ s.isMu = true ∧ σ[i]? = some (some (V.ref a))
def Hid (γ : List Addr) (ρ : List (Option Sl)) (σ : L2.St) (Z : Addr → Prop) (a : Addr) : Prop := MutA ρ σ a ∨ a ∈ γ ∨ Z a
theorem OwnA.mu {ρ : List (Option Sl)} {σ : L2.St} {a : Addr} (h : OwnA ρ σ a) : MutA ρ σ a := let ⟨i, d, h1, h2⟩ := h; ⟨i, _, h1, rfl, h2⟩

def SlOk (K : PySem.W.Frag) (γ : List Addr) (H : Hp) (O : Addr → Prop) : Sl → V → Prop
  | .fz d, v => Rp K H O v d
  | .ow d, v => ∃ a, v = .ref a ∧ Ct K H O a d
  | .bo d, v => ∃ a, v = .ref a ∧ Ct K H O a d
  | .pt k, v => ∃ a, v = .ref a ∧ γ[k]? = some a

structure Rep (K : PySem.W.Frag) (γ : List Addr) (e : En) (σ : L2.St) (H : Hp) (Z : Addr → Prop) : Prop where
  len : σ.length = e.ρ.length
  slot : ∀ (i : Nat) (s : Sl), e.ρ[i]? = some (some s) → ∃ v, σ[i]? = some (some v) ∧ SlOk K γ H (Hid γ e.ρ σ Z) s v
  mu : ∀ (i : Nat) (s : Sl) (a : Addr), e.ρ[i]? = some (some s) → s.isMu = true → σ[i]? = some (some (V.ref a)) → ¬ Z a ∧ a ∉ γ
  own : ∀ (i : Nat) (d : D) (a : Addr), e.ρ[i]? = some (some (Sl.ow d)) → σ[i]? = some (some (V.ref a)) → ∀ (j : Nat) (s : Sl), e.ρ[j]? = some (some s) → s.isMu = true → σ[j]? = some (some (V.ref a)) → j = i
  cl : γ.length = e.μ.length
  nd : γ.Nodup
  cell : ∀ (k : Nat) (a : Addr) (x y : Int), γ[k]? = some a → e.μ[k]? = some (x, y) → H a = some (.lst [.int x, .int y])
  cz : ∀ a ∈ γ, ¬ Z a
  zt : ∀ a, Z a → ∃ o, H a = some o

/-- all but the frame's own objects and the cells stands as it did -/
structure Kp (γ : List Addr) (ρ : List (Option Sl)) (σ : L2.St) (H H' : Hp) : Prop where
  st : ∀ a o, H a = some o → ¬ OwnA ρ σ a → a ∉ γ → H' a = some o
  th : ∀ a o, H a = some o → ∃ o', H' a = some o'
/-- slots that hold mutable objects held them before -/
structure Sh (e e' : En) : Prop where
  m : ∀ (i : Nat) (s' : Sl), e'.ρ[i]? = some (some s') → s'.isMu = true → ∃ (s : Sl), e.ρ[i]? = some (some s) ∧ s.isMu = true ∧ (s'.isOw = true → s.isOw = true)
  bo : ∀ (i : Nat) (d : D), e.ρ[i]? = some (some (Sl.bo d)) → e'.ρ[i]? = some (some (Sl.bo d))
  bb : ∀ (i : Nat) (d : D), e'.ρ[i]? = some (some (Sl.bo d)) → e.ρ[i]? = some (some (Sl.bo d))
  ln : e'.ρ.length = e.ρ.length
theorem Sh.refl (e : En) : Sh e e := ⟨fun _ s' h m => ⟨s', h, m, id⟩, fun _ _ h => h, fun _ _ h => h, rfl⟩
theorem Sh.trans {e e' e'' : En} (a : Sh e e') (b : Sh e' e'') : Sh e e'' := ⟨fun i s'' h m => by
  obtain ⟨s', h1, m1, o1⟩ := b.m i s'' h m
  obtain ⟨s, h2, m2, o2⟩ := a.m i s' h1 m1
  exact ⟨s, h2, m2, fun z => o2 (o1 z)⟩, fun i d h => b.bo i d (a.bo i d h), fun i d h => a.bb i d (b.bb i d h), b.ln.trans a.ln⟩
theorem Sh.mu {e e' : En} {σ : L2.St} {a : Addr} (s : Sh e e') (h : MutA e'.ρ σ a) : MutA e.ρ σ a := by
  obtain ⟨i, s', h1, m, h2⟩ := h
  obtain ⟨s0, h3, m3, _⟩ := s.m i s' h1 m
  exact ⟨i, s0, h3, m3, h2⟩
theorem Sh.own {e e' : En} {σ : L2.St} {a : Addr} (s : Sh e e') (h : OwnA e'.ρ σ a) : OwnA e.ρ σ a := by
  obtain ⟨i, d, h1, h2⟩ := h
  obtain ⟨s0, h3, _, o3⟩ := s.m i _ h1 rfl
  cases s0 with
  | ow d0 => exact ⟨i, d0, h3, h2⟩
  | fz _ => exact absurd (o3 rfl) (by simp [Sl.isOw])
  | bo _ => exact absurd (o3 rfl) (by simp [Sl.isOw])
  | pt _ => exact absurd (o3 rfl) (by simp [Sl.isOw])
theorem Kp.refl {γ : List Addr} {ρ : List (Option Sl)} {σ : L2.St} (H : Hp) : Kp γ ρ σ H H := ⟨fun _ _ h _ _ => h, fun _ o h => ⟨o, h⟩⟩
theorem Kp.trans {γ : List Addr} {e e' : En} {σ : L2.St} {H H1 H2 : Hp} (a : Kp γ e.ρ σ H H1) (s : Sh e e') (b : Kp γ e'.ρ σ H1 H2) : Kp γ e.ρ σ H H2 :=
  ⟨fun c o h n g => b.st c o (a.st c o h n g) (fun z => n (s.own z)) g, fun c o h => let ⟨o', h'⟩ := a.th c o h; b.th c o' h'⟩
theorem Kp.none {γ : List Addr} {ρ : List (Option Sl)} {σ : L2.St} {H H' : Hp} (k : Kp γ ρ σ H H') {a : Addr} (h : H' a = Option.none) : H a = Option.none := by
  cases q : H a with
  | none => rfl
  | some o => obtain ⟨o', h'⟩ := k.th a o q; rw [h] at h'; cases h'

def RsOk (K : PySem.W.Frag) (γ : List Addr) (H : Hp) (e : En) (σ : L2.St) (Z Z' : Addr → Prop) : Rs → V → Prop
  | .fz d, v => Rp K H (Hid γ e.ρ σ Z') v d
  | .fr d, v => ∃ p, v = .ref p ∧ Z' p ∧ ¬ Z p ∧ Ct K H (Hid γ e.ρ σ Z') p d
  | .sl i, v => σ[i]? = some (some v)
/-- behind an evaluation from H (hidden beside: Z) -/
def Pst (K : PySem.W.Frag) (γ : List Addr) (H : Hp) (σ : L2.St) (Z : Addr → Prop) (e' : En) (rs : List Rs) (vs : List V) (H' : Hp) : Prop :=
  ∃ Z' : Addr → Prop, (∀ a, Z a → Z' a) ∧ (∀ a, Z' a → Z a ∨ H a = none) ∧ Rep K γ e' σ H' Z' ∧ All2 (RsOk K γ H' e' σ Z Z') rs vs

/-! ### what an evaluation leaves of what was known -/
section
variable {K : PySem.W.Frag} {γ : List Addr} {e e1 e2 : En} {σ : L2.St} {H H1 H2 : Hp} {Z Z0 Z1 Z2 : Addr → Prop}
theorem stay_of (kp : Kp γ e1.ρ σ H1 H2) (sh : Sh e1 e2) (hz : ∀ a, Z2 a → Z1 a ∨ H1 a = none) : Stay H1 H2 (Hid γ e1.ρ σ Z1) (Hid γ e2.ρ σ Z2) := fun a o h n => by
  refine ⟨kp.st a o h (fun z => n (.inl z.mu)) (fun z => n (.inr (.inl z))), fun z => ?_⟩
  rcases z with z | z | z
  · exact n (.inl (sh.mu z))
  · exact n (.inr (.inl z))
  · rcases hz a z with z | z
    · exact n (.inr (.inr z))
    · rw [h] at z; cases z
theorem RsOk.keep (R : Rep K γ e1 σ H1 Z1) (R2 : Rep K γ e2 σ H2 Z2) (kp : Kp γ e1.ρ σ H1 H2) (sh : Sh e1 e2) (h12 : ∀ a, Z1 a → Z2 a) (hz : ∀ a, Z2 a → Z1 a ∨ H1 a = none) {r : Rs} {v : V} (h : RsOk K γ H1 e1 σ Z Z1 r v) : RsOk K γ H2 e2 σ Z Z2 r v := by
  cases r with
  | fz d => exact Rp.stay (stay_of kp sh hz) d h
  | sl i => exact h
  | fr d =>
    obtain ⟨p, rfl, hp, np, c⟩ := h
    refine ⟨p, rfl, h12 p hp, np, c.stay (stay_of kp sh hz) fun o ho => kp.st p o ho (fun z => ?_) (fun z => R.cz p z hp)⟩
    obtain ⟨i, d', h1, h2⟩ := z
    exact (R.mu i _ p h1 rfl h2).1 hp
theorem RsOk.keeps (R : Rep K γ e1 σ H1 Z1) (R2 : Rep K γ e2 σ H2 Z2) (kp : Kp γ e1.ρ σ H1 H2) (sh : Sh e1 e2) (h12 : ∀ a, Z1 a → Z2 a) (hz : ∀ a, Z2 a → Z1 a ∨ H1 a = none) {rs : List Rs} {vs : List V} (h : All2 (RsOk K γ H1 e1 σ Z Z1) rs vs) : All2 (RsOk K γ H2 e2 σ Z Z2) rs vs :=
  h.imp fun _ _ q => q.keep R R2 kp sh h12 hz
/-- a result that was new towards a greater Z is new towards a lesser one -/
theorem RsOk.down (h01 : ∀ a, Z0 a → Z1 a) {r : Rs} {v : V} (h : RsOk K γ H2 e2 σ Z1 Z2 r v) : RsOk K γ H2 e2 σ Z0 Z2 r v := by
  cases r with
  | fz d => exact h
  | sl i => exact h
  | fr d =>
    obtain ⟨p, rfl, hp, np, c⟩ := h
    exact ⟨p, rfl, hp, fun z => np (h01 p z), c⟩
end
end DV
end
section
set_option Elab.async false
set_option linter.all false
set_option maxRecDepth 100000
namespace DV
open PySem PySem.Spec PyProof.Rows L2

/-! ### the plain words -/
def ret {α : Type} (a : α) : M α := fun e => some (a, e)
def bnd {α β : Type} (f : M α) (g : α → M β) : M β := fun e => match f e with
  | some (a, e') => g a e'
  | none => none
theorem bnd_eq {α β : Type} {f : M α} {g : α → M β} {e e2 : En} {b : β} (h : bnd f g e = some (b, e2)) : ∃ a e1, f e = some (a, e1) ∧ g a e1 = some (b, e2) := by
  unfold bnd at h
  cases q : f e with
  | none => rw [q] at h; cases h
  | some p => rw [q] at h; exact ⟨p.1, p.2, rfl, h⟩
def opt {α : Type} (o : Option α) : M α := fun e => o.map fun a => (a, e)
theorem opt_eq {α : Type} {o : Option α} {e e1 : En} {a : α} (h : opt o e = some (a, e1)) : o = some a ∧ e1 = e := by
  unfold opt at h
  cases o with
  | none => cases h
  | some b => cases h; exact ⟨rfl, rfl⟩
/-- what a result holds -/
def rdS (e : En) : Sl → Option D
  | .fz d => some d
  | .ow d => some d
  | .bo d => some d
  | .pt k => match e.μ[k]? with
    | some (x, y) => some (.list [.int x, .int y])
    | none => none
def rdv (e : En) : Rs → Option D
  | .fz d => some d
  | .fr d => some d
  | .sl i => match e.ρ[i]? with
    | some (some s) => rdS e s
    | _ => none
def rdM (r : Rs) : M D := fun e => (rdv e r).map fun d => (d, e)
def rdAll (e : En) : List Rs → Option (List D)
  | [] => some []
  | r :: rs => match rdv e r, rdAll e rs with
    | some d, some ds => some (d :: ds)
    | _, _ => none
theorem rdM_eq {r : Rs} {e e1 : En} {d : D} (h : rdM r e = some (d, e1)) : rdv e r = some d ∧ e1 = e := by
  unfold rdM at h
  cases q : rdv e r with
  | none => rw [q] at h; cases h
  | some b => rw [q] at h; cases h; exact ⟨rfl, rfl⟩
/-- what a result holds, handed on for good: a slot's own object stands still from then on -/
def als (r : Rs) : M D := fun e => match r with
  | .fz d => some (d, e)
  | .fr d => some (d, e)
  | .sl i => match e.ρ[i]? with
    | some (some (.fz d)) => some (d, e)
    | some (some (.ow d)) => some (d, { e with ρ := e.ρ.set i (some (.fz d)) })
    | _ => none
def alsAll : List Rs → M (List D)
  | [] => ret []
  | r :: rs => bnd (als r) fun d => bnd (alsAll rs) fun ds => ret (d :: ds)

section
variable (K : PySem.W.Frag)
def tE (f : M Rs) : TE := fun σ H Q => ∃ γ e Z r e', Rep K γ e σ H Z ∧ f e = some (r, e') ∧ ∀ v H', Kp γ e.ρ σ H H' → Sh e e' → Pst K γ H σ Z e' [r] [v] H' → Q v H'
def tA (f : M (List Rs)) : TA := fun σ H Q => ∃ γ e Z rs e', Rep K γ e σ H Z ∧ f e = some (rs, e') ∧ ∀ vs H', Kp γ e.ρ σ H H' → Sh e e' → Pst K γ H σ Z e' rs vs H' → Q vs H'
def tT (f : M Bool) : TT := fun σ H Q => ∃ γ e Z b e', Rep K γ e σ H Z ∧ f e = some (b, e') ∧ ∀ H', Kp γ e.ρ σ H H' → Sh e e' → Rep K γ e' σ H' Z → Q b H'
end
theorem PE.weak {X : Cx} {e : Expr} {t t' : TE} (h : PE X e t) (w : ∀ σ H Q, t' σ H Q → t σ H Q) : PE X e t' := ⟨fun pins s σ H Q I q => h.run pins s σ H Q I (w σ H Q q)⟩
theorem PA.weak {X : Cx} {e : List Expr} {t t' : TA} (h : PA X e t) (w : ∀ σ H Q, t' σ H Q → t σ H Q) : PA X e t' := ⟨fun pos pins s σ H Q I q => h.run pos pins s σ H Q I (w σ H Q q)⟩
theorem PT.weak {X : Cx} {e : Expr} {t t' : TT} (h : PT X e t) (w : ∀ σ H Q, t' σ H Q → t σ H Q) : PT X e t' := ⟨fun pins s σ H Q I q => h.run pins s σ H Q I (w σ H Q q)⟩
theorem PW.weak {X : Cx} {e : Expr} {t t' : TT} (h : PW X e t) (w : ∀ σ H Q, t' σ H Q → t σ H Q) : PW X e t' := ⟨fun wh pins s σ H Q I q => h.run wh pins s σ H Q I (w σ H Q q)⟩
theorem PS.weak {X : Cx} {e : Stmt} {t t' : TS} (h : PS X e t) (w : ∀ D σ H, t' D σ H → t D σ H) : PS X e t' := ⟨fun pins s σ H Q I q => h.run pins s σ H Q I (w Q σ H q)⟩
theorem PSs.weak {X : Cx} {e : List Stmt} {t t' : TS} (h : PSs X e t) (w : ∀ D σ H, t' D σ H → t D σ H) : PSs X e t' := ⟨fun pins s σ H Q I q => h.run pins s σ H Q I (w Q σ H q)⟩

section
variable {K : PySem.W.Frag} {γ : List Addr} {e e1 e2 : En} {σ : L2.St} {H H1 H2 : Hp} {Z Z0 Z1 Z2 : Addr → Prop}
theorem stay_refl {O O' : Addr → Prop} (h : ∀ a o, H a = some o → O' a → O a) : Stay H H O O' := fun a o e n => ⟨e, fun z => n (h a o e z)⟩
theorem Hid.tr (R : Rep K γ e σ H Z) {a : Addr} (h : Hid γ e.ρ σ Z a) : ∃ o, H a = some o := by
  rcases h with ⟨i, s, h1, m, h2⟩ | h | h
  · obtain ⟨v, hv, ok⟩ := R.slot i s h1
    rw [h2] at hv
    cases hv
    cases s with
    | ow d => obtain ⟨b, eb, c⟩ := ok; cases eb; exact c.there
    | bo d => obtain ⟨b, eb, c⟩ := ok; cases eb; exact c.there
    | fz d => exact absurd m (by simp [Sl.isMu])
    | pt k => exact absurd m (by simp [Sl.isMu])
  · obtain ⟨k, hk, ek⟩ := List.getElem_of_mem h
    have hk' : k < e.μ.length := by rw [← R.cl]; exact hk
    exact ⟨_, R.cell k a (e.μ[k]).1 (e.μ[k]).2 (by rw [List.getElem?_eq_getElem hk, ek]) (by rw [List.getElem?_eq_getElem hk'])⟩
  · exact R.zt a h
theorem SlOk.stay {H' : Hp} {O O' : Addr → Prop} (s : Stay H H' O O') {x : Sl} {v : V} (hx : ∀ a, v = .ref a → x.isMu = true → ∀ o, H a = some o → H' a = some o) (h : SlOk K γ H O x v) : SlOk K γ H' O' x v := by
  cases x with
  | fz d => exact Rp.stay s d h
  | ow d => obtain ⟨a, rfl, c⟩ := h; exact ⟨a, rfl, c.stay s (hx a rfl rfl)⟩
  | bo d => obtain ⟨a, rfl, c⟩ := h; exact ⟨a, rfl, c.stay s (hx a rfl rfl)⟩
  | pt k => exact h
theorem Rep.down (R : Rep K γ e σ H Z1) (h : ∀ a, Z0 a → Z1 a) : Rep K γ e σ H Z0 where
  len := R.len
  slot := fun i s hi => by
    obtain ⟨v, hv, ok⟩ := R.slot i s hi
    exact ⟨v, hv, ok.stay (stay_refl fun a o _ z => z.imp id (Or.imp id (h a))) fun _ _ _ o ho => ho⟩
  mu := fun i s a h1 h2 h3 => ⟨fun z => (R.mu i s a h1 h2 h3).1 (h a z), (R.mu i s a h1 h2 h3).2⟩
  own := R.own
  cl := R.cl
  nd := R.nd
  cell := R.cell
  cz := fun a ha z => R.cz a ha (h a z)
  zt := fun a z => R.zt a (h a z)
/-- two evaluations in a row -/
theorem Pst.cons {r : Rs} {x : V} {rs : List Rs} {xs : List V} (kp : Kp γ e.ρ σ H H1) (kp2 : Kp γ e1.ρ σ H1 H2) (sh2 : Sh e1 e2)
    (h01 : ∀ a, Z a → Z1 a) (hf : ∀ a, Z1 a → Z a ∨ H a = none) (R1 : Rep K γ e1 σ H1 Z1) (A1 : RsOk K γ H1 e1 σ Z Z1 r x)
    (P : Pst K γ H1 σ Z1 e2 rs xs H2) : Pst K γ H σ Z e2 (r :: rs) (x :: xs) H2 := by
  obtain ⟨Z2, h12, hf2, R2, A2⟩ := P
  refine ⟨Z2, fun a z => h12 a (h01 a z), fun a z => ?_, R2, .cons (A1.keep R1 R2 kp2 sh2 h12 hf2) (A2.imp fun _ _ q => q.down h01)⟩
  rcases hf2 a z with z | z
  · exact hf a z
  · exact .inr (kp.none z)
/-- .. the first result dropped -/
theorem Pst.next {rs0 : List Rs} {xs0 : List V} {rs : List Rs} {xs : List V} (kp : Kp γ e.ρ σ H H1)
    (h01 : ∀ a, Z a → Z1 a) (hf : ∀ a, Z1 a → Z a ∨ H a = none) (P : Pst K γ H1 σ Z1 e2 rs xs H2) : Pst K γ H σ Z e2 rs xs H2 := by
  obtain ⟨Z2, h12, hf2, R2, A2⟩ := P
  refine ⟨Z2, fun a z => h12 a (h01 a z), fun a z => ?_, R2, A2.imp fun _ _ q => q.down h01⟩
  rcases hf2 a z with z | z
  · exact hf a z
  · exact .inr (kp.none z)
theorem Pst.one {r : Rs} {x : V} (P : Pst K γ H σ Z e1 [r] [x] H1) : ∃ Z1 : Addr → Prop, (∀ a, Z a → Z1 a) ∧ (∀ a, Z1 a → Z a ∨ H a = none) ∧ Rep K γ e1 σ H1 Z1 ∧ RsOk K γ H1 e1 σ Z Z1 r x := by
  obtain ⟨Z1, h1, h2, h3, h4⟩ := P
  cases h4 with
  | cons q _ => exact ⟨Z1, h1, h2, h3, q⟩
theorem Pst.rep {rs : List Rs} {xs : List V} (P : Pst K γ H σ Z e1 rs xs H1) : Rep K γ e1 σ H1 Z := by
  obtain ⟨Z1, h1, h2, h3, h4⟩ := P
  exact h3.down h1
/-- reading -/
theorem RsOk.rd (R : Rep K γ e σ H Z1) {r : Rs} {x : V} {d : D} (h : RsOk K γ H e σ Z Z1 r x) (q : rdv e r = some d) : RpR K H (Hid γ e.ρ σ Z1) x d := by
  cases r with
  | fz d0 => cases q; exact .inl h
  | fr d0 => cases q; obtain ⟨p, rfl, _, _, c⟩ := h; exact .inr ⟨p, rfl, c⟩
  | sl i =>
    have q' : (match e.ρ[i]? with
      | some (some s) => rdS e s
      | _ => none) = some d := q
    cases q2 : e.ρ[i]? with
    | none => rw [q2] at q'; cases q'
    | some o =>
      cases o with
      | none => rw [q2] at q'; cases q'
      | some s =>
        rw [q2] at q'
        obtain ⟨v, hv, ok⟩ := R.slot i s q2
        have hx : σ[i]? = some (some x) := h
        rw [hx] at hv
        cases hv
        cases s with
        | fz d0 => cases q'; exact .inl ok
        | ow d0 => cases q'; obtain ⟨a, rfl, c⟩ := ok; exact .inr ⟨a, rfl, c⟩
        | bo d0 => cases q'; obtain ⟨a, rfl, c⟩ := ok; exact .inr ⟨a, rfl, c⟩
        | pt k =>
          obtain ⟨a, rfl, hk⟩ := ok
          have q3 : (match e.μ[k]? with
            | some (x, y) => some (PyData.list [.int x, .int y])
            | none => none) = some d := q'
          cases q4 : e.μ[k]? with
          | none => rw [q4] at q3; cases q3
          | some p =>
            obtain ⟨x, y⟩ := p
            rw [q4] at q3
            cases q3
            exact .inr ⟨a, rfl, .inl ⟨_, _, rfl, R.cell k a x y hk q4, .cons (.int x) (.cons (.int y) .nil)⟩⟩
theorem rd_all (R : Rep K γ e σ H Z1) : ∀ {rs : List Rs} {xs : List V} {ds : List D}, All2 (RsOk K γ H e σ Z Z1) rs xs → rdAll e rs = some ds → All2 (RpR K H (Hid γ e.ρ σ Z1)) xs ds
  | _, _, _, .nil, q => by cases q; exact .nil
  | r :: rs, _, ds, .cons h t, q => by
    have q' : (match rdv e r, rdAll e rs with
      | some d, some ds => some (d :: ds)
      | _, _ => none) = some ds := q
    cases q1 : rdv e r with
    | none => rw [q1] at q'; cases q'
    | some d =>
      cases q2 : rdAll e rs with
      | none => rw [q1, q2] at q'; cases q'
      | some es =>
        rw [q1, q2] at q'
        cases q'
        exact .cons (h.rd R q1) (rd_all R t q2)

/-! ### what an operation makes -/
inductive Gr (K : PySem.W.Frag) (H : Hp) (O : Addr → Prop) : Rs → V → Hp → Prop
  | same {v : V} {d : D} : Rp K H O v d → Gr K H O (.fz d) v H
  | tup {H1 : Hp} {p : Addr} {xs : List V} {ds : List D} : Same H H1 → H1 p = none → RpL K H1 O xs ds → Gr K H O (.fz (.tuple ds)) (.ref p) (upd H1 p (.tup xs))
  | lst {H1 : Hp} {p : Addr} {xs : List V} {ds : List D} : Same H H1 → H1 p = none → RpL K H1 O xs ds → Gr K H O (.fr (.list ds)) (.ref p) (upd H1 p (.lst xs))
  | dct {H1 : Hp} {p : Addr} {ks : List (Key × V)} {kvs : List (D × D)} : Same H H1 → H1 p = none → RpE K H1 O ks kvs → Gr K H O (.fr (.dict kvs)) (.ref p) (upd H1 p (.dK ks))
theorem same_upd {p : Addr} {o : HO} (h : H p = none) : Same H (upd H p o) := fun b x e => by
  rw [upd_ne (ne_of_none e h)]
  exact e
theorem Rep.grow (R : Rep K γ e σ H Z) (s : Same H H1) (h : ∀ a, Z1 a → Z a ∨ (H a = none ∧ ∃ o, H1 a = some o)) : Rep K γ e σ H1 Z1 where
  len := R.len
  slot := fun i x hi => by
    obtain ⟨v, hv, ok⟩ := R.slot i x hi
    refine ⟨v, hv, ok.stay (fun a o ho n => ⟨s a o ho, fun z => ?_⟩) fun a _ _ o ho => s a o ho⟩
    rcases z with z | z | z
    · exact n (.inl z)
    · exact n (.inr (.inl z))
    · rcases h a z with z | ⟨z, _⟩
      · exact n (.inr (.inr z))
      · rw [ho] at z; cases z
  mu := fun i x a h1 h2 h3 => by
    refine ⟨fun z => ?_, (R.mu i x a h1 h2 h3).2⟩
    rcases h a z with z | ⟨z, _⟩
    · exact (R.mu i x a h1 h2 h3).1 z
    · obtain ⟨o, ho⟩ := Hid.tr R (.inl ⟨i, x, h1, h2, h3⟩)
      rw [ho] at z; cases z
  own := R.own
  cl := R.cl
  nd := R.nd
  cell := fun k a x y h1 h2 => s a _ (R.cell k a x y h1 h2)
  cz := fun a ha z => by
    rcases h a z with z | ⟨z, _⟩
    · exact R.cz a ha z
    · obtain ⟨o, ho⟩ := Hid.tr R (.inr (.inl ha))
      rw [ho] at z; cases z
  zt := fun a z => by
    rcases h a z with z | ⟨_, z⟩
    · obtain ⟨o, ho⟩ := R.zt a z
      exact ⟨o, s a o ho⟩
    · exact z
theorem stay_grow {O : Addr → Prop} (s : Same H H1) : Stay H H1 O O := fun a o e n => ⟨s a o e, n⟩
theorem Kp.of_same {ρ : List (Option Sl)} (s : Same H H1) : Kp γ ρ σ H H1 := ⟨fun a o h _ _ => s a o h, fun a o h => ⟨o, s a o h⟩⟩
theorem same_none {p : Addr} (s : Same H H1) (h : H1 p = none) : H p = none := s.free h
theorem Gr.pst (R : Rep K γ e σ H Z) {r : Rs} {v : V} (g : Gr K H (Hid γ e.ρ σ Z) r v H1) : Kp γ e.ρ σ H H1 ∧ Pst K γ H σ Z e [r] [v] H1 := by
  cases g with
  | same h => exact ⟨Kp.refl H, Z, fun _ z => z, fun _ z => .inl z, R, .cons h .nil⟩
  | @tup H2 p xs ds s hp q =>
    have s2 : Same H (upd H2 p (.tup xs)) := s.trans (same_upd hp)
    have np : ¬ Hid γ e.ρ σ Z p := fun z => by
      obtain ⟨o, ho⟩ := Hid.tr R z
      rw [same_none s hp] at ho; cases ho
    refine ⟨Kp.of_same s2, Z, fun _ z => z, fun _ z => .inl z, R.grow s2 fun a z => .inl z, .cons ?_ .nil⟩
    exact .tup (.inl ⟨.inl upd_same, np⟩) (q.stay (stay_grow (same_upd hp)))
  | @lst H2 p xs ds s hp q =>
    have s2 : Same H (upd H2 p (.lst xs)) := s.trans (same_upd hp)
    have hp0 := same_none s hp
    refine ⟨Kp.of_same s2, fun a => Z a ∨ a = p, fun _ z => .inl z, fun a z => z.imp id fun z => by rw [z]; exact hp0, R.grow s2 fun a z => z.imp id fun z => by rw [z]; exact ⟨hp0, _, upd_same⟩, .cons ⟨p, rfl, .inr rfl, fun z => ?_, .inl ⟨xs, ds, rfl, upd_same, q.stay fun a o ho n => ⟨same_upd hp a o ho, fun z => ?_⟩⟩⟩ .nil⟩
    · obtain ⟨o, ho⟩ := R.zt p z
      rw [hp0] at ho; cases ho
    · rcases z with z | z | z | z
      · exact n (.inl z)
      · exact n (.inr (.inl z))
      · exact n (.inr (.inr z))
      · rw [z, hp] at ho; cases ho
  | @dct H2 p xs ds s hp q =>
    have s2 : Same H (upd H2 p (.dK xs)) := s.trans (same_upd hp)
    have hp0 := same_none s hp
    refine ⟨Kp.of_same s2, fun a => Z a ∨ a = p, fun _ z => .inl z, fun a z => z.imp id fun z => by rw [z]; exact hp0, R.grow s2 fun a z => z.imp id fun z => by rw [z]; exact ⟨hp0, _, upd_same⟩, .cons ⟨p, rfl, .inr rfl, fun z => ?_, .inr ⟨xs, ds, rfl, upd_same, q.stay fun a o ho n => ⟨same_upd hp a o ho, fun z => ?_⟩⟩⟩ .nil⟩
    · obtain ⟨o, ho⟩ := R.zt p z
      rw [hp0] at ho; cases ho
    · rcases z with z | z | z | z
      · exact n (.inl z)
      · exact n (.inr (.inl z))
      · exact n (.inr (.inr z))
      · rw [z, hp] at ho; cases ho
end

/-! ### operators, calls -/
def op1 (g : D → Option Rs) (fa : M Rs) : M Rs := bnd fa fun a => bnd (rdM a) fun x => opt (g x)
def op2 (g : D → D → Option Rs) (fa fb : M Rs) : M Rs := bnd fa fun a => bnd fb fun b => bnd (rdM a) fun x => bnd (rdM b) fun y => opt (g x y)
def consM (fa : M Rs) (fs : M (List Rs)) : M (List Rs) := bnd fa fun a => bnd fs fun as => ret (a :: as)
def opN (g : List D → Option Rs) (fs : M (List Rs)) : M Rs := bnd fs fun as => fun e => match rdAll e as with
  | some ds => (g ds).map fun r => (r, e)
  | none => none
def Op1 (K : PySem.W.Frag) (r : V → Hp → VK → Prop) (g : D → Option Rs) : Prop :=
  ∀ (H : Hp) (O : Addr → Prop) (x : V) (d : D) (res : Rs) (Q : VK), (∀ a, O a → ∃ o, H a = some o) → RpR K H O x d → g d = some res → (∀ v H', Gr K H O res v H' → Q v H') → r x H Q
def Op2 (K : PySem.W.Frag) (r : R2) (g : D → D → Option Rs) : Prop :=
  ∀ (H : Hp) (O : Addr → Prop) (x y : V) (dx dy : D) (res : Rs) (Q : VK), (∀ a, O a → ∃ o, H a = some o) → RpR K H O x dx → RpR K H O y dy → g dx dy = some res → (∀ v H', Gr K H O res v H' → Q v H') → r x y H Q
def OpN (K : PySem.W.Frag) (r : List V → Hp → VK → Prop) (g : List D → Option Rs) : Prop :=
  ∀ (H : Hp) (O : Addr → Prop) (xs : List V) (ds : List D) (res : Rs) (Q : VK), (∀ a, O a → ∃ o, H a = some o) → All2 (RpR K H O) xs ds → g ds = some res → (∀ v H', Gr K H O res v H' → Q v H') → r xs H Q
section
variable {X : Cx} {K : PySem.W.Frag} {e : Expr} {es : List Expr}
theorem tE_op1 {r : V → Hp → VK → Prop} {g : D → Option Rs} {fa : M Rs} (o : Op1 K r g) : ∀ σ H Q, tE K (op1 g fa) σ H Q → tUn r (tE K fa) σ H Q := by
  rintro σ H Q ⟨γ, e, Z, res, e', R, h, k⟩
  obtain ⟨ra, e1, h1, ha⟩ := bnd_eq h
  obtain ⟨d, e2, h2, hb⟩ := bnd_eq ha
  obtain ⟨q1, rfl⟩ := rdM_eq h2
  obtain ⟨q2, rfl⟩ := opt_eq hb
  refine ⟨γ, e, Z, ra, e', R, h1, fun x H1 kp sh P => ?_⟩
  obtain ⟨Z1, h01, hf, R1, A1⟩ := P.one
  refine o H1 _ x d res _ (fun a ha => Hid.tr R1 ha) (A1.rd R1 q1) q2 fun v H' gr => ?_
  obtain ⟨kp2, P2⟩ := gr.pst R1
  exact k v H' (kp.trans sh kp2) sh (Pst.next (rs0 := []) (xs0 := []) kp h01 hf P2)
theorem tE_op2 {r : R2} {g : D → D → Option Rs} {fa fb : M Rs} (o : Op2 K r g) : ∀ σ H Q, tE K (op2 g fa fb) σ H Q → tOp r (tE K fa) (tE K fb) σ H Q := by
  rintro σ H Q ⟨γ, e, Z, res, e', R, h, k⟩
  obtain ⟨ra, e1, h1, ha⟩ := bnd_eq h
  obtain ⟨rb, e2, h2, hb⟩ := bnd_eq ha
  obtain ⟨dx, e3, h3, hc⟩ := bnd_eq hb
  obtain ⟨q1, rfl⟩ := rdM_eq h3
  obtain ⟨dy, e4, h4, hd⟩ := bnd_eq hc
  obtain ⟨q2, rfl⟩ := rdM_eq h4
  obtain ⟨q3, rfl⟩ := opt_eq hd
  refine ⟨γ, e, Z, ra, e1, R, h1, fun x H1 kp sh P => ?_⟩
  obtain ⟨Z1, h01, hf, R1, A1⟩ := P.one
  refine ⟨γ, e1, Z1, rb, _, R1, h2, fun y H2 kp2 sh2 P2 => ?_⟩
  obtain ⟨Z2, h12, hf2, R2, A2⟩ := P2.one
  have A1' := A1.keep R1 R2 kp2 sh2 h12 hf2
  refine o H2 _ x y dx dy res _ (fun a ha => Hid.tr R2 ha) (A1'.rd R2 q1) (A2.rd R2 q2) q3 fun v H' gr => ?_
  obtain ⟨kp3, P3⟩ := gr.pst R2
  exact k v H' ((kp.trans sh kp2).trans (sh.trans sh2) kp3) (sh.trans sh2) (Pst.next (rs0 := []) (xs0 := []) kp h01 hf (Pst.next (rs0 := []) (xs0 := []) kp2 h12 hf2 P3))
theorem tA_nil : ∀ σ H Q, tA K (ret []) σ H Q → tNil σ H Q := by
  rintro σ H Q ⟨γ, e, Z, res, e', R, h, k⟩
  cases h
  exact k [] H (Kp.refl H) (Sh.refl e) ⟨Z, fun _ z => z, fun _ z => .inl z, R, .nil⟩
theorem tA_cons {fa : M Rs} {fs : M (List Rs)} : ∀ σ H Q, tA K (consM fa fs) σ H Q → tCons (tE K fa) (tA K fs) σ H Q := by
  rintro σ H Q ⟨γ, e, Z, res, e', R, h, k⟩
  obtain ⟨ra, e1, h1, h⟩ := bnd_eq h
  obtain ⟨rs, e2, h2, h⟩ := bnd_eq h
  cases h
  refine ⟨γ, e, Z, ra, e1, R, h1, fun x H1 kp sh P => ?_⟩
  obtain ⟨Z1, h01, hf, R1, A1⟩ := P.one
  refine ⟨γ, e1, Z1, rs, e', R1, h2, fun xs H2 kp2 sh2 P2 => ?_⟩
  exact k (x :: xs) H2 (kp.trans sh kp2) (sh.trans sh2) (Pst.cons kp kp2 sh2 h01 hf R1 A1 P2)
theorem tE_opN {r : List V → Hp → VK → Prop} {g : List D → Option Rs} {fs : M (List Rs)} (o : OpN K r g) : ∀ σ H Q, tE K (opN g fs) σ H Q → tCB r (tA K fs) σ H Q := by
  rintro σ H Q ⟨γ, e, Z, res, e', R, h, k⟩
  obtain ⟨rs, e1, h1, h⟩ := bnd_eq h
  have h : (match rdAll e1 rs with
    | some ds => (g ds).map fun r => (r, e1)
    | none => none) = some (res, e') := h
  cases q1 : rdAll e1 rs with
  | none => rw [q1] at h; cases h
  | some ds =>
    rw [q1] at h
    cases q2 : g ds with
    | none => simp [q2] at h
    | some r0 =>
      simp only [q2, Option.map_some, Option.some.injEq, Prod.mk.injEq] at h
      obtain ⟨rfl, rfl⟩ := h
      refine ⟨γ, e, Z, rs, e1, R, h1, fun xs H1 kp sh P => ?_⟩
      obtain ⟨Z1, h01, hf, R1, A1⟩ := P
      refine o H1 _ xs ds r0 _ (fun a ha => Hid.tr R1 ha) (rd_all R1 A1 q1) q2 fun v H' gr => ?_
      obtain ⟨kp2, P2⟩ := gr.pst R1
      exact k v H' (kp.trans sh kp2) sh (Pst.next (rs0 := []) (xs0 := []) kp h01 hf P2)
theorem da_nil : PA X [] (tA X.K (ret [])) := PA.weak pa_nil tA_nil
theorem da_cons {fa : M Rs} {fs : M (List Rs)} (ha : PE X e (tE X.K fa)) (hr : PA X es (tA X.K fs)) (hs : starEach (e :: es) X.env = (false, eval e X.env) :: starEach es X.env := by rfl) : PA X (e :: es) (tA X.K (consM fa fs)) :=
  PA.weak (pa_cons ha hr hs) tA_cons
end

/-! ### names, constants -/
def slM (i : Nat) : M Rs := fun e => match e.ρ[i]? with
  | some (some (.fz d)) => some (.fz d, e)
  | some (some _) => some (.sl i, e)
  | _ => none
def fzM (d : D) : M Rs := ret (.fz d)
section
variable {X : Cx} {K : PySem.W.Frag}
theorem tE_var {i : Nat} : ∀ σ H Q, tE K (slM i) σ H Q → tVar i σ H Q := by
  rintro σ H Q ⟨γ, e, Z, res, e', R, h, k⟩
  have h' : (match e.ρ[i]? with
    | some (some (.fz d)) => some (.fz d, e)
    | some (some _) => some (.sl i, e)
    | _ => none) = some (res, e') := h
  cases q : e.ρ[i]? with
  | none => rw [q] at h'; cases h'
  | some o =>
    cases o with
    | none => rw [q] at h'; cases h'
    | some s =>
      rw [q] at h'
      obtain ⟨v, hv, ok⟩ := R.slot i s q
      refine ⟨v, hv, ?_⟩
      cases s with
      | fz d => cases h'; exact k v H (Kp.refl H) (Sh.refl e) ⟨Z, fun _ z => z, fun _ z => .inl z, R, .cons ok .nil⟩
      | ow d => cases h'; exact k v H (Kp.refl H) (Sh.refl e) ⟨Z, fun _ z => z, fun _ z => .inl z, R, .cons hv .nil⟩
      | bo d => cases h'; exact k v H (Kp.refl H) (Sh.refl e) ⟨Z, fun _ z => z, fun _ z => .inl z, R, .cons hv .nil⟩
      | pt d => cases h'; exact k v H (Kp.refl H) (Sh.refl e) ⟨Z, fun _ z => z, fun _ z => .inl z, R, .cons hv .nil⟩
theorem tE_const {v : V} {d : D} (h : ∀ H O, Rp K H O v d) : ∀ σ H Q, tE K (fzM d) σ H Q → tC v σ H Q := by
  rintro σ H Q ⟨γ, e, Z, res, e', R, q, k⟩
  cases q
  exact k v H (Kp.refl H) (Sh.refl e) ⟨Z, fun _ z => z, fun _ z => .inl z, R, .cons (h _ _) .nil⟩
theorem de_name (i : Nat) {x : Str} {pos : Pos} (hN : X.N[i]? = some x := by rfl) (hv : Vis X.env.scope x := by first | exact Or.inl rfl | exact Or.inr (Or.inl rfl) | exact Or.inr (Or.inr rfl)) (hd : (x == ("__debug__" : Str)) = false := by decide)
    (hcd : (x == ("__classdict__" : Str)) = false := by decide) : PE X (.Name x pos) (tE X.K (slM i)) := PE.weak (pe_var hN hv hd hcd) tE_var
theorem de_int {i j pos} : PE X (.Constant (.int i) j pos) (tE X.K (fzM (.int i))) := PE.weak pe_int (tE_const fun _ _ => .int i)
theorem de_bool {b j pos} : PE X (.Constant (.bool b) j pos) (tE X.K (fzM (.bool b))) := PE.weak pe_bl (tE_const fun _ _ => .bl b)
theorem de_none {j pos} : PE X (.Constant .none j pos) (tE X.K (fzM .none)) := PE.weak pe_non (tE_const fun _ _ => .non)
theorem de_str {x j pos} : PE X (.Constant (.str x) j pos) (tE X.K (fzM (.str x))) := PE.weak pe_str (tE_const fun _ _ => .str x)
theorem de_gint {x : Str} {i : Int} {u : Value} {pos : Pos} (hg : Gl X x) (hm : X.mg x = some u) (r : RelV (.int i) u) (hd : (x == ("__debug__" : Str)) = false := by decide) : PE X (.Name x pos) (tE X.K (fzM (.int i))) := PE.weak (pe_glob hg hm r hd) (tE_const fun _ _ => .int i)
theorem de_gstr {x : Str} {i : Str} {u : Value} {pos : Pos} (hg : Gl X x) (hm : X.mg x = some u) (r : RelV (.str i) u) (hd : (x == ("__debug__" : Str)) = false := by decide) : PE X (.Name x pos) (tE X.K (fzM (.str i))) := PE.weak (pe_glob hg hm r hd) (tE_const fun _ _ => .str i)
/-- a part that the run never comes to -/
def noM {α : Type} : M α := fun _ => none
theorem de_no {e : Expr} : PE X e (tE X.K noM) := ⟨fun _ _ _ _ _ _ h => by obtain ⟨_, _, _, _, _, _, q, _⟩ := h; cases q⟩
end
end DV
end
section
set_option Elab.async false
set_option linter.all false
set_option maxRecDepth 100000
namespace DV
open PySem PySem.Spec PyProof.Rows L2

/-! ### slots stored, taken, frozen -/
section
variable {K : PySem.W.Frag} {γ : List Addr} {e e1 e2 : En} {σ : L2.St} {H H1 H2 : Hp} {Z Z0 Z1 Z2 : Addr → Prop}
theorem set_get {α : Type} {l : List (Option α)} {i j : Nat} {x : Option α} {y : α} (h : (l.set i x)[j]? = some (some y)) : (j = i ∧ x = some y) ∨ (j ≠ i ∧ l[j]? = some (some y)) := by
  by_cases e : j = i
  · subst e
    by_cases hl : j < l.length
    · rw [List.getElem?_set_self hl] at h; cases h; exact .inl ⟨rfl, rfl⟩
    · rw [List.getElem?_eq_none (by simpa using hl)] at h; cases h
  · rw [List.getElem?_set_ne (Ne.symm e)] at h; exact .inr ⟨e, h⟩
abbrev En.st (e : En) (i : Nat) (s : Option Sl) : En := { e with ρ := e.ρ.set i s }
/-- a slot that holds no mutable object gets a value (or nothing) -/
theorem Rep.put {i : Nat} {s : Sl} {v : V} (R : Rep K γ e σ H Z) (hi : i < e.ρ.length) (hm : s.isMu = false) (ok : SlOk K γ H (Hid γ e.ρ σ Z) s v) : Rep K γ (e.st i (some s)) (σ.set i (some v)) H Z := by
  have hσ : i < σ.length := by rw [R.len]; exact hi
  have mm : ∀ {a : Addr}, MutA (e.st i (some s)).ρ (σ.set i (some v)) a → MutA e.ρ σ a := fun {a} ⟨j, x, h1, m, h2⟩ => by
    rcases set_get h1 with ⟨rfl, e1⟩ | ⟨ne, h1⟩
    · cases e1; rw [hm] at m; cases m
    · rw [List.getElem?_set_ne (Ne.symm ne)] at h2
      exact ⟨j, x, h1, m, h2⟩
  have st : Stay H H (Hid γ e.ρ σ Z) (Hid γ (e.st i (some s)).ρ (σ.set i (some v)) Z) := stay_refl fun a o _ z => z.imp mm id
  refine ⟨by simp [R.len], fun j x h => ?_, fun j x a h m h2 => ?_, fun j d a h h2 j' x h3 m h4 => ?_, R.cl, R.nd, R.cell, R.cz, R.zt⟩
  · rcases set_get h with ⟨rfl, e1⟩ | ⟨ne, h⟩
    · cases e1
      exact ⟨v, List.getElem?_set_self hσ, ok.stay st fun _ _ _ o ho => ho⟩
    · obtain ⟨w, hw, q⟩ := R.slot j x h
      exact ⟨w, by rw [List.getElem?_set_ne (Ne.symm ne)]; exact hw, q.stay st fun _ _ _ o ho => ho⟩
  · rcases set_get h with ⟨rfl, e1⟩ | ⟨ne, h⟩
    · cases e1; rw [hm] at m; cases m
    · rw [List.getElem?_set_ne (Ne.symm ne)] at h2
      exact R.mu j x a h m h2
  · rcases set_get h with ⟨rfl, e1⟩ | ⟨ne, h⟩
    · cases e1; cases hm
    · rcases set_get h3 with ⟨rfl, e1⟩ | ⟨ne', h3⟩
      · cases e1; rw [hm] at m; cases m
      · rw [List.getElem?_set_ne (Ne.symm ne)] at h2
        rw [List.getElem?_set_ne (Ne.symm ne')] at h4
        exact R.own j d a h h2 j' x h3 m h4
/-- a slot gets a new object of its own -/
theorem Rep.putOw {i : Nat} {d : D} {p : Addr} (R : Rep K γ e σ H Z) (hi : i < e.ρ.length) (hp : Z p) (c : Ct K H (Hid γ e.ρ σ Z) p d) : Rep K γ (e.st i (some (.ow d))) (σ.set i (some (.ref p))) H fun a => Z a ∧ a ≠ p := by
  have hσ : i < σ.length := by rw [R.len]; exact hi
  have mm : ∀ {a : Addr}, MutA (e.st i (some (.ow d))).ρ (σ.set i (some (.ref p))) a → MutA e.ρ σ a ∨ a = p := fun {a} ⟨j, x, h1, m, h2⟩ => by
    rcases set_get h1 with ⟨rfl, e1⟩ | ⟨ne, h1⟩
    · rw [List.getElem?_set_self hσ] at h2
      cases h2; exact .inr rfl
    · rw [List.getElem?_set_ne (Ne.symm ne)] at h2
      exact .inl ⟨j, x, h1, m, h2⟩
  have st : Stay H H (Hid γ e.ρ σ Z) (Hid γ (e.st i (some (.ow d))).ρ (σ.set i (some (.ref p))) fun a => Z a ∧ a ≠ p) := stay_refl fun a o _ z => by
    rcases z with z | z | z
    · rcases mm z with z | z
      · exact .inl z
      · exact .inr (.inr (by rw [z]; exact hp))
    · exact .inr (.inl z)
    · exact .inr (.inr z.1)
  refine ⟨by simp [R.len], fun j x h => ?_, fun j x a h m h2 => ?_, fun j d' a h h2 j' x h3 m h4 => ?_, R.cl, R.nd, R.cell, fun a ha z => R.cz a ha z.1, fun a z => R.zt a z.1⟩
  · rcases set_get h with ⟨rfl, e1⟩ | ⟨ne, h⟩
    · cases e1
      exact ⟨_, List.getElem?_set_self hσ, p, rfl, c.stay st fun o ho => ho⟩
    · obtain ⟨w, hw, q⟩ := R.slot j x h
      exact ⟨w, by rw [List.getElem?_set_ne (Ne.symm ne)]; exact hw, q.stay st fun _ _ _ o ho => ho⟩
  · rcases set_get h with ⟨rfl, e1⟩ | ⟨ne, h⟩
    · rw [List.getElem?_set_self hσ] at h2
      cases h2
      exact ⟨fun z => z.2 rfl, fun z => R.cz p z hp⟩
    · rw [List.getElem?_set_ne (Ne.symm ne)] at h2
      exact ⟨fun z => (R.mu j x a h m h2).1 z.1, (R.mu j x a h m h2).2⟩
  · rcases set_get h with ⟨q0, e1⟩ | ⟨ne, g0⟩
    · subst q0
      rw [List.getElem?_set_self hσ] at h2
      cases h2
      rcases set_get h3 with ⟨q1, e1⟩ | ⟨ne', h3⟩
      · exact q1
      · rw [List.getElem?_set_ne (Ne.symm ne')] at h4
        exact absurd hp (R.mu j' x p h3 m h4).1
    · rw [List.getElem?_set_ne (Ne.symm ne)] at h2
      rcases set_get h3 with ⟨q1, e1⟩ | ⟨ne', h3⟩
      · subst q1
        rw [List.getElem?_set_self hσ] at h4
        cases h4
        exact absurd hp (R.mu j _ p g0 rfl h2).1
      · rw [List.getElem?_set_ne (Ne.symm ne')] at h4
        exact R.own j d' a g0 h2 j' x h3 m h4
/-- a slot is emptied -/
theorem Rep.clear {i : Nat} (R : Rep K γ e σ H Z) : Rep K γ (e.st i none) σ H Z := by
  have gg : ∀ {j : Nat} {x : Sl}, (e.st i none).ρ[j]? = some (some x) → e.ρ[j]? = some (some x) := fun {j x} h => by
    rcases set_get h with ⟨rfl, e1⟩ | ⟨ne, h⟩
    · cases e1
    · exact h
  have st : Stay H H (Hid γ e.ρ σ Z) (Hid γ (e.st i none).ρ σ Z) := stay_refl fun a o _ z => z.imp (fun ⟨j, x, h1, m, h2⟩ => ⟨j, x, gg h1, m, h2⟩) id
  refine ⟨by simp [R.len], fun j x h => ?_, fun j x a h m h2 => R.mu j x a (gg h) m h2, fun j d a h h2 j' x h3 m h4 => R.own j d a (gg h) h2 j' x (gg h3) m h4, R.cl, R.nd, R.cell, R.cz, R.zt⟩
  obtain ⟨w, hw, q⟩ := R.slot j x (gg h)
  exact ⟨w, hw, q.stay st fun _ _ _ o ho => ho⟩
/-- a slot's own object is taken out -/
theorem Rep.take {i : Nat} {d : D} (R : Rep K γ e σ H Z) (h : e.ρ[i]? = some (some (.ow d))) : ∃ a, σ[i]? = some (some (.ref a)) ∧ ¬ Z a ∧ a ∉ γ ∧ Rep K γ (e.st i none) σ H (fun b => Z b ∨ b = a) ∧ Ct K H (Hid γ (e.st i none).ρ σ fun b => Z b ∨ b = a) a d := by
  obtain ⟨v, hv, a, rfl, c⟩ := R.slot i _ h
  obtain ⟨nz, ng⟩ := R.mu i _ a h rfl hv
  have gg : ∀ {j : Nat} {x : Sl}, (e.st i none).ρ[j]? = some (some x) → j ≠ i ∧ e.ρ[j]? = some (some x) := fun {j x} h => by
    rcases set_get h with ⟨rfl, e1⟩ | ⟨ne, h⟩
    · cases e1
    · exact ⟨ne, h⟩
  have st : Stay H H (Hid γ e.ρ σ Z) (Hid γ (e.st i none).ρ σ fun b => Z b ∨ b = a) := stay_refl fun b o _ z => by
    rcases z with ⟨j, x, h1, m, h2⟩ | z | z | z
    · exact .inl ⟨j, x, (gg h1).2, m, h2⟩
    · exact .inr (.inl z)
    · exact .inr (.inr z)
    · rw [z]; exact .inl ⟨i, _, h, rfl, hv⟩
  refine ⟨a, hv, nz, ng, ⟨by simp [R.len], fun j x h' => ?_, fun j x b h' m h2 => ?_, fun j d' b h' h2 j' x h3 m h4 => R.own j d' b (gg h').2 h2 j' x (gg h3).2 m h4, R.cl, R.nd, R.cell, fun b hb z => ?_, fun b z => ?_⟩, c.stay st fun o ho => ho⟩
  · obtain ⟨w, hw, q⟩ := R.slot j x (gg h').2
    exact ⟨w, hw, q.stay st fun _ _ _ o ho => ho⟩
  · refine ⟨fun z => ?_, (R.mu j x b (gg h').2 m h2).2⟩
    rcases z with z | z
    · exact (R.mu j x b (gg h').2 m h2).1 z
    · subst z
      exact (gg h').1 (R.own i d b h hv j x (gg h').2 m h2)
  · rcases z with z | z
    · exact R.cz b hb z
    · subst z; exact ng hb
  · rcases z with z | z
    · exact R.zt b z
    · subst z; exact c.there
/-- a slot's own object stands still from now on -/
theorem Rep.frz {i : Nat} {d : D} (R : Rep K γ e σ H Z) (h : e.ρ[i]? = some (some (.ow d))) : ∃ a, σ[i]? = some (some (.ref a)) ∧ Rep K γ (e.st i (some (.fz d))) σ H Z ∧ Rp K H (Hid γ (e.st i (some (.fz d))).ρ σ Z) (.ref a) d := by
  obtain ⟨a, hv, nz, ng, R1, c⟩ := R.take h
  have hi : i < e.ρ.length := (List.getElem?_eq_some_iff.mp h).1
  have R2 : Rep K γ (e.st i none) σ H Z := R1.down fun b z => .inl z
  have nm : ¬ Hid γ (e.st i none).ρ σ Z a := fun z => by
    rcases z with ⟨j, x, h1, m, h2⟩ | z | z
    · have q := (R1.mu j x a h1 m h2).1
      exact q (.inr rfl)
    · exact ng z
    · exact nz z
  have st : Stay H H (Hid γ (e.st i none).ρ σ fun b => Z b ∨ b = a) (Hid γ (e.st i none).ρ σ Z) := stay_refl fun b o _ z => z.imp id (Or.imp id .inl)
  have rp : Rp K H (Hid γ (e.st i none).ρ σ Z) (.ref a) d := by
    rcases c with ⟨xs, ds, rfl, q, r⟩ | ⟨ks, kvs, rfl, q, r⟩
    · exact .lst (.inl ⟨.inl q, nm⟩) (r.stay st)
    · exact .dct q nm (r.stay st)
  have R3 := R2.put (i := i) (s := .fz d) (v := .ref a) (by simpa using hi) rfl rp
  have es : (e.st i none).st i (some (.fz d)) = e.st i (some (.fz d)) := by simp [En.st, List.set_set]
  have eσ : σ.set i (some (.ref a)) = σ := by
    refine List.ext_getElem? fun j => ?_
    by_cases e : j = i
    · subst e; rw [List.getElem?_set_self (List.getElem?_eq_some_iff.mp hv).1, hv]
    · rw [List.getElem?_set_ne (Ne.symm e)]
  rw [es, eσ] at R3
  refine ⟨a, hv, R3, Rp.stay (stay_refl fun b o _ z => ?_) d rp⟩
  rcases z with ⟨j, x, h1, m, h2⟩ | z
  · rcases set_get h1 with ⟨rfl, e1⟩ | ⟨ne, h1⟩
    · cases e1; cases m
    · exact .inl ⟨j, x, by show (e.ρ.set i none)[j]? = _; rw [List.getElem?_set_ne (Ne.symm ne)]; exact h1, m, h2⟩
  · exact .inr z
theorem Sh.st {i : Nat} {s : Option Sl} (h : ∀ d, e.ρ[i]? ≠ some (some (.bo d))) (hs : ∀ x, s = some x → x.isMu = false) : Sh e (e.st i s) := by
  refine ⟨fun j x h1 m => ?_, fun j d h1 => ?_, fun j d h1 => ?_, by simp⟩
  · rcases set_get h1 with ⟨rfl, e1⟩ | ⟨ne, h1⟩
    · rw [hs x e1] at m; cases m
    · exact ⟨x, h1, m, id⟩
  · show (e.ρ.set i s)[j]? = _
    by_cases q : j = i
    · subst q; exact absurd h1 (h d)
    · rw [List.getElem?_set_ne (Ne.symm q)]; exact h1
  · rcases set_get h1 with ⟨rfl, e1⟩ | ⟨ne, h1⟩
    · exact absurd (hs _ e1) (by simp [Sl.isMu])
    · exact h1
/-- handed on for good -/
theorem als_ok {r : Rs} {v : V} {d : D} (q : als r e = some (d, e1)) (h0 : ∀ a, Z a → Z1 a) (R : Rep K γ e σ H Z1) (h : RsOk K γ H e σ Z Z1 r v) :
    ∃ Z2, (∀ a, Z a → Z2 a) ∧ (∀ a, Z2 a → Z1 a) ∧ Rep K γ e1 σ H Z2 ∧ Rp K H (Hid γ e1.ρ σ Z2) v d ∧ Sh e e1 := by
  cases r with
  | fz d0 => cases q; exact ⟨Z1, h0, fun _ z => z, R, h, Sh.refl e⟩
  | fr d0 =>
    cases q
    obtain ⟨p, rfl, hp, np, c⟩ := h
    refine ⟨fun a => Z1 a ∧ a ≠ p, fun a z => ⟨h0 a z, fun e => np (e ▸ z)⟩, fun a z => z.1, R.down fun a z => z.1, ?_, Sh.refl e⟩
    have nm : ¬ Hid γ e.ρ σ (fun a => Z1 a ∧ a ≠ p) p := fun z => by
      rcases z with ⟨j, x, h1, m, h2⟩ | z | z
      · exact (R.mu j x p h1 m h2).1 hp
      · exact R.cz p z hp
      · exact z.2 rfl
    have st : Stay H H (Hid γ e.ρ σ Z1) (Hid γ e.ρ σ fun a => Z1 a ∧ a ≠ p) := stay_refl fun b o _ z => z.imp id (Or.imp id (·.1))
    rcases c with ⟨xs, ds, rfl, q, r⟩ | ⟨ks, kvs, rfl, q, r⟩
    · exact .lst (.inl ⟨.inl q, nm⟩) (r.stay st)
    · exact .dct q nm (r.stay st)
  | sl i =>
    have q' : (match e.ρ[i]? with
      | some (some (.fz d)) => some (d, e)
      | some (some (.ow d)) => some (d, { e with ρ := e.ρ.set i (some (.fz d)) })
      | _ => none) = some (d, e1) := q
    have hx : σ[i]? = some (some v) := h
    cases q2 : e.ρ[i]? with
    | none => rw [q2] at q'; cases q'
    | some o =>
      cases o with
      | none => rw [q2] at q'; cases q'
      | some s =>
        rw [q2] at q'
        cases s with
        | fz d0 =>
          cases q'
          obtain ⟨w, hw, ok⟩ := R.slot i _ q2
          rw [hx] at hw; cases hw
          exact ⟨Z1, h0, fun _ z => z, R, ok, Sh.refl e⟩
        | ow d0 =>
          cases q'
          obtain ⟨a, ha, R1, rp⟩ := R.frz q2
          rw [hx] at ha; cases ha
          exact ⟨Z1, h0, fun _ z => z, R1, rp, Sh.st (fun d' z => by rw [q2] at z; cases z) fun x e => by cases e; rfl⟩
        | bo d0 => cases q'
        | pt k => cases q'
end

/-! ### values handed on for good, one behind another -/
def consF (fa : M Rs) (fs : M (List D)) : M (List D) := bnd fa fun a => bnd (als a) fun d => bnd fs fun ds => ret (d :: ds)
def tF (K : PySem.W.Frag) (f : M (List D)) : TA := fun σ H Q => ∃ γ e Z ds e', Rep K γ e σ H Z ∧ f e = some (ds, e') ∧ ∀ vs H', Kp γ e.ρ σ H H' → Sh e e' →
  (∃ Z' : Addr → Prop, (∀ a, Z a → Z' a) ∧ (∀ a, Z' a → Z a ∨ H a = none) ∧ Rep K γ e' σ H' Z' ∧ RpL K H' (Hid γ e'.ρ σ Z') vs ds) → Q vs H'
section
variable {X : Cx} {K : PySem.W.Frag} {e : Expr} {es : List Expr}
theorem tF_nil : ∀ σ H Q, tF K (ret []) σ H Q → tNil σ H Q := by
  rintro σ H Q ⟨γ, e, Z, res, e', R, h, k⟩
  cases h
  exact k [] H (Kp.refl H) (Sh.refl e) ⟨Z, fun _ z => z, fun _ z => .inl z, R, .nil⟩
theorem tF_cons {fa : M Rs} {fs : M (List D)} : ∀ σ H Q, tF K (consF fa fs) σ H Q → tCons (tE K fa) (tF K fs) σ H Q := by
  rintro σ H Q ⟨γ, e, Z, res, e', R, h, k⟩
  obtain ⟨ra, e1, h1, ha⟩ := bnd_eq h
  obtain ⟨d, e2, h2, hb⟩ := bnd_eq ha
  obtain ⟨ds, e3, h3, hc⟩ := bnd_eq hb
  cases hc
  refine ⟨γ, e, Z, ra, e1, R, h1, fun x H1 kp sh P => ?_⟩
  obtain ⟨Z1, h01, hf, R1, A1⟩ := P.one
  obtain ⟨Z2, h02, h21, R2, rp, sh2⟩ := als_ok h2 h01 R1 A1
  refine ⟨γ, e2, Z2, ds, _, R2, h3, fun xs H2 kp2 sh3 P2 => ?_⟩
  obtain ⟨Z3, h23, hf3, R3, rpl⟩ := P2
  refine k (x :: xs) H2 (kp.trans (sh.trans sh2) kp2) ((sh.trans sh2).trans sh3) ⟨Z3, fun a z => h23 a (h02 a z), fun a z => ?_, R3, .cons (Rp.stay (stay_of kp2 sh3 hf3) d rp) rpl⟩
  rcases hf3 a z with z | z
  · exact hf a (h21 a z)
  · exact .inr (kp.none z)
theorem df_nil : PA X [] (tF X.K (ret [])) := PA.weak pa_nil tF_nil
theorem df_cons {fa : M Rs} {fs : M (List D)} (ha : PE X e (tE X.K fa)) (hr : PA X es (tF X.K fs)) (hs : starEach (e :: es) X.env = (false, eval e X.env) :: starEach es X.env := by rfl) : PA X (e :: es) (tF X.K (consF fa fs)) :=
  PA.weak (pa_cons ha hr hs) tF_cons
/-- displays -/
def tupM (fs : M (List D)) : M Rs := bnd fs fun ds => if ds.length ≤ 1000 then ret (.fz (.tuple ds)) else noM
def lstM (fs : M (List D)) : M Rs := bnd fs fun ds => if ds.length ≤ 1000 then ret (.fr (.list ds)) else noM
theorem le1000 {n : Nat} (h : n ≤ 1000) : n ≤ sizeLine := Nat.le_of_lt (small1000 h)
theorem de_tup {fs : M (List D)} {j pos} (h : PA X es (tF X.K fs)) : PE X (.Tuple es j pos) (tE X.K (tupM fs)) := by
  refine PE.weak (pe_tup h) ?_
  rintro σ H Q ⟨γ, e, Z, res, e', R, h, k⟩
  obtain ⟨ds, e1, h1, ha⟩ := bnd_eq h
  by_cases hl : ds.length ≤ 1000
  · simp only [if_pos hl] at ha
    cases ha
    refine ⟨γ, e, Z, ds, _, R, h1, fun vs H1 kp sh P => ?_⟩
    obtain ⟨Z1, h01, hf, R1, rp⟩ := P
    refine ⟨by rw [rp.length]; exact le1000 hl, fun p hp => ?_⟩
    obtain ⟨kp2, P2⟩ := (Gr.tup (Same.refl H1) hp rp).pst R1
    exact k _ _ (kp.trans sh kp2) sh (Pst.next (rs0 := []) (xs0 := []) kp h01 hf P2)
  · simp only [if_neg hl] at ha; cases ha
theorem de_lst {fs : M (List D)} {pos} (h : PA X es (tF X.K fs)) : PE X (.List es pos) (tE X.K (lstM fs)) := by
  refine PE.weak (pe_lst h) ?_
  rintro σ H Q ⟨γ, e, Z, res, e', R, h, k⟩
  obtain ⟨ds, e1, h1, ha⟩ := bnd_eq h
  by_cases hl : ds.length ≤ 1000
  · simp only [if_pos hl] at ha
    cases ha
    refine ⟨γ, e, Z, ds, _, R, h1, fun vs H1 kp sh P => ?_⟩
    obtain ⟨Z1, h01, hf, R1, rp⟩ := P
    refine ⟨by rw [rp.length]; exact le1000 hl, fun p hp => ?_⟩
    obtain ⟨kp2, P2⟩ := (Gr.lst (Same.refl H1) hp rp).pst R1
    exact k _ _ (kp.trans sh kp2) sh (Pst.next (rs0 := []) (xs0 := []) kp h01 hf P2)
  · simp only [if_neg hl] at ha; cases ha
/-- {} -/
theorem de_dnew {pos} : PE X (.Dict [] [] pos) (tE X.K (ret (.fr (.dict [])))) := by
  refine PE.weak pe_dnewK ?_
  rintro σ H Q ⟨γ, e, Z, res, e', R, h, k⟩
  cases h
  intro p hp
  obtain ⟨kp2, P2⟩ := (Gr.dct (K := X.K) (O := Hid γ e.ρ σ Z) (Same.refl H) hp .nil).pst R
  exact k _ _ kp2 (Sh.refl e) P2
end
end DV
end
section
set_option Elab.async false
set_option linter.all false
set_option maxRecDepth 100000
namespace DV
open PySem PySem.Spec PyProof.Rows L2

/-! ### steps of a body -/
structure Stp (γ : List Addr) (e : En) (σ : L2.St) (H : Hp) (γ' : List Addr) (e' : En) (σ' : L2.St) (H' : Hp) : Prop where
  pre : ∃ δ, γ' = γ ++ δ
  nw : ∀ a ∈ γ', a ∈ γ ∨ H a = none
  st : ∀ a o, H a = some o → ¬ OwnA e.ρ σ a → a ∉ γ → H' a = some o
  th : ∀ a o, H a = some o → ∃ o', H' a = some o'
  mu : ∀ a, MutA e'.ρ σ' a → MutA e.ρ σ a ∨ H a = none
  ow : ∀ a, OwnA e'.ρ σ' a → OwnA e.ρ σ a ∨ H a = none
  bo : ∀ (i : Nat) (d : D), e.ρ[i]? = some (some (Sl.bo d)) → e'.ρ[i]? = some (some (Sl.bo d)) ∧ σ'[i]? = σ[i]?
  bb : ∀ (i : Nat) (d : D), e'.ρ[i]? = some (some (Sl.bo d)) → e.ρ[i]? = some (some (Sl.bo d))
  ln : e'.ρ.length = e.ρ.length
section
variable {K : PySem.W.Frag} {γ γ' γ'' : List Addr} {e e' e'' : En} {σ σ' σ'' : L2.St} {H H' H'' : Hp} {Z Z' : Addr → Prop}
theorem Stp.none (s : Stp γ e σ H γ' e' σ' H') {a : Addr} (h : H' a = Option.none) : H a = Option.none := by
  cases q : H a with
  | none => rfl
  | some o => obtain ⟨o', h'⟩ := s.th a o q; rw [h] at h'; cases h'
theorem Stp.refl : Stp γ e σ H γ e σ H := ⟨⟨[], by simp⟩, fun _ h => .inl h, fun _ _ h _ _ => h, fun _ o h => ⟨o, h⟩, fun _ h => .inl h, fun _ h => .inl h, fun _ _ h => ⟨h, rfl⟩, fun _ _ h => h, rfl⟩
theorem Stp.trans (a : Stp γ e σ H γ' e' σ' H') (b : Stp γ' e' σ' H' γ'' e'' σ'' H'') : Stp γ e σ H γ'' e'' σ'' H'' where
  pre := by
    obtain ⟨d1, h1⟩ := a.pre
    obtain ⟨d2, h2⟩ := b.pre
    exact ⟨d1 ++ d2, by rw [h2, h1, List.append_assoc]⟩
  nw := fun c hc => by
    rcases b.nw c hc with z | z
    · exact a.nw c z
    · exact .inr (a.none z)
  st := fun c o h n g => b.st c o (a.st c o h n g) (fun z => by
    rcases a.ow c z with z | z
    · exact n z
    · rw [h] at z; cases z) fun z => by
    rcases a.nw c z with z | z
    · exact g z
    · rw [h] at z; cases z
  th := fun c o h => let ⟨o', h'⟩ := a.th c o h; b.th c o' h'
  mu := fun c h => by
    rcases b.mu c h with z | z
    · exact a.mu c z
    · exact .inr (a.none z)
  ow := fun c h => by
    rcases b.ow c h with z | z
    · exact a.ow c z
    · exact .inr (a.none z)
  bo := fun i d h => by
    obtain ⟨h1, h2⟩ := a.bo i d h
    obtain ⟨h3, h4⟩ := b.bo i d h1
    exact ⟨h3, h4.trans h2⟩
  bb := fun i d h => a.bb i d (b.bb i d h)
  ln := b.ln.trans a.ln
theorem Stp.ev (kp : Kp γ e.ρ σ H H') (sh : Sh e e') : Stp γ e σ H γ e' σ H' := ⟨⟨[], by simp⟩, fun _ h => .inl h, kp.st, kp.th, fun _ h => .inl (sh.mu h), fun _ h => .inl (sh.own h), fun i d h => ⟨sh.bo i d h, rfl⟩, sh.bb, sh.ln⟩
theorem Stp.stay (s : Stp γ e σ H γ' e' σ' H') (hz : ∀ a, Z' a → Z a ∨ H a = Option.none) : Stay H H' (Hid γ e.ρ σ Z) (Hid γ' e'.ρ σ' Z') := fun a o h n => by
  refine ⟨s.st a o h (fun z => n (.inl z.mu)) (fun z => n (.inr (.inl z))), fun z => ?_⟩
  rcases z with z | z | z
  · rcases s.mu a z with z | z
    · exact n (.inl z)
    · rw [h] at z; cases z
  · rcases s.nw a z with z | z
    · exact n (.inr (.inl z))
    · rw [h] at z; cases z
  · rcases hz a z with z | z
    · exact n (.inr (.inr z))
    · rw [h] at z; cases z
end

inductive Fl where
  | nx | bk | ct | rt (r : Rs)
/-- what stands behind a return -/
def Prt (K : PySem.W.Frag) (H : Hp) (e : En) (σ : L2.St) (Z : Addr → Prop) (γ' : List Addr) (e' : En) (σ' : L2.St) (r : Rs) (v : V) (H' : Hp) : Prop :=
  ∃ Z' : Addr → Prop, (∀ a, Z a → Z' a) ∧ (∀ a, Z' a → Z a ∨ H a = none ∨ OwnA e.ρ σ a) ∧ Rep K γ' e' σ' H' Z' ∧ RsOk K γ' H' e' σ' Z Z' r v
def Ends.at (D : Ends) (K : PySem.W.Frag) (γ : List Addr) (e : En) (σ : L2.St) (H : Hp) (Z : Addr → Prop) (e' : En) : Fl → Prop
  | .nx => ∀ γ' σ' H', Stp γ e σ H γ' e' σ' H' → Rep K γ' e' σ' H' Z → D.nx σ' H'
  | .bk => ∀ γ' σ' H', Stp γ e σ H γ' e' σ' H' → Rep K γ' e' σ' H' Z → D.bk σ' H'
  | .ct => ∀ γ' σ' H', Stp γ e σ H γ' e' σ' H' → Rep K γ' e' σ' H' Z → D.ct σ' H'
  | .rt r => ∀ γ' σ' v H', Stp γ e σ H γ' e' σ' H' → Prt K H e σ Z γ' e' σ' r v H' → D.rt v H'
def tS (K : PySem.W.Frag) (f : M Fl) : TS := fun D σ H => ∃ γ e Z fl e', Rep K γ e σ H Z ∧ f e = some (fl, e') ∧ Ends.at D K γ e σ H Z e' fl
section
variable {X : Cx} {K : PySem.W.Frag} {γ γ' γ'' : List Addr} {e e' e'' : En} {σ σ' σ'' : L2.St} {H H' H'' : Hp} {Z Z' : Addr → Prop} {D : Ends}
theorem Prt.back (s : Stp γ e σ H γ' e' σ' H') {r : Rs} {v : V} (p : Prt K H' e' σ' Z γ'' e'' σ'' r v H'') : Prt K H e σ Z γ'' e'' σ'' r v H'' := by
  obtain ⟨Z1, h1, h2, h3, h4⟩ := p
  refine ⟨Z1, h1, fun a z => ?_, h3, h4⟩
  rcases h2 a z with z | z | z
  · exact .inl z
  · exact .inr (.inl (s.none z))
  · rcases s.ow a z with z | z
    · exact .inr (.inr z)
    · exact .inr (.inl z)
/-- an end told from a later point -/
theorem Ends.back (s : Stp γ e σ H γ' e' σ' H') {fl : Fl} (h : Ends.at D K γ e σ H Z e'' fl) : Ends.at D K γ' e' σ' H' Z e'' fl := by
  cases fl with
  | nx => exact fun g t h2 s2 R => h g t h2 (s.trans s2) R
  | bk => exact fun g t h2 s2 R => h g t h2 (s.trans s2) R
  | ct => exact fun g t h2 s2 R => h g t h2 (s.trans s2) R
  | rt r => exact fun g t v h2 s2 p => h g t v h2 (s.trans s2) (p.back s)
def seqM (f g : M Fl) : M Fl := fun e => match f e with
  | some (.nx, e1) => g e1
  | o => o
theorem tS_seq {f g : M Fl} : ∀ D σ H, tS K (seqM f g) D σ H → tSeq (tS K f) (tS K g) D σ H := by
  rintro D σ H ⟨γ, e, Z, fl, e', R, h, k⟩
  have h' : (match f e with
    | some (.nx, e1) => g e1
    | o => o) = some (fl, e') := h
  cases q : f e with
  | none => rw [q] at h'; cases h'
  | some p =>
    obtain ⟨fl1, e1⟩ := p
    rw [q] at h'
    cases fl1 with
    | nx => exact ⟨γ, e, Z, .nx, e1, R, q, fun γ1 σ1 H1 s R1 => ⟨γ1, e1, Z, fl, e', R1, h', Ends.back s k⟩⟩
    | bk => cases h'; exact ⟨γ, e, Z, .bk, e', R, q, k⟩
    | ct => cases h'; exact ⟨γ, e, Z, .ct, e', R, q, k⟩
    | rt r => cases h'; exact ⟨γ, e, Z, .rt r, e', R, q, k⟩
theorem dss_cons {st : Stmt} {rest : List Stmt} {f g : M Fl} (h1 : PS X st (tS X.K f)) (h2 : PSs X rest (tS X.K g)) : PSs X (st :: rest) (tS X.K (seqM f g)) := PSs.weak (pss_cons h1 h2) tS_seq
theorem dss_one {st : Stmt} {f : M Fl} (h1 : PS X st (tS X.K f)) : PSs X [st] (tS X.K f) := pss_one h1
theorem tS_nil : ∀ D σ H, tS K (ret .nx) D σ H → tNext D σ H := by
  rintro D σ H ⟨γ, e, Z, fl, e', R, h, k⟩
  cases h
  exact k γ σ H Stp.refl R
theorem dss_nil : PSs X [] (tS X.K (ret .nx)) := PSs.weak pss_nil tS_nil
theorem ds_pass {pos : Pos} : PS X (.Pass pos) (tS X.K (ret .nx)) := PS.weak ps_pass tS_nil
theorem ds_no {st : Stmt} : PS X st (tS X.K noM) := ⟨fun _ _ _ _ _ _ h => by obtain ⟨_, _, _, _, _, _, q, _⟩ := h; cases q⟩
theorem ds_break {pos : Pos} : PS X (.Break pos) (tS X.K (ret .bk)) := PS.weak ps_break (by
  rintro D σ H ⟨γ, e, Z, fl, e', R, h, k⟩
  cases h
  exact k γ σ H Stp.refl R)
theorem ds_continue {pos : Pos} : PS X (.Continue pos) (tS X.K (ret .ct)) := PS.weak ps_continue (by
  rintro D σ H ⟨γ, e, Z, fl, e', R, h, k⟩
  cases h
  exact k γ σ H Stp.refl R)
/-- if -/
def iteM {α : Type} (c : M Bool) (f g : M α) : M α := bnd c fun b => if b = true then f else g
theorem tS_if {c : M Bool} {f g : M Fl} : ∀ D σ H, tS K (iteM c f g) D σ H → tIfS (tT K c) (tS K f) (tS K g) D σ H := by
  rintro D σ H ⟨γ, e, Z, fl, e', R, h, k⟩
  obtain ⟨b, e1, h1, h2⟩ := bnd_eq h
  refine ⟨γ, e, Z, b, e1, R, h1, fun H1 kp sh R1 => ?_⟩
  cases b with
  | true => rw [if_pos rfl] at h2 ⊢; exact ⟨γ, e1, Z, fl, e', R1, h2, Ends.back (Stp.ev kp sh) k⟩
  | false => rw [if_neg Bool.false_ne_true] at h2 ⊢; exact ⟨γ, e1, Z, fl, e', R1, h2, Ends.back (Stp.ev kp sh) k⟩
theorem ds_if {c : Expr} {a b : List Stmt} {pos : Pos} {tc : M Bool} {f g : M Fl} (hc : PT X c (tT X.K tc)) (ha : PSs X a (tS X.K f)) (hb : PSs X b (tS X.K g)) : PS X (.If c a b pos) (tS X.K (iteM tc f g)) := PS.weak (ps_if hc ha hb) tS_if
/-- an expression for its effect -/
def drpM (f : M Rs) : M Fl := bnd f fun _ => ret .nx
theorem ds_expr {e : Expr} {pos : Pos} {f : M Rs} (he : PE X e (tE X.K f)) (hs : swapsWith e none pos.line X.env = pure false := by rfl) : PS X (.Expr e pos) (tS X.K (drpM f)) := PS.weak (ps_expr he hs) (by
  rintro D σ H ⟨γ, e, Z, fl, e', R, h, k⟩
  obtain ⟨r, e1, h1, h2⟩ := bnd_eq h
  cases h2
  exact ⟨γ, e, Z, r, e', R, h1, fun v H1 kp sh P => k γ σ H1 (Stp.ev kp sh) P.rep⟩)

/-! ### a name stored -/
def asg1 (i : Nat) (r : Rs) (e : En) : Option (Unit × En) := match r with
    | .fz d => some ((), e.st i (some (.fz d)))
    | .fr d => some ((), e.st i (some (.ow d)))
    | .sl j => match e.ρ[j]? with
      | some (some (.ow d)) => some ((), (e.st j none).st i (some (.ow d)))
      | _ => none
def asg (i : Nat) (r : Rs) : M Unit := fun e => match e.ρ[i]? with
  | none => none
  | some (some (.bo _)) => none
  | _ => asg1 i r e
/-- behind a store -/
theorem asg_ok {i : Nat} {r : Rs} {v : V} {e1 e2 : En} {Z1 : Addr → Prop} (q : asg i r e1 = some ((), e2)) (h01 : ∀ a, Z a → Z1 a) (hz : ∀ a, Z1 a → Z a ∨ H a = none) (s : Stp γ e σ H γ e1 σ H') (R : Rep K γ e1 σ H' Z1)
    (ok : RsOk K γ H' e1 σ Z Z1 r v) : Rep K γ e2 (σ.set i (some v)) H' Z ∧ Stp γ e σ H γ e2 (σ.set i (some v)) H' := by
  unfold asg at q
  have hi : i < e1.ρ.length ∧ ∀ d, e1.ρ[i]? ≠ some (some (.bo d)) := by
    cases q1 : e1.ρ[i]? with
    | none => rw [q1] at q; cases q
    | some o =>
      refine ⟨(List.getElem?_eq_some_iff.mp q1).1, fun d z => ?_⟩
      cases z
      rw [q1] at q; cases q
  obtain ⟨hi, nb⟩ := hi
  have hσ : i < σ.length := by rw [R.len]; exact hi
  have q' : asg1 i r e1 = some ((), e2) := by
    cases q1 : e1.ρ[i]? with
    | none => rw [q1] at q; cases q
    | some o =>
      rw [q1] at q
      cases o with
      | none => exact q
      | some x =>
        cases x with
        | bo d => cases q
        | fz d => exact q
        | ow d => exact q
        | pt k => exact q
  have bo' : ∀ (e2 : En) (w : V), (∀ j : Nat, j ≠ i → ∀ d, e1.ρ[j]? = some (some (.bo d)) → e2.ρ[j]? = some (some (.bo d))) → ∀ (j : Nat) (d : D), e.ρ[j]? = some (some (Sl.bo d)) → e2.ρ[j]? = some (some (Sl.bo d)) ∧ (σ.set i (some w))[j]? = σ[j]? := fun e2 w h j d hj => by
    obtain ⟨h1, _⟩ := s.bo j d hj
    by_cases ej : j = i
    · subst ej; exact absurd h1 (nb d)
    · exact ⟨h j ej d h1, by rw [List.getElem?_set_ne (Ne.symm ej)]⟩
  have bb1 : ∀ (x : Option Sl), (∀ d, x ≠ some (.bo d)) → ∀ (j : Nat) (d : D), (e1.st i x).ρ[j]? = some (some (Sl.bo d)) → e1.ρ[j]? = some (some (Sl.bo d)) := fun x hx j d h => by
    rcases set_get h with ⟨q0, e1'⟩ | ⟨ne, h1⟩
    · exact absurd e1' (hx d)
    · exact h1
  cases r with
  | fz d =>
    cases q'
    have R2 := (R.put (s := .fz d) hi rfl ok).down h01
    have mm : ∀ a, MutA (e1.st i (some (.fz d))).ρ (σ.set i (some v)) a → MutA e1.ρ σ a := fun a ⟨j, x, h1, m, h2⟩ => by
      rcases set_get h1 with ⟨q0, e1'⟩ | ⟨ne, h1⟩
      · cases e1'; cases m
      · rw [List.getElem?_set_ne (Ne.symm ne)] at h2; exact ⟨j, x, h1, m, h2⟩
    have oo : ∀ a, OwnA (e1.st i (some (.fz d))).ρ (σ.set i (some v)) a → OwnA e1.ρ σ a := fun a ⟨j, x, h1, h2⟩ => by
      rcases set_get h1 with ⟨q0, e1'⟩ | ⟨ne, h1⟩
      · cases e1'
      · rw [List.getElem?_set_ne (Ne.symm ne)] at h2; exact ⟨j, x, h1, h2⟩
    exact ⟨R2, s.pre, s.nw, s.st, s.th, fun a h => s.mu a (mm a h), fun a h => s.ow a (oo a h), bo' _ v fun j ne d' h => by show (e1.ρ.set i _)[j]? = _; rw [List.getElem?_set_ne (Ne.symm ne)]; exact h, fun j d' h => s.bb j d' (bb1 _ (fun x => by rintro ⟨⟩) j d' h), by simp [s.ln]⟩
  | fr d =>
    cases q'
    obtain ⟨p, rfl, hp, np, c⟩ := ok
    have hpn : H p = none := (hz p hp).resolve_left np
    have R2 := (R.putOw hi hp c).down fun a z => (⟨h01 a z, fun e => np (e ▸ z)⟩ : Z1 a ∧ a ≠ p)
    have mm : ∀ a, MutA (e1.st i (some (.ow d))).ρ (σ.set i (some (V.ref p))) a → MutA e1.ρ σ a ∨ a = p := fun a ⟨j, x, h1, m, h2⟩ => by
      rcases set_get h1 with ⟨q0, e1'⟩ | ⟨ne, h1⟩
      · subst q0; rw [List.getElem?_set_self hσ] at h2; cases h2; exact .inr rfl
      · rw [List.getElem?_set_ne (Ne.symm ne)] at h2; exact .inl ⟨j, x, h1, m, h2⟩
    have oo : ∀ a, OwnA (e1.st i (some (.ow d))).ρ (σ.set i (some (V.ref p))) a → OwnA e1.ρ σ a ∨ a = p := fun a ⟨j, x, h1, h2⟩ => by
      rcases set_get h1 with ⟨q0, e1'⟩ | ⟨ne, h1⟩
      · subst q0; rw [List.getElem?_set_self hσ] at h2; cases h2; exact .inr rfl
      · rw [List.getElem?_set_ne (Ne.symm ne)] at h2; exact .inl ⟨j, x, h1, h2⟩
    refine ⟨R2, s.pre, s.nw, s.st, s.th, fun a h => ?_, fun a h => ?_, bo' _ _ fun j ne d' h => by show (e1.ρ.set i _)[j]? = _; rw [List.getElem?_set_ne (Ne.symm ne)]; exact h, fun j d' h => s.bb j d' (bb1 _ (fun x => by rintro ⟨⟩) j d' h), by simp [s.ln]⟩
    · rcases mm a h with z | z
      · exact s.mu a z
      · rw [z]; exact .inr hpn
    · rcases oo a h with z | z
      · exact s.ow a z
      · rw [z]; exact .inr hpn
  | sl j =>
    have q2 : (match e1.ρ[j]? with
      | some (some (.ow d)) => some ((), (e1.st j none).st i (some (.ow d)))
      | _ => none) = some ((), e2) := q'
    cases q3 : e1.ρ[j]? with
    | none => rw [q3] at q2; cases q2
    | some o =>
      cases o with
      | none => rw [q3] at q2; cases q2
      | some x =>
        rw [q3] at q2
        cases x with
        | fz d => cases q2
        | bo d => cases q2
        | pt k => cases q2
        | ow d =>
          cases q2
          obtain ⟨a, ha, nz, ng, R1, c⟩ := R.take q3
          have hv : σ[j]? = some (some v) := ok
          rw [ha] at hv
          cases hv
          have R2 := (R1.putOw (i := i) (by simpa using hi) (.inr rfl) c).down fun b z => (⟨.inl (h01 b z), fun e => nz (e ▸ h01 b z)⟩ : (Z1 b ∨ b = a) ∧ b ≠ a)
          have oa : OwnA e1.ρ σ a := ⟨j, d, q3, ha⟩
          have mm : ∀ b, MutA ((e1.st j none).st i (some (.ow d))).ρ (σ.set i (some (V.ref a))) b → MutA e1.ρ σ b := fun b ⟨l, x, h1, m, h2⟩ => by
            rcases set_get h1 with ⟨q0, e1'⟩ | ⟨ne, h1⟩
            · subst q0; rw [List.getElem?_set_self hσ] at h2; cases h2; exact oa.mu
            · rw [List.getElem?_set_ne (Ne.symm ne)] at h2
              rcases set_get h1 with ⟨q0, e1'⟩ | ⟨ne', h1⟩
              · cases e1'
              · exact ⟨l, x, h1, m, h2⟩
          have oo : ∀ b, OwnA ((e1.st j none).st i (some (.ow d))).ρ (σ.set i (some (V.ref a))) b → OwnA e1.ρ σ b := fun b ⟨l, x, h1, h2⟩ => by
            rcases set_get h1 with ⟨q0, e1'⟩ | ⟨ne, h1⟩
            · subst q0; rw [List.getElem?_set_self hσ] at h2; cases h2; exact oa
            · rw [List.getElem?_set_ne (Ne.symm ne)] at h2
              rcases set_get h1 with ⟨q0, e1'⟩ | ⟨ne', h1⟩
              · cases e1'
              · exact ⟨l, x, h1, h2⟩
          refine ⟨R2, s.pre, s.nw, s.st, s.th, fun b h => s.mu b (mm b h), fun b h => s.ow b (oo b h), bo' _ _ fun l ne d' h => ?_, fun l d' h => s.bb l d' ?_, by simp [s.ln]⟩
          rotate_left
          · rcases set_get h with ⟨q0, e1'⟩ | ⟨ne, h1⟩
            · cases e1'
            · rcases set_get h1 with ⟨q0, e1'⟩ | ⟨ne', h1⟩
              · cases e1'
              · exact h1
          show ((e1.ρ.set j none).set i _)[l]? = _
          rw [List.getElem?_set_ne (Ne.symm ne)]
          by_cases e : l = j
          · subst e; rw [q3] at h; cases h
          · rw [List.getElem?_set_ne (Ne.symm e)]; exact h
def setM (i : Nat) (f : M Rs) : M Fl := bnd f fun r => bnd (asg i r) fun _ => ret .nx
theorem ds_set {i : Nat} {x : Str} {e : Expr} {f : M Rs} {pos pos' : Pos} (he : PE X e (tE X.K f)) (hN : X.N.Nodup) (hi : X.N[i]? = some x := by rfl) (hx : Loc X.env.scope x := by first | exact Or.inl rfl | exact Or.inr rfl)
    (hs : swapsWith e (some (.Name x pos')) pos.line X.env = pure false := by rfl) (hf : X.fn x = true ∨ X.env.scope.names.lookup x = some .local := by first | exact .inl rfl | exact .inr rfl | assumption) :
    PS X (.Assign [.Name x pos'] e pos) (tS X.K (setM i f)) := PS.weak (ps_set (i := i) hN hi hx he hs hf) (by
  rintro D σ H ⟨γ, e, Z, fl, e', R, h, k⟩
  obtain ⟨r, e1, h1, h2⟩ := bnd_eq h
  obtain ⟨u, e2, h3, h4⟩ := bnd_eq h2
  cases h4
  refine ⟨γ, e, Z, r, e1, R, h1, fun v H1 kp sh P => ?_⟩
  obtain ⟨Z1, h01, hf, R1, A1⟩ := P.one
  obtain ⟨R2, s2⟩ := asg_ok h3 h01 hf (Stp.ev kp sh) R1 A1
  exact k γ _ H1 s2 R2)

/-! ### return -/
def rtn (r : Rs) : M Fl := fun e => match r with
  | .fz d => some (.rt (.fz d), e)
  | .fr d => some (.rt (.fr d), e)
  | .sl i => match e.ρ[i]? with
    | some (some (.ow d)) => some (.rt (.fr d), e.st i none)
    | _ => none
def retM (f : M Rs) : M Fl := bnd f rtn
theorem ds_ret {e : Expr} {f : M Rs} {pos : Pos} (he : PE X e (tE X.K f)) : PS X (.Return (some e) pos) (tS X.K (retM f)) := PS.weak (ps_ret he) (by
  rintro D σ H ⟨γ, e, Z, fl, e', R, h, k⟩
  obtain ⟨r, e1, h1, h2⟩ := bnd_eq h
  refine ⟨γ, e, Z, r, e1, R, h1, fun v H1 kp sh P => ?_⟩
  obtain ⟨Z1, h01, hf, R1, A1⟩ := P.one
  cases r with
  | fz d => cases h2; exact k γ σ v H1 (Stp.ev kp sh) ⟨Z1, h01, fun a z => (hf a z).imp id .inl, R1, A1⟩
  | fr d => cases h2; exact k γ σ v H1 (Stp.ev kp sh) ⟨Z1, h01, fun a z => (hf a z).imp id .inl, R1, A1⟩
  | sl i =>
    have h3 : (match e1.ρ[i]? with
      | some (some (.ow d)) => some (.rt (.fr d), e1.st i none)
      | _ => none) = some (fl, e') := h2
    cases q : e1.ρ[i]? with
    | none => rw [q] at h3; cases h3
    | some o =>
      cases o with
      | none => rw [q] at h3; cases h3
      | some x =>
        rw [q] at h3
        cases x with
        | fz d => cases h3
        | bo d => cases h3
        | pt d => cases h3
        | ow d =>
          cases h3
          obtain ⟨a, ha, nz, ng, R2, c⟩ := R1.take q
          have hv : σ[i]? = some (some v) := A1
          rw [ha] at hv
          cases hv
          have oa : OwnA e.ρ σ a := sh.own ⟨i, d, q, ha⟩
          refine k γ σ _ H1 ((Stp.ev kp sh).trans (Stp.ev (Kp.refl H1) (Sh.st (fun d' z => by rw [q] at z; cases z) fun x e => by cases e))) ⟨fun b => Z1 b ∨ b = a, fun b z => .inl (h01 b z), fun b z => ?_, R2, a, rfl, .inr rfl, fun z => nz (h01 a z), c⟩
          rcases z with z | z
          · exact (hf b z).imp id .inl
          · rw [z]; exact .inr (.inr oa))
end
end DV
end
section
set_option Elab.async false
set_option linter.all false
set_option maxRecDepth 100000
namespace DV
open PySem PySem.Spec PyProof.Rows L2

/-! ### defs -/
/-- a def's worth: arguments, cells; its result, the cells behind -/
abbrev Fn := List Sl → List (Int × Int) → Option (Rs × List (Int × Int))
def fnOut (m : Nat) : Option (Fl × En) → Option (Rs × List (Int × Int))
  | some (.rt (.fz d), e) => some (.fz d, e.μ.take m)
  | some (.rt (.fr d), e) => some (.fr d, e.μ.take m)
  | some (.nx, e) => some (.fz .none, e.μ.take m)
  | _ => none
/-- np parameters among n names -/
def fnOf (np n : Nat) (body : M Fl) : Fn := fun ss μ =>
  if ss.length = np ∧ ss.all (fun s => !s.isOw) = true then fnOut μ.length (body ⟨ss.map some ++ List.replicate (n - np) none, μ⟩) else none
def spD (K : PySem.W.Frag) (np : Nat) (F : Fn) : Sp := fun vs H Q _ => ∃ γ ss μ Z r μ', Rep K γ ⟨ss.map some, μ⟩ (vs.map some) H Z ∧ ss.length = np ∧ ss.all (fun s => !s.isOw) = true ∧ F ss μ = some (r, μ') ∧
  ∀ v H', Kp γ [] [] H H' → Pst K γ H (vs.map some) Z ⟨ss.map some, μ'⟩ [r] [v] H' → Q v H'
section
variable {K : PySem.W.Frag} {γ γ' : List Addr} {σ σ' : L2.St} {H H' : Hp} {Z Z' : Addr → Prop}
theorem get_start {α : Type} {l : List α} {n i : Nat} {x : α} (h : (l.map some ++ List.replicate n none)[i]? = some (some x)) : l[i]? = some x := by
  by_cases hi : i < l.length
  · rw [List.getElem?_append_left (by simpa using hi), List.getElem?_map] at h
    cases q : l[i]? with
    | none => rw [q] at h; cases h
    | some y => rw [q] at h; cases h; rfl
  · rw [List.getElem?_append_right (by simpa using hi), List.getElem?_replicate] at h
    split at h <;> cases h
theorem get_map {α : Type} {l : List α} {i : Nat} {x : α} (h : (l.map some)[i]? = some (some x)) : l[i]? = some x := by
  rw [List.getElem?_map] at h
  cases q : l[i]? with
  | none => rw [q] at h; cases h
  | some y => rw [q] at h; cases h; rfl
theorem map_get {α : Type} {l : List α} {i : Nat} {x : α} (h : l[i]? = some x) : (l.map some)[i]? = some (some x) := by rw [List.getElem?_map, h]; rfl
theorem start_get {α : Type} {l : List α} {n i : Nat} {x : α} (h : l[i]? = some x) : (l.map some ++ List.replicate n none)[i]? = some (some x) := by
  rw [List.getElem?_append_left (by simpa using (List.getElem?_eq_some_iff.mp h).1)]
  exact map_get h
/-- at the entry -/
theorem Rep.enter {ss : List Sl} {vs : List V} {μ : List (Int × Int)} {N : List Str} {np : Nat} (R : Rep K γ ⟨ss.map some, μ⟩ (vs.map some) H Z) (hl : ss.length = np) : Rep K γ ⟨ss.map some ++ List.replicate (N.length - np) none, μ⟩ (L2.start N vs) H Z := by
  have lv : vs.length = np := by have := R.len; simp only [List.length_map] at this; omega
  have mm : ∀ {a : Addr}, MutA (ss.map some ++ List.replicate (N.length - np) none) (L2.start N vs) a → MutA (ss.map some) (vs.map some) a := fun {a} ⟨j, x, h1, m, h2⟩ =>
    ⟨j, x, map_get (get_start h1), m, map_get (get_start h2)⟩
  refine ⟨by unfold L2.start; simp [hl, lv], fun i s h => ?_, fun i s a h m h2 => R.mu i s a (map_get (get_start h)) m (map_get (get_start h2)), fun i d a h h2 j s h3 m h4 => R.own i d a (map_get (get_start h)) (map_get (get_start h2)) j s (map_get (get_start h3)) m (map_get (get_start h4)), R.cl, R.nd, R.cell, R.cz, R.zt⟩
  obtain ⟨v, hv, ok⟩ := R.slot i s (map_get (get_start h))
  exact ⟨v, start_get (get_map hv), ok.stay (stay_refl fun a o _ z => z.imp mm id) fun _ _ _ o ho => ho⟩
theorem not_own {ss : List Sl} (ho : ss.all (fun s => !s.isOw) = true) {n : Nat} {σ : L2.St} {a : Addr} : ¬ OwnA (ss.map some ++ List.replicate n none) σ a := fun ⟨i, d, h1, _⟩ => by
  have h := List.all_eq_true.mp ho _ (List.mem_of_getElem? (get_start h1))
  simp [Sl.isOw] at h
/-- behind the end -/
theorem fn_post {ss : List Sl} {vs : List V} {μ : List (Int × Int)} {N : List Str} {np : Nat} {e' : En} {r : Rs} {v : V} (R : Rep K γ ⟨ss.map some, μ⟩ (vs.map some) H Z) (hl : ss.length = np) (ho : ss.all (fun s => !s.isOw) = true)
    (s : Stp γ ⟨ss.map some ++ List.replicate (N.length - np) none, μ⟩ (L2.start N vs) H γ' e' σ' H') (P : Prt K H ⟨ss.map some ++ List.replicate (N.length - np) none, μ⟩ (L2.start N vs) Z γ' e' σ' r v H') (hr : ∀ i, r ≠ .sl i) :
    Kp γ [] [] H H' ∧ Pst K γ H (vs.map some) Z ⟨ss.map some, e'.μ.take μ.length⟩ [r] [v] H' := by
  have no : ∀ a, ¬ OwnA (ss.map some ++ List.replicate (N.length - np) none) (L2.start N vs) a := fun a => not_own ho
  have kp : ∀ a o, H a = some o → a ∉ γ → H' a = some o := fun a o h g => s.st a o h (no a) g
  refine ⟨⟨fun a o h _ g => kp a o h g, s.th⟩, ?_⟩
  obtain ⟨Z1, h01, hf, R1, ok⟩ := P
  obtain ⟨δ, rfl⟩ := s.pre
  have lv : vs.length = np := by have := R.len; simp only [List.length_map] at this; omega
  have cl := R.cl
  have cl1 := R1.cl
  rw [List.length_append] at cl1
  -- the parameters that are borrowed are hidden behind the end too
  have hid : ∀ a, MutA (ss.map some) (vs.map some) a → MutA e'.ρ σ' a := fun a ⟨i, x, h1, m, h2⟩ => by
    have g1 := get_map h1
    have nx : x.isOw = false := by
      have h := List.all_eq_true.mp ho _ (List.mem_of_getElem? g1)
      simpa using h
    cases x with
    | fz d => cases m
    | pt k => cases m
    | ow d => cases nx
    | bo d =>
      obtain ⟨b1, b2⟩ := s.bo i d (start_get g1)
      exact ⟨i, _, b1, rfl, by rw [b2]; exact start_get (get_map h2)⟩
  have fresh : ∀ a, Z1 a → Z a ∨ H a = none := fun a z => by
    rcases hf a z with z | z | z
    · exact .inl z
    · exact .inr z
    · exact absurd z (no a)
  -- the parameters behind the end, Z2 hidden
  have base : ∀ Z2 : Addr → Prop, (∀ a, Z2 a → Z1 a) → (∀ a, Z a → Z2 a) → Rep K γ ⟨ss.map some, e'.μ.take μ.length⟩ (vs.map some) H' Z2 := fun Z2 h2 h3 => by
    have st : Stay H H' (Hid γ (ss.map some) (vs.map some) Z) (Hid γ (ss.map some) (vs.map some) Z2) := fun a o h n => by
      refine ⟨kp a o h fun z => n (.inr (.inl z)), fun z => ?_⟩
      rcases z with z | z | z
      · exact n (.inl z)
      · exact n (.inr (.inl z))
      · rcases fresh a (h2 a z) with z | z
        · exact n (.inr (.inr z))
        · rw [h] at z; cases z
    refine ⟨R.len, fun i x h => ?_, fun i x a h m h2' => ⟨fun z => ?_, (R.mu i x a h m h2').2⟩, R.own, ?_, R.nd, fun k a x y h1 h2' => ?_, fun a ha z => R1.cz a (List.mem_append_left _ ha) (h2 a z), fun a z => R1.zt a (h2 a z)⟩
    · obtain ⟨w, hw, q⟩ := R.slot i x h
      exact ⟨w, hw, q.stay st fun a ea m o ho => kp a o ho fun z => (R.mu i x a h m (by rw [hw, ea])).2 z⟩
    · obtain ⟨o, hh⟩ := Hid.tr R (.inl ⟨i, x, h, m, h2'⟩)
      rcases fresh a (h2 a z) with z | z
      · exact (R.mu i x a h m h2').1 z
      · rw [hh] at z; cases z
    · show γ.length = (e'.μ.take μ.length).length
      rw [List.length_take]
      have : γ.length = μ.length := cl
      omega
    · have hk : k < γ.length := (List.getElem?_eq_some_iff.mp h1).1
      have : γ.length = μ.length := cl
      have h2' : (e'.μ.take μ.length)[k]? = some (x, y) := h2'
      rw [List.getElem?_take_of_lt (by omega)] at h2'
      exact R1.cell k a x y (by rw [List.getElem?_append_left hk]; exact h1) h2'
  cases r with
  | sl i => exact absurd rfl (hr i)
  | fz d =>
    refine ⟨Z, fun _ z => z, fun _ z => .inl z, base Z h01 fun _ z => z, .cons (Rp.stay (stay_refl fun a o _ z => ?_) d ok) .nil⟩
    rcases z with z | z | z
    · exact .inl (hid a z)
    · exact .inr (.inl (List.mem_append_left _ z))
    · exact .inr (.inr (h01 a z))
  | fr d =>
    obtain ⟨p, rfl, hp, np', c⟩ := ok
    refine ⟨fun a => Z a ∨ a = p, fun _ z => .inl z, fun a z => z.imp id fun z => ?_, base _ (fun a z => z.elim (h01 a) fun z => z ▸ hp) fun _ z => .inl z, .cons ⟨p, rfl, .inr rfl, np', c.stay (stay_refl fun a o _ z => ?_) fun o ho => ho⟩ .nil⟩
    · rw [z]; exact (fresh p hp).resolve_left np'
    · rcases z with z | z | z | z
      · exact .inl (hid a z)
      · exact .inr (.inl (List.mem_append_left _ z))
      · exact .inr (.inr (h01 a z))
      · exact .inr (.inr (z ▸ hp))
/-- a body that is walked keeps the promise -/
theorem fn_body {N : List Str} {np : Nat} {body : M Fl} {vs : List V} {Q : VK} {E : XK} (h : spD K np (fnOf np N.length body) vs H Q E) : tS K body { nx := fun _ H' => Q .non H', rt := Q } (L2.start N vs) H := by
  obtain ⟨γ, ss, μ, Z, r, μ', R, hl, ho, hf, k⟩ := h
  unfold fnOf at hf
  rw [if_pos ⟨hl, ho⟩] at hf
  cases q : body ⟨ss.map some ++ List.replicate (N.length - np) none, μ⟩ with
  | none => rw [q] at hf; cases hf
  | some p =>
    obtain ⟨fl, e'⟩ := p
    rw [q] at hf
    refine ⟨γ, _, Z, fl, e', R.enter hl, q, ?_⟩
    cases fl with
    | bk => cases hf
    | ct => cases hf
    | nx =>
      cases hf
      intro γ' σ' H' s R'
      have P := fn_post (v := .non) (r := .fz .none) R hl ho s ⟨Z, fun _ z => z, fun _ z => .inl z, R', .non⟩ fun i z => by cases z
      exact k .non H' P.1 P.2
    | rt r0 =>
      cases r0 with
      | sl i => cases hf
      | fz d =>
        cases hf
        intro γ' σ' v H' s P0
        have P := fn_post (v := v) (r := .fz d) R hl ho s P0 fun i z => by cases z
        exact k v H' P.1 P.2
      | fr d =>
        cases hf
        intro γ' σ' v H' s P0
        have P := fn_post (v := v) (r := .fr d) R hl ho s P0 fun i z => by cases z
        exact k v H' P.1 P.2
theorem spD_len {np : Nat} {F : Fn} {vs : List V} {Q : VK} {E : XK} (h : spD K np F vs H Q E) : vs.length = np := by
  obtain ⟨γ, ss, μ, Z, r, μ', R, hl, _⟩ := h
  have := R.len
  simp only [List.length_map] at this
  omega
/-- another word for the same worth -/
theorem spD_congr {np : Nat} {F G : Fn} (h : ∀ ss μ x, F ss μ = some x → G ss μ = some x) {vs : List V} {Q : VK} {E : XK} (p : spD K np F vs H Q E) : spD K np G vs H Q E := by
  obtain ⟨γ, ss, μ, Z, r, μ', R, hl, ho, hf, k⟩ := p
  exact ⟨γ, ss, μ, Z, r, μ', R, hl, ho, h _ _ _ hf, k⟩
end
abbrev FnP (K : PySem.W.Frag) (x : Str) (st : Stmt) (f : Addr) (fd : FuncData) : Prop := FunD K x x (defArgs st) (defBody st) (defScope st) [] [] f fd
/-- THE RULE: a def, by its body -/
theorem fn_ok {P : Program} {w : World} {K : PySem.W.Frag} {mg : Str → Option Value} {base : Heap} {x : Str} {st : Stmt} {f : Addr} {fd : FuncData} {N ps : List Str} {k : Nat} {body : M Fl} (F : FnP K x st f fd) (S : FnScope N ps (defScope st))
    (h : ∀ (cdv : Value) (A : Around) (outer : List Env) (s : Shared) (H : Hp) (E : XK), Room k (A.deeper (envOfC x (defScope st) s.heap.objs.size f cdv)) → PSs (cxOf CX0 P w K mg base N x (defScope st) f cdv A outer s H E).nox (defBody st) (tS K body)) :
    FnOk P w K mg base CX0 (k + 1) f fd ps (spD K ps.length (fnOf ps.length N.length body)) :=
  F.ok S (fun _ _ _ _ q => spD_len q) fun cdv A outer s H vs Q E hr q => ⟨tS K body, (h cdv A outer s H E hr).nox, fn_body q⟩

/-! ### calls -/
def argS (e : En) : Rs → Option Sl
  | .fz d => some (.fz d)
  | .fr d => some (.fz d)
  | .sl i => match e.ρ[i]? with
    | some (some (.fz d)) => some (.fz d)
    | some (some (.ow d)) => some (.bo d)
    | some (some (.bo d)) => some (.bo d)
    | some (some (.pt k)) => some (.pt k)
    | _ => none
def argAll (e : En) : List Rs → Option (List Sl)
  | [] => some []
  | r :: rs => match argS e r, argAll e rs with
    | some s, some ss => some (s :: ss)
    | _, _ => none
def callM (F : Fn) (fs : M (List Rs)) : M Rs := bnd fs fun rs => fun e => match argAll e rs with
  | some ss => match F ss e.μ with
    | some (.fz d, μ') => some (.fz d, { e with μ := μ' })
    | some (.fr d, μ') => some (.fr d, { e with μ := μ' })
    | _ => none
  | none => none
section
variable {K : PySem.W.Frag} {γ γ' : List Addr} {e e1 : En} {σ σ' : L2.St} {H H1 H2 : Hp} {Z Z1 : Addr → Prop}
theorem args_ok (R : Rep K γ e1 σ H1 Z1) (h01 : ∀ a, Z a → Z1 a) : ∀ {rs : List Rs} {vs : List V} {ss : List Sl}, All2 (RsOk K γ H1 e1 σ Z Z1) rs vs → argAll e1 rs = some ss → All2 (fun s v => s.isOw = false ∧ (∀ a, s.isMu = true → v = .ref a → MutA e1.ρ σ a) ∧ ∀ O : Addr → Prop, (∀ a, O a → Hid γ e1.ρ σ Z a) → SlOk K γ H1 O s v) ss vs
  | _, _, _, .nil, q => by cases q; exact .nil
  | r :: rs, _, ss, .cons (b := v) h t, q => by
    have q' : (match argS e1 r, argAll e1 rs with
      | some s, some ss => some (s :: ss)
      | _, _ => none) = some ss := q
    cases q1 : argS e1 r with
    | none => rw [q1] at q'; cases q'
    | some s =>
      cases q2 : argAll e1 rs with
      | none => rw [q1, q2] at q'; cases q'
      | some ss' =>
        rw [q1, q2] at q'
        cases q'
        refine .cons ?_ (args_ok R h01 t q2)
        have up : ∀ O : Addr → Prop, (∀ a, O a → Hid γ e1.ρ σ Z a) → ∀ a o, H1 a = some o → O a → Hid γ e1.ρ σ Z1 a := fun O hO a _ _ z => (hO a z).imp id (Or.imp id (h01 a))
        cases r with
        | fz d => cases q1; exact ⟨rfl, fun a m => (Bool.false_ne_true m).elim, fun O hO => Rp.stay (stay_refl (up O hO)) d h⟩
        | fr d =>
          cases q1
          obtain ⟨p, rfl, hp, np, c⟩ := h
          refine ⟨rfl, fun a m => (Bool.false_ne_true m).elim, fun O hO => ?_⟩
          have nO : ¬ O p := fun z => by
            rcases hO p z with ⟨j, x, h1, m, h2⟩ | z | z
            · exact (R.mu j x p h1 m h2).1 hp
            · exact R.cz p z hp
            · exact np z
          rcases c with ⟨xs, ds, rfl, q, r⟩ | ⟨ks, kvs, rfl, q, r⟩
          · exact .lst (.inl ⟨.inl q, nO⟩) (r.stay (stay_refl (up O hO)))
          · exact .dct q nO (r.stay (stay_refl (up O hO)))
        | sl i =>
          have hv : σ[i]? = some (some v) := h
          have q3 : (match e1.ρ[i]? with
            | some (some (.fz d)) => some (Sl.fz d)
            | some (some (.ow d)) => some (.bo d)
            | some (some (.bo d)) => some (.bo d)
            | some (some (.pt k)) => some (.pt k)
            | _ => none) = some s := q1
          cases q4 : e1.ρ[i]? with
          | none => rw [q4] at q3; cases q3
          | some o =>
            cases o with
            | none => rw [q4] at q3; cases q3
            | some x =>
              rw [q4] at q3
              obtain ⟨w, hw, ok⟩ := R.slot i x q4
              rw [hv] at hw; cases hw
              cases x with
              | fz d => cases q3; exact ⟨rfl, fun a m => (Bool.false_ne_true m).elim, fun O hO => Rp.stay (stay_refl (up O hO)) d ok⟩
              | ow d =>
                cases q3
                obtain ⟨a, rfl, c⟩ := ok
                exact ⟨rfl, fun b _ eb => by cases eb; exact ⟨i, _, q4, rfl, hv⟩, fun O hO => ⟨a, rfl, c.stay (stay_refl (up O hO)) fun o ho => ho⟩⟩
              | bo d =>
                cases q3
                obtain ⟨a, rfl, c⟩ := ok
                exact ⟨rfl, fun b _ eb => by cases eb; exact ⟨i, _, q4, rfl, hv⟩, fun O hO => ⟨a, rfl, c.stay (stay_refl (up O hO)) fun o ho => ho⟩⟩
              | pt k => cases q3; exact ⟨rfl, fun a m => (Bool.false_ne_true m).elim, fun O hO => ok⟩
theorem All2.get {α β : Type} {R : α → β → Prop} : ∀ {as : List α} {bs : List β} {i : Nat} {a : α}, All2 R as bs → as[i]? = some a → ∃ b, bs[i]? = some b ∧ R a b
  | _, _, _, _, .nil, e => by simp at e
  | _, _, 0, _, .cons r _, e => by simp at e; subst e; exact ⟨_, rfl, r⟩
  | _, _, i + 1, _, .cons _ t, e => by
    obtain ⟨v, h1, h2⟩ := All2.get (i := i) t (by simpa using e)
    exact ⟨v, by simpa using h1, h2⟩
/-- a call, from the caller's side -/
theorem call_ok {np : Nat} {F : Fn} {rs : List Rs} {vs : List V} {ss : List Sl} {r : Rs} {μ' : List (Int × Int)} {Q : VK} {E : XK} (kp0 : Kp γ e.ρ σ H H1) (h01 : ∀ a, Z a → Z1 a) (hf : ∀ a, Z1 a → Z a ∨ H a = none) (R : Rep K γ e1 σ H1 Z1)
    (A : All2 (RsOk K γ H1 e1 σ Z Z1) rs vs) (ha : argAll e1 rs = some ss) (hF : F ss e1.μ = some (r, μ')) (hnp : ss.length = np) (hr : ∀ i, r ≠ .sl i)
    (k : ∀ v H2, Kp γ e1.ρ σ H1 H2 → Pst K γ H σ Z { e1 with μ := μ' } [r] [v] H2 → Q v H2) : spD K np F vs H1 Q E := by
  have B := args_ok R h01 A ha
  have lv : ss.length = vs.length := B.length
  let Zc : Addr → Prop := fun a => (MutA e1.ρ σ a ∨ Z a) ∧ ¬ MutA (ss.map some) (vs.map some) a
  have hM : ∀ a, MutA (ss.map some) (vs.map some) a → MutA e1.ρ σ a := fun a ⟨i, s, h1, m, h2⟩ => by
    obtain ⟨v, hv, _, q, _⟩ := B.get (get_map h1)
    have := get_map h2
    rw [hv] at this
    cases this
    exact q a m rfl
  have hO : ∀ a, Hid γ (ss.map some) (vs.map some) Zc a → Hid γ e1.ρ σ Z a := fun a z => by
    rcases z with z | z | z
    · exact .inl (hM a z)
    · exact .inr (.inl z)
    · exact z.1.imp id .inr
  have hO' : ∀ a, Hid γ e1.ρ σ Z a → Hid γ (ss.map some) (vs.map some) Zc a := fun a z => by
    by_cases c : MutA (ss.map some) (vs.map some) a
    · exact .inl c
    · rcases z with z | z | z
      · exact .inr (.inr ⟨.inl z, c⟩)
      · exact .inr (.inl z)
      · exact .inr (.inr ⟨.inr z, c⟩)
  have noOw : ∀ (i : Nat) (d : D), (ss.map some)[i]? ≠ some (some (.ow d)) := fun i d h => by
    obtain ⟨v, hv, q, _⟩ := B.get (get_map h)
    cases q
  have Rc : Rep K γ ⟨ss.map some, e1.μ⟩ (vs.map some) H1 Zc := by
    refine ⟨by simp [lv], fun i s h => ?_, fun i s a h m h2 => ⟨fun z => z.2 ⟨i, s, h, m, h2⟩, ?_⟩, fun i d a h => absurd h (noOw i d), R.cl, R.nd, R.cell, fun a ha z => ?_, fun a z => ?_⟩
    · obtain ⟨v, hv, _, _, q⟩ := B.get (get_map h)
      exact ⟨v, map_get hv, q _ hO⟩
    · obtain ⟨i', s', h1, m', h2'⟩ := hM a ⟨i, s, h, m, h2⟩
      exact (R.mu i' s' a h1 m' h2').2
    · rcases z.1 with ⟨i', s', h1, m', h2'⟩ | z
      · exact (R.mu i' s' a h1 m' h2').2 ha
      · exact R.cz a ha (h01 a z)
    · rcases z.1 with z | z
      · exact Hid.tr R (.inl z)
      · exact R.zt a (h01 a z)
  refine ⟨γ, ss, e1.μ, Zc, r, μ', Rc, hnp, List.all_eq_true.mpr fun s hs => ?_, hF, fun v H2 kp P => ?_⟩
  · obtain ⟨i, hi, es⟩ := List.getElem_of_mem hs
    obtain ⟨v, _, q, _⟩ := B.get (i := i) (a := s) (by rw [List.getElem?_eq_getElem hi, es])
    simp [q]
  have kp1 : Kp γ e1.ρ σ H1 H2 := ⟨fun a o h _ g => kp.st a o h (fun ⟨i, d, h1, _⟩ => by simp at h1) g, kp.th⟩
  obtain ⟨Zc', hc1, hc2, Rc', okc⟩ := P
  have rc : RsOk K γ H2 ⟨ss.map some, μ'⟩ (vs.map some) Zc Zc' r v := by cases okc with | cons q _ => exact q
  -- the caller's slots behind the call
  have back : ∀ Z2 : Addr → Prop, (∀ a, Z a → Z2 a) → (∀ a, Z2 a → Z a ∨ (H1 a = none ∧ ∃ o, H2 a = some o)) → Rep K γ { e1 with μ := μ' } σ H2 Z2 := fun Z2 g1 g2 => by
    have st : Stay H1 H2 (Hid γ e1.ρ σ Z1) (Hid γ e1.ρ σ Z2) := fun a o h n => by
      refine ⟨kp1.st a o h (fun z => n (.inl z.mu)) fun z => n (.inr (.inl z)), fun z => ?_⟩
      rcases z with z | z | z
      · exact n (.inl z)
      · exact n (.inr (.inl z))
      · rcases g2 a z with z | ⟨z, _⟩
        · exact n (.inr (.inr (h01 a z)))
        · rw [h] at z; cases z
    refine ⟨R.len, fun i s h => ?_, fun i s a h m h2 => ⟨fun z => ?_, (R.mu i s a h m h2).2⟩, R.own, Rc'.cl, R.nd, Rc'.cell, fun a ha z => ?_, fun a z => ?_⟩
    · obtain ⟨w, hw, q⟩ := R.slot i s h
      exact ⟨w, hw, q.stay st fun a ea m o ho => kp.st a o ho (fun ⟨i, d, h1, _⟩ => by simp at h1) (R.mu i s a h m (by rw [hw, ea])).2⟩
    · rcases g2 a z with z | ⟨z, _⟩
      · exact (R.mu i s a h m h2).1 (h01 a z)
      · obtain ⟨o, ho⟩ := Hid.tr R (.inl ⟨i, s, h, m, h2⟩)
        rw [ho] at z; cases z
    · rcases g2 a z with z | ⟨z, _⟩
      · exact R.cz a ha (h01 a z)
      · obtain ⟨o, ho⟩ := Hid.tr R (.inr (.inl ha))
        rw [ho] at z; cases z
    · rcases g2 a z with z | ⟨_, z⟩
      · obtain ⟨o, ho⟩ := R.zt a (h01 a z)
        exact kp.th a o ho
      · exact z
  refine k v H2 kp1 ?_
  cases r with
  | sl i => exact absurd rfl (hr i)
  | fz d =>
    refine ⟨Z, fun _ z => z, fun _ z => .inl z, back Z (fun _ z => z) fun _ z => .inl z, .cons (Rp.stay (stay_refl fun a o _ z => ?_) d rc) .nil⟩
    exact (hO' a z).imp id (Or.imp id (hc1 a))
  | fr d =>
    obtain ⟨p, rfl, hp, np', c⟩ := rc
    have hpn : H1 p = none := (hc2 p hp).resolve_left np'
    obtain ⟨o, ho⟩ := c.there
    refine ⟨fun a => Z a ∨ a = p, fun _ z => .inl z, fun a z => z.imp id fun z => by rw [z]; exact kp0.none hpn, back _ (fun _ z => .inl z) fun a z => z.imp id fun z => by rw [z]; exact ⟨hpn, o, ho⟩, .cons ⟨p, rfl, .inr rfl, fun z => ?_, c.stay (stay_refl fun a o _ z => ?_) fun o ho => ho⟩ .nil⟩
    · obtain ⟨o, ho⟩ := R.zt p (h01 p z)
      rw [hpn] at ho; cases ho
    · rcases z with z | z | z | z
      · exact (hO' a (.inl z)).imp id (Or.imp id (hc1 a))
      · exact (hO' a (.inr (.inl z))).imp id (Or.imp id (hc1 a))
      · exact (hO' a (.inr (.inr z))).imp id (Or.imp id (hc1 a))
      · rw [z]; exact .inr (.inr hp)
end
section
variable {X : Cx} {K : PySem.W.Frag}
theorem argAll_len {e : En} : ∀ {rs : List Rs} {ss : List Sl}, argAll e rs = some ss → ss.length = rs.length
  | [], _, q => by cases q; rfl
  | r :: rs, ss, q => by
    have q' : (match argS e r, argAll e rs with
      | some s, some ss => some (s :: ss)
      | _, _ => none) = some ss := q
    cases q1 : argS e r with
    | none => rw [q1] at q'; cases q'
    | some s =>
      cases q2 : argAll e rs with
      | none => rw [q1, q2] at q'; cases q'
      | some ss' => rw [q1, q2] at q'; cases q'; rw [List.length_cons, List.length_cons, argAll_len q2]
/-- a worth that asks for so many arguments -/
def Arity (F : Fn) (np : Nat) : Prop := ∀ ss μ x, F ss μ = some x → ss.length = np
theorem Arity.of (np n : Nat) (b : M Fl) : Arity (fnOf np n b) np := fun ss μ x h => by
  unfold fnOf at h
  split at h
  · exact (‹_ ∧ _›).1
  · cases h
theorem callM_eq {F : Fn} {fs : M (List Rs)} {e e' : En} {r : Rs} (h : callM F fs e = some (r, e')) : ∃ rs e1 ss μ', fs e = some (rs, e1) ∧ argAll e1 rs = some ss ∧ F ss e1.μ = some (r, μ') ∧ e' = { e1 with μ := μ' } ∧ ∀ i, r ≠ .sl i := by
  obtain ⟨rs, e1, h1, h2⟩ := bnd_eq h
  have h3 : (match argAll e1 rs with
    | some ss => match F ss e1.μ with
      | some (.fz d, μ') => some (Rs.fz d, { e1 with μ := μ' })
      | some (.fr d, μ') => some (.fr d, { e1 with μ := μ' })
      | _ => none
    | none => none) = some (r, e') := h2
  cases q1 : argAll e1 rs with
  | none => rw [q1] at h3; cases h3
  | some ss =>
    rw [q1] at h3
    cases q2 : F ss e1.μ with
    | none => simp only [q2] at h3; cases h3
    | some p =>
      obtain ⟨r0, μ'⟩ := p
      simp only [q2] at h3
      cases r0 with
      | sl i => cases h3
      | fz d => cases h3; exact ⟨rs, e1, ss, μ', h1, q1, q2, rfl, fun i z => by cases z⟩
      | fr d => cases h3; exact ⟨rs, e1, ss, μ', h1, q1, q2, rfl, fun i z => by cases z⟩
theorem tE_call {np : Nat} {F : Fn} {fs : M (List Rs)} (ar : Arity F np) : ∀ σ H Q, tE K (callM F fs) σ H Q → tCall (spD K np F) [] E0 (tA K fs) σ H Q := by
  rintro σ H Q ⟨γ, e, Z, r, e', R, h, k⟩
  obtain ⟨rs, e1, ss, μ', h1, h2, h3, rfl, hr⟩ := callM_eq h
  refine ⟨γ, e, Z, rs, e1, R, h1, fun vs H1 kp sh P => ?_⟩
  obtain ⟨Z1, h01, hf, R1, A1⟩ := P
  rw [List.append_nil]
  exact call_ok kp h01 hf R1 A1 h2 h3 (ar _ _ _ h3) hr fun v H2 kp2 P2 => k v H2 (kp.trans sh kp2) (sh.trans ⟨fun _ s' h m => ⟨s', h, m, id⟩, fun _ _ h => h, fun _ _ h => h, rfl⟩) P2
theorem de_call {np k : Nat} {F : Fn} {f : Addr} {fd : FuncData} {ps : List Str} {x : Str} {p pos : Pos} {e : Expr} {es : List Expr} {fs : M (List Rs)} (FO : FnOk X.prog X.w X.K X.mg X.base CX0 k f fd ps (spD X.K np F)) (ar : Arity F np) (hr : Room k X.A) (hm : X.mg x = some (.ref f))
    (hk : PySem.W.keepIn X.K (.ref f) = true) (hb : Binds X.K fd ps []) (ha : PA X (e :: es) (tA X.K fs)) (hg : Gl X x := by rfl) (hdb : (x == ("__debug__" : Str)) = false := by decide) (he : starEach (e :: es) X.env = (false, eval e X.env) :: starEach es X.env := by rfl)
    (hpl : (backTo pos (starEach es X.env)).any (·.1) = false := by rfl) : PE X (.Call (.Name x p) (e :: es) [] pos) (tE X.K (callM F fs)) :=
  PE.weak (pe_call FO hr hg hm hk hb .nil pass0 ha hdb he hpl) (tE_call ar)
theorem de_call0 {np k : Nat} {F : Fn} {f : Addr} {fd : FuncData} {ps : List Str} {x : Str} {p pos : Pos} (FO : FnOk X.prog X.w X.K X.mg X.base CX0 k f fd ps (spD X.K np F)) (ar : Arity F np) (hr : Room k X.A) (hm : X.mg x = some (.ref f))
    (hk : PySem.W.keepIn X.K (.ref f) = true) (hb : Binds X.K fd ps []) (hg : Gl X x := by rfl) (hdb : (x == ("__debug__" : Str)) = false := by decide) : PE X (.Call (.Name x p) [] [] pos) (tE X.K (callM F (ret []))) :=
  PE.weak (pe_call0 FO hr hg hm hk hb .nil pass0 hdb) fun σ H Q h => by
    have := tE_call ar σ H Q h
    obtain ⟨γ, e, Z, rs, e', R, h1, k⟩ := this
    cases h1
    exact k [] H (Kp.refl H) (Sh.refl _) ⟨Z, fun _ z => z, fun _ z => .inl z, R, .nil⟩
end
end DV
end
section
set_option Elab.async false
set_option linter.all false
set_option maxRecDepth 100000
namespace DV
open PySem PySem.Spec PyProof.Rows L2
def pick {α : Type} : List Nat → List α → List α
  | [], _ => []
  | i :: ix, l => match l[i]? with
    | some x => x :: pick ix l
    | none => pick ix l
theorem pick_all2 {α β : Type} {R : α → β → Prop} {as : List α} {bs : List β} (h : All2 R as bs) : ∀ ix, All2 R (pick ix as) (pick ix bs)
  | [] => .nil
  | i :: ix => by
    unfold pick
    cases q : as[i]? with
    | none =>
      have q2 : bs[i]? = none := List.getElem?_eq_none_iff.mpr (by rw [← h.length]; exact List.getElem?_eq_none_iff.mp q)
      rw [q2]
      exact pick_all2 h ix
    | some a =>
      obtain ⟨b, hb, r⟩ := h.get q
      rw [hb]
      exact .cons r (pick_all2 h ix)
theorem pick_vals {as : List V} {bs : List Value} (h : Vals as bs) : ∀ ix, Vals (pick ix as) (pick ix bs)
  | [] => .nil
  | i :: ix => by
    unfold pick
    cases q : as[i]? with
    | none =>
      rw [h.none_of q]
      exact pick_vals h ix
    | some a =>
      obtain ⟨b, hb, r⟩ := h.get q
      rw [hb]
      exact .cons r (pick_vals h ix)
theorem All2.append {α β : Type} {R : α → β → Prop} : ∀ {as : List α} {bs : List β} {cs : List α} {ds : List β}, All2 R as bs → All2 R cs ds → All2 R (as ++ cs) (bs ++ ds)
  | _, _, _, _, .nil, h => h
  | _, _, _, _, .cons r t, h => .cons r (t.append h)
/-- a call with keywords: ix tells where each parameter's value stands among the written ones -/
def callKM (n m : Nat) (ix : List Nat) (F : Fn) (fs fk : M (List Rs)) : M Rs := callM F (bnd fs fun rs => bnd fk fun ks => if rs.length = n ∧ ks.length = m then ret (pick ix (rs ++ ks)) else noM)
/-- how f's parameters are bound so -/
def KbI (K : PySem.W.Frag) (fd : FuncData) (ps : List Str) (n : Nat) (ks : List Str) (ix : List Nat) : Prop := KBn K fd ps n ks (fun us ws => pick ix (us ++ ws)) (fun vs zs => pick ix (vs ++ zs))
theorem kbi_of {K : PySem.W.Frag} {x : Str} {st : Stmt} {f : Addr} {fd : FuncData} {ps : List Str} {n : Nat} {ks : List Str} {ix : List Nat} (F : FnP K x st f fd)
    (h : ∀ (kV doc pm : Value) (an : Option Addr) (cdv ct : Value) (us ws : List Value), us.length = n → ws.length = ks.length → bindArgs (PySem.W.fnOf x x (defArgs st) (defBody st) (defScope st) .none kV doc pm an cdv ct) ⟨us, ks.zip ws⟩ = pure (ps.zip (pick ix (us ++ ws)))) : KbI K fd ps n ks ix := by
  obtain ⟨oc, od, dV, kV, doc, pm, an, cdv, ct, osl, rfl, lk, hcd, hD, hK⟩ := F.ex
  rcases hD with ⟨_, rfl⟩ | ⟨e, _⟩
  · exact ⟨fun s us ws X h1 h2 => .of_eq (h kV doc pm an cdv ct us ws h1 h2), fun r1 r2 => pick_vals (r1.append r2) ix⟩
  · exact absurd rfl e
section
variable {X : Cx} {K : PySem.W.Frag}
theorem dk_nil : PK X [] (tA X.K (ret [])) := ⟨fun pos pins s σ H Q I q => pk_nil.run pos pins s σ H Q I (tA_nil σ H Q q)⟩
theorem dk_cons {e : Expr} {kws : List Keyword} {nm : Option Str} {kpos : Pos} {fa : M Rs} {fs : M (List Rs)} (ha : PE X e (tE X.K fa)) (hr : PK X kws (tA X.K fs)) : PK X (⟨nm, e, kpos⟩ :: kws) (tA X.K (consM fa fs)) :=
  ⟨fun pos pins s σ H Q I q => (pk_cons ha hr).run pos pins s σ H Q I (tA_cons σ H Q q)⟩
theorem tE_callK {np n m : Nat} {ix : List Nat} {F : Fn} {fs fk : M (List Rs)} (ar : Arity F np) : ∀ σ H Q, tE K (callKM n m ix F fs fk) σ H Q → tCallN n m (spD K np F) (fun vs zs => pick ix (vs ++ zs)) E0 (tA K fs) (tA K fk) σ H Q := by
  rintro σ H Q ⟨γ, e, Z, r, e', R, h, k⟩
  obtain ⟨rs0, e1, ss, μ', h1, h2, h3, rfl, hr⟩ := callM_eq h
  obtain ⟨rs, ea, ha, hb⟩ := bnd_eq h1
  obtain ⟨ks, eb, hc, hd⟩ := bnd_eq hb
  by_cases c : rs.length = n ∧ ks.length = m
  · simp only [if_pos c] at hd
    cases hd
    refine ⟨γ, e, Z, rs, ea, R, ha, fun vs H1 kp sh P => ?_⟩
    obtain ⟨Z1, h01, hf, R1, A1⟩ := P
    refine ⟨γ, ea, Z1, ks, e1, R1, hc, fun zs H2 kp2 sh2 P2 => ?_⟩
    obtain ⟨Z2, h12, hf2, R2, A2⟩ := P2
    refine ⟨A1.length.symm.trans c.1, A2.length.symm.trans c.2, ?_⟩
    have A : All2 (RsOk K γ H2 e1 σ Z Z2) (rs ++ ks) (vs ++ zs) := (RsOk.keeps R1 R2 kp2 sh2 h12 hf2 A1).append (A2.imp fun _ _ q => q.down h01)
    refine call_ok (kp.trans sh kp2) (fun a z => h12 a (h01 a z)) (fun a z => ?_) R2 (pick_all2 A ix) h2 h3 (ar _ _ _ h3) hr fun v H3 kp3 P3 => k v H3 ((kp.trans sh kp2).trans (sh.trans sh2) kp3) ((sh.trans sh2).trans ⟨fun _ s' h m => ⟨s', h, m, id⟩, fun _ _ h => h, fun _ _ h => h, rfl⟩) P3
    rcases hf2 a z with z | z
    · exact hf a z
    · exact .inr (kp.none z)
  · simp only [if_neg c] at hd
    cases hd
theorem de_callK {np n k : Nat} {ix : List Nat} {F : Fn} {f : Addr} {fd : FuncData} {ps ks : List Str} {x : Str} {p pos : Pos} {e : Expr} {es : List Expr} {kws : List Keyword} {fs fk : M (List Rs)} (FO : FnOk X.prog X.w X.K X.mg X.base CX0 k f fd ps (spD X.K np F)) (ar : Arity F np) (hr : Room k X.A) (hm : X.mg x = some (.ref f))
    (hk : PySem.W.keepIn X.K (.ref f) = true) (hb : KbI X.K fd ps n ks ix) (ha : PA X (e :: es) (tA X.K fs)) (hkw : PK X kws (tA X.K fk)) (hg : Gl X x := by rfl) (hall : (backToKw pos (keywordEach kws X.env)).all (·.1.isSome) = true := by rfl) (hks : (backToKw pos (keywordEach kws X.env)).filterMap (·.1) = ks := by rfl)
    (hdb : (x == ("__debug__" : Str)) = false := by decide) (he : starEach (e :: es) X.env = (false, eval e X.env) :: starEach es X.env := by rfl)
    (hpl : ((backTo pos (starEach (e :: es) X.env)).any (·.1) || (backToKw pos (keywordEach kws X.env)).any (·.1.isNone)) = false := by rfl) : PE X (.Call (.Name x p) (e :: es) kws pos) (tE X.K (callKM n ks.length ix F fs fk)) :=
  PE.weak (pe_callN FO hr hg hm hk hb pass0 ha hkw hall hks hdb he hpl) (tE_callK ar)
/-- keywords alone -/
theorem de_callK0 {np k : Nat} {ix : List Nat} {F : Fn} {f : Addr} {fd : FuncData} {ps ks : List Str} {x : Str} {p pos : Pos} {kws : List Keyword} {fk : M (List Rs)} (FO : FnOk X.prog X.w X.K X.mg X.base CX0 k f fd ps (spD X.K np F)) (ar : Arity F np) (hr : Room k X.A) (hm : X.mg x = some (.ref f))
    (hk : PySem.W.keepIn X.K (.ref f) = true) (hb : KbI X.K fd ps 0 ks ix) (hkw : PK X kws (tA X.K fk)) (hg : Gl X x := by rfl) (hall : (backToKw pos (keywordEach kws X.env)).all (·.1.isSome) = true := by rfl) (hks : (backToKw pos (keywordEach kws X.env)).filterMap (·.1) = ks := by rfl)
    (hdb : (x == ("__debug__" : Str)) = false := by decide)
    (hpl : ((backTo pos (starEach [] X.env)).any (·.1) || (backToKw pos (keywordEach kws X.env)).any (·.1.isNone)) = false := by rfl) : PE X (.Call (.Name x p) [] kws pos) (tE X.K (callKM 0 ks.length ix F (ret []) fk)) := by
  refine ⟨fun pins s σ H Q I h => ?_⟩
  obtain ⟨γ, e, Z, rs, e', R, h1, q⟩ := tE_callK ar σ H Q h
  cases h1
  obtain ⟨γ2, ea, Z2, ks2, eb, R2, h2, q2⟩ := q [] H (Kp.refl H) (Sh.refl _) ⟨Z, fun _ z => z, fun _ z => .inl z, R, .nil⟩
  refine wpAny_Call_Name_kw (ld_glob I hg hm ?_ hdb)
  refine PySem.W.callWith_KW0 (h₀ := X.base) I.ok.mod.kin hk hall ?_ hpl
  refine thn (hkw.run pos pins s σ H _ I ⟨γ2, ea, Z2, ks2, eb, R2, h2, q2⟩) fun ws s2 ⟨zs, H2, I2, rz, l1, l2, q3⟩ => ⟨I2.kIn, ?_⟩
  rw [hks, List.append_nil]
  exact run_fnN (vs := []) FO hr hb pass0 I2 .nil rz l1 l2 q3
end
end DV
end
section
set_option Elab.async false
set_option linter.all false
set_option maxRecDepth 100000
namespace DV
open PySem PySem.Spec PyProof.Rows L2

/-! ### targets -/
def tG (K : PySem.W.Frag) (S : List Nat) (tg : D → M Unit) : TG := fun v σ H Q => ∃ γ e Z d e', Rep K γ e σ H Z ∧ Rp K H (Hid γ e.ρ σ Z) v d ∧ tg d e = some ((), e') ∧
  ∀ σ', Rep K γ e' σ' H Z → Stp γ e σ H γ e' σ' H → (∀ j, j ∉ S → σ'[j]? = σ[j]? ∧ e'.ρ[j]? = e.ρ[j]?) → (∀ j ∈ S, ∀ s, e'.ρ[j]? = some (some s) → s.isMu = true → e.ρ[j]? = some (some s)) → Q σ' H
def tGs (K : PySem.W.Frag) (S : List Nat) (tg : List D → M Unit) : TGs := fun vs σ H Q => ∃ γ e Z ds e', Rep K γ e σ H Z ∧ RpL K H (Hid γ e.ρ σ Z) vs ds ∧ tg ds e = some ((), e') ∧
  ∀ σ', Rep K γ e' σ' H Z → Stp γ e σ H γ e' σ' H → (∀ j, j ∉ S → σ'[j]? = σ[j]? ∧ e'.ρ[j]? = e.ρ[j]?) → (∀ j ∈ S, ∀ s, e'.ρ[j]? = some (some s) → s.isMu = true → e.ρ[j]? = some (some s)) → Q σ' H
theorem PG.weak {X : Cx} {e : Expr} {t t' : TG} (h : PG X e t) (w : ∀ v σ H Q, t' v σ H Q → t v σ H Q) : PG X e t' := ⟨fun pins s σ H v u Q I r q => h.run pins s σ H v u Q I r (w v σ H Q q)⟩
theorem PGs.weak {X : Cx} {e : List Expr} {t t' : TGs} (h : PGs X e t) (w : ∀ v σ H Q, t' v σ H Q → t v σ H Q) : PGs X e t' := ⟨fun pins s σ H v u Q I r q => h.run pins s σ H v u Q I r (w v σ H Q q)⟩
def tgN (i : Nat) (d : D) : M Unit := asg i (.fz d)
def tgNil : List D → M Unit
  | [] => ret ()
  | _ => noM
def tgCons (t : D → M Unit) (ts : List D → M Unit) : List D → M Unit
  | [] => noM
  | d :: ds => bnd (t d) fun _ => ts ds
def tgT (n : Nat) (ts : List D → M Unit) : D → M Unit
  | .tuple ds => if ds.length = n then ts ds else noM
  | _ => noM
section
variable {X : Cx} {K : PySem.W.Frag}
theorem asg_at {i : Nat} {d : D} {e e' : En} (h : asg i (.fz d) e = some ((), e')) : e' = e.st i (some (.fz d)) := by
  unfold asg at h
  cases q1 : e.ρ[i]? with
  | none => rw [q1] at h; cases h
  | some o =>
    rw [q1] at h
    cases o with
    | none => cases h; rfl
    | some x =>
      cases x with
      | bo d => cases h
      | fz d => cases h; rfl
      | ow d => cases h; rfl
      | pt k => cases h; rfl
theorem dg_name {i : Nat} {x : Str} {pos : Pos} (hN : X.N.Nodup) (hi : X.N[i]? = some x := by rfl) (hx : Loc X.env.scope x := by first | exact Or.inl rfl | exact Or.inr rfl) (hf : X.fn x = true ∨ X.env.scope.names.lookup x = some .local := by first | exact .inl rfl | exact .inr rfl | assumption) :
    PG X (.Name x pos) (tG X.K [i] (tgN i)) := PG.weak (pg_name (i := i) hN hi hx hf) (by
  rintro v σ H Q ⟨γ, e, Z, d, e', R, rp, h, k⟩
  obtain ⟨R2, s2⟩ := asg_ok (γ := γ) (e := e) h (fun _ z => z) (fun _ z => .inl z) Stp.refl R rp
  have e2 := asg_at h
  refine k _ R2 s2 (fun j hj => ?_) fun j hj s hs m => ?_
  · have ne : i ≠ j := fun z => hj (by simp [z])
    refine ⟨List.getElem?_set_ne ne, ?_⟩
    rw [e2]
    exact List.getElem?_set_ne ne
  · have ej : j = i := by simpa using hj
    subst ej
    rw [e2] at hs
    rcases set_get hs with ⟨_, e1⟩ | ⟨ne, _⟩
    · cases e1; cases m
    · exact absurd rfl ne)
theorem dg_nil : PGs X [] (tGs X.K [] tgNil) := PGs.weak pgs_nil (by
  rintro v σ H Q ⟨γ, e, Z, ds, e', R, rp, h, k⟩
  cases ds with
  | cons d ds => cases h
  | nil =>
    cases h
    cases rp
    exact ⟨rfl, k σ R Stp.refl (fun j _ => ⟨rfl, rfl⟩) fun j hj => by cases hj⟩)
theorem dg_cons {e : Expr} {es : List Expr} {S T : List Nat} {t : D → M Unit} {ts : List D → M Unit} (h1 : PG X e (tG X.K S t)) (h2 : PGs X es (tGs X.K T ts))
    (hs : (assignEach (e :: es) X.env).map (·.2) = assign e X.env :: (assignEach es X.env).map (·.2) := by rfl) : PGs X (e :: es) (tGs X.K (S ++ T) (tgCons t ts)) := PGs.weak (pgs_cons h1 h2 hs) (by
  rintro v σ H Q ⟨γ, e, Z, ds, e', R, rp, h, k⟩
  cases rp with
  | nil => cases h
  | @cons v vs d ds rp rpl =>
    obtain ⟨u, e1, ha, hb⟩ := bnd_eq h
    refine ⟨v, vs, rfl, γ, e, Z, d, e1, R, rp, ha, fun σ1 R1 s1 o1 m1 => ?_⟩
    refine ⟨γ, e1, Z, ds, e', R1, rpl.stay (s1.stay fun a z => .inl z), hb, fun σ2 R2 s2 o2 m2 => ?_⟩
    refine k σ2 R2 (s1.trans s2) (fun j hj => ?_) fun j hj s q m => ?_
    · simp only [List.mem_append, not_or] at hj
      exact ⟨(o2 j hj.2).1.trans (o1 j hj.1).1, (o2 j hj.2).2.trans (o1 j hj.1).2⟩
    · by_cases c : j ∈ T
      · have q1 := m2 j c s q m
        by_cases c1 : j ∈ S
        · exact m1 j c1 s q1 m
        · rw [(o1 j c1).2] at q1; exact q1
      · rw [(o2 j c).2] at q
        by_cases c1 : j ∈ S
        · exact m1 j c1 s q m
        · rw [(o1 j c1).2] at q; exact q)
theorem dg_tup {es : List Expr} {k n : Nat} {pos : Pos} {S : List Nat} {ts : List D → M Unit} (h : PGs X es (tGs X.K S ts)) (hc : X.calm = true := by rfl)
    (hn : (assignEach es X.env).length = n := by rfl) (hst : (assignEach es X.env).findIdx? (·.1) = none := by rfl) : PG X (.Tuple es k pos) (tG X.K S (tgT n ts)) := PG.weak (pg_tup hc h hn hst) (by
  rintro v σ H Q ⟨γ, e, Z, d, e', R, rp, h, k⟩
  cases d with
  | tuple ds =>
    have h' : (if ds.length = n then ts ds else noM) e = some ((), e') := h
    by_cases c : ds.length = n
    · rw [if_pos c] at h'
      cases rp with
      | tup q r => exact ⟨_, _, rfl, q.sq, r.length.trans c, γ, e, Z, ds, e', R, r, h', k⟩
    · rw [if_neg c] at h'; cases h'
  | _ => cases h)
/-- target = value -/
def asgM (f : M Rs) (tg : D → M Unit) : M Fl := bnd f fun r => bnd (als r) fun d => bnd (tg d) fun _ => ret .nx
theorem ds_asg {tg e : Expr} {f : M Rs} {S : List Nat} {t : D → M Unit} {pos : Pos} (he : PE X e (tE X.K f)) (hg : PG X tg (tG X.K S t)) (hs : swapsWithSole [tg] e pos.line X.env = pure false := by rfl) (hw : swappedStores [tg] e X.env = pure none := by rfl)
    (h1 : (assignEach [tg] X.env).map (·.2) = [assign tg X.env] := by rfl) : PS X (.Assign [tg] e pos) (tS X.K (asgM f t)) := PS.weak (ps_asg he hg hs hw h1) (by
  rintro D σ H ⟨γ, e, Z, fl, e', R, h, k⟩
  obtain ⟨r, e1, h1, h2⟩ := bnd_eq h
  obtain ⟨d, e2, h3, h4⟩ := bnd_eq h2
  obtain ⟨u, e3, h5, h6⟩ := bnd_eq h4
  cases h6
  refine ⟨γ, e, Z, r, e1, R, h1, fun v H1 kp sh P => ?_⟩
  obtain ⟨Z1, h01, hf, R1, A1⟩ := P.one
  obtain ⟨Z2, h02, h21, R2, rp, sh2⟩ := als_ok h3 h01 R1 A1
  have R2' := R2.down h02
  refine ⟨γ, e2, Z, d, _, R2', Rp.stay (stay_refl fun a o _ z => z.imp id (Or.imp id (h02 a))) d rp, h5, fun σ' R3 s3 _ _ => ?_⟩
  exact k γ σ' H1 ((Stp.ev kp (sh.trans sh2)).trans s3) R3)
end

/-! ### locks -/
def lock1 : Option Nat → En → En
  | none, e => e
  | some i, e => match e.ρ[i]? with
    | some (some (.ow d)) => e.st i (some (.bo d))
    | _ => e
def unlock1 : Option Nat → En → En
  | none, e => e
  | some i, e => match e.ρ[i]? with
    | some (some (.bo d)) => e.st i (some (.ow d))
    | _ => e
/-- the slot to be locked holds an object of its own -/
def lockable : Option Nat → En → Bool
  | none, _ => true
  | some i, e => match e.ρ[i]? with
    | some (some (.ow _)) => true
    | _ => false
section
variable {K : PySem.W.Frag} {γ γ' : List Addr} {e e1 e' : En} {σ σ' : L2.St} {H H' : Hp} {Z Z' : Addr → Prop} {lk : Option Nat}
theorem lock_cases (h : lockable lk e = true) : (lk = none) ∨ ∃ i d, lk = some i ∧ e.ρ[i]? = some (some (.ow d)) ∧ lock1 lk e = e.st i (some (.bo d)) := by
  cases lk with
  | none => exact .inl rfl
  | some i =>
    have h' : (match e.ρ[i]? with
      | some (some (.ow _)) => true
      | _ => false) = true := h
    cases q : e.ρ[i]? with
    | none => rw [q] at h'; cases h'
    | some o =>
      cases o with
      | none => rw [q] at h'; cases h'
      | some x =>
        cases x with
        | ow d =>
          refine .inr ⟨i, d, rfl, q, ?_⟩
          show (match e.ρ[i]? with
            | some (some (.ow d)) => e.st i (some (.bo d))
            | _ => e) = _
          rw [q]
        | fz d => rw [q] at h'; cases h'
        | bo d => rw [q] at h'; cases h'
        | pt d => rw [q] at h'; cases h'
/-- a slot's kind is turned between own and borrowed -/
theorem mut_turn {i : Nat} {s s' : Sl} (hi : e.ρ[i]? = some (some s)) (m : s.isMu = true) (m' : s'.isMu = true) (a : Addr) : MutA (e.st i (some s')).ρ σ a ↔ MutA e.ρ σ a := by
  have hl := (List.getElem?_eq_some_iff.mp hi).1
  constructor
  · rintro ⟨j, x, h1, mx, h2⟩
    rcases set_get h1 with ⟨rfl, e1⟩ | ⟨ne, h1⟩
    · exact ⟨_, s, hi, m, h2⟩
    · exact ⟨j, x, h1, mx, h2⟩
  · rintro ⟨j, x, h1, mx, h2⟩
    by_cases ej : j = i
    · subst ej; exact ⟨j, s', List.getElem?_set_self hl, m', h2⟩
    · exact ⟨j, x, by show (e.ρ.set i _)[j]? = _; rw [List.getElem?_set_ne (Ne.symm ej)]; exact h1, mx, h2⟩
theorem Rep.lock (R : Rep K γ e σ H Z) (h : lockable lk e = true) : Rep K γ (lock1 lk e) σ H Z := by
  rcases lock_cases h with rfl | ⟨i, d, rfl, hi, el⟩
  · exact R
  · rw [el]
    have hl := (List.getElem?_eq_some_iff.mp hi).1
    have mt := mut_turn (σ := σ) (s' := .bo d) hi rfl rfl
    have st : Stay H H (Hid γ e.ρ σ Z) (Hid γ (e.st i (some (.bo d))).ρ σ Z) := stay_refl fun a o _ z => z.imp (mt a).mp id
    refine ⟨by simp [R.len], fun j x hj => ?_, fun j x a hj m h2 => ?_, fun j d' a hj h2 j' x h3 m h4 => ?_, R.cl, R.nd, R.cell, R.cz, R.zt⟩
    · rcases set_get hj with ⟨rfl, e1⟩ | ⟨ne, hj⟩
      · cases e1
        obtain ⟨v, hv, a, rfl, c⟩ := R.slot _ _ hi
        exact ⟨_, hv, a, rfl, c.stay st fun o ho => ho⟩
      · obtain ⟨v, hv, ok⟩ := R.slot j x hj
        exact ⟨v, hv, ok.stay st fun _ _ _ o ho => ho⟩
    · rcases set_get hj with ⟨rfl, e1⟩ | ⟨ne, hj⟩
      · exact R.mu _ _ a hi rfl h2
      · exact R.mu j x a hj m h2
    · rcases set_get hj with ⟨q0, e1⟩ | ⟨ne, g1⟩
      · cases e1
      · rcases set_get h3 with ⟨q, e1⟩ | ⟨ne', g3⟩
        · subst q; exact R.own j d' a g1 h2 _ _ hi rfl h4
        · exact R.own j d' a g1 h2 j' x g3 m h4
theorem lock_mut (h : lockable lk e = true) (a : Addr) : MutA (lock1 lk e).ρ σ a ↔ MutA e.ρ σ a := by
  rcases lock_cases h with rfl | ⟨i, d, rfl, hi, el⟩
  · exact Iff.rfl
  · rw [el]; exact mut_turn hi rfl rfl a
/-- behind a block that ran locked -/
theorem Stp.unlock (R : Rep K γ e σ H Z) (hl : lockable lk e = true) (s : Stp γ (lock1 lk e) σ H γ' e' σ' H') : Stp γ e σ H γ' (unlock1 lk e') σ' H' := by
  rcases lock_cases hl with rfl | ⟨i, d, rfl, hi, el⟩
  · exact s
  · rw [el] at s
    have hil := (List.getElem?_eq_some_iff.mp hi).1
    obtain ⟨b1, b2⟩ := s.bo i d (List.getElem?_set_self hil)
    have eu : unlock1 (some i) e' = e'.st i (some (.ow d)) := by
      show (match e'.ρ[i]? with
        | some (some (.bo d)) => e'.st i (some (.ow d))
        | _ => e') = _
      rw [b1]
    rw [eu]
    have oL : ∀ a, OwnA (e.st i (some (.bo d))).ρ σ a → OwnA e.ρ σ a := fun a ⟨j, x, h1, h2⟩ => by
      rcases set_get h1 with ⟨_, e1⟩ | ⟨ne, h1⟩
      · cases e1
      · exact ⟨j, x, h1, h2⟩
    refine ⟨s.pre, s.nw, fun a o h n g => s.st a o h (fun z => n (oL a z)) g, s.th, fun a h => ?_, fun a h => ?_, fun j d' h => ?_, fun j d' h => ?_, by rw [show (e'.st i (some (.ow d))).ρ.length = e'.ρ.length by simp, s.ln]; simp⟩
    · exact (s.mu a ((mut_turn b1 rfl rfl a).mp h)).imp (mut_turn hi rfl rfl a).mp id
    · obtain ⟨j, x, h1, h2⟩ := h
      rcases set_get h1 with ⟨q, e1⟩ | ⟨ne, h1⟩
      · subst q; rw [b2] at h2; exact .inl ⟨j, d, hi, h2⟩
      · exact (s.ow a ⟨j, x, h1, h2⟩).imp (oL a) id
    · have ne : j ≠ i := fun z => by subst z; rw [hi] at h; cases h
      obtain ⟨h1, h2⟩ := s.bo j d' (by show (e.ρ.set i _)[j]? = _; rw [List.getElem?_set_ne (Ne.symm ne)]; exact h)
      exact ⟨by show (e'.ρ.set i _)[j]? = _; rw [List.getElem?_set_ne (Ne.symm ne)]; exact h1, h2⟩
    · rcases set_get h with ⟨_, e1⟩ | ⟨ne, h1⟩
      · cases e1
      · have := s.bb j d' h1
        rcases set_get this with ⟨q, e1⟩ | ⟨_, h2⟩
        · exact absurd q ne
        · exact h2
theorem Rep.unlock (R : Rep K γ e σ H Z) (hl : lockable lk e = true) (s : Stp γ (lock1 lk e) σ H γ' e' σ' H') (R' : Rep K γ' e' σ' H' Z') : Rep K γ' (unlock1 lk e') σ' H' Z' := by
  rcases lock_cases hl with rfl | ⟨i, d, rfl, hi, el⟩
  · exact R'
  · rw [el] at s
    have hil := (List.getElem?_eq_some_iff.mp hi).1
    obtain ⟨b1, b2⟩ := s.bo i d (List.getElem?_set_self hil)
    have eu : unlock1 (some i) e' = e'.st i (some (.ow d)) := by
      show (match e'.ρ[i]? with
        | some (some (.bo d)) => e'.st i (some (.ow d))
        | _ => e') = _
      rw [b1]
    rw [eu]
    have mt := mut_turn (σ := σ') (s' := .ow d) b1 rfl rfl
    have st : Stay H' H' (Hid γ' e'.ρ σ' Z') (Hid γ' (e'.st i (some (.ow d))).ρ σ' Z') := stay_refl fun a o _ z => z.imp (mt a).mp id
    obtain ⟨v0, hv0, a0, ev, c0⟩ := R.slot i _ hi
    subst ev
    have uniq : ∀ (j : Nat) (x : Sl), e'.ρ[j]? = some (some x) → x.isMu = true → σ'[j]? = some (some (.ref a0)) → j = i := fun j x h m h2 => by
      cases x with
      | fz _ => cases m
      | pt _ => cases m
      | ow d' =>
        rcases s.ow a0 ⟨j, d', h, h2⟩ with ⟨l, d2, h3, h4⟩ | z
        · rcases set_get h3 with ⟨q, e1⟩ | ⟨ne, h3⟩
          · cases e1
          · exact absurd (R.own i d a0 hi hv0 l _ h3 rfl h4) ne
        · obtain ⟨o, ho⟩ := c0.there
          rw [ho] at z; cases z
      | bo d' =>
        have h3 := s.bb j d' h
        obtain ⟨_, h4⟩ := s.bo j d' h3
        rw [h4] at h2
        rcases set_get h3 with ⟨q, e1⟩ | ⟨ne, h3⟩
        · exact q
        · exact R.own i d a0 hi hv0 j _ h3 rfl h2
    refine ⟨by simp [R'.len], fun j x hj => ?_, fun j x a hj m h2 => ?_, fun j d' a hj h2 j' x h3 m h4 => ?_, R'.cl, R'.nd, R'.cell, R'.cz, R'.zt⟩
    · rcases set_get hj with ⟨q, e1⟩ | ⟨ne, hj⟩
      · subst q
        cases e1
        obtain ⟨v, hv, a, rfl, c⟩ := R'.slot _ _ b1
        exact ⟨_, hv, a, rfl, c.stay st fun o ho => ho⟩
      · obtain ⟨v, hv, ok⟩ := R'.slot j x hj
        exact ⟨v, hv, ok.stay st fun _ _ _ o ho => ho⟩
    · rcases set_get hj with ⟨q, e1⟩ | ⟨ne, hj⟩
      · subst q; exact R'.mu _ _ a b1 rfl h2
      · exact R'.mu j x a hj m h2
    · rcases set_get hj with ⟨q, e1⟩ | ⟨ne, _⟩
      · subst q
        rw [b2, hv0] at h2
        cases h2
        rcases set_get h3 with ⟨q, e1⟩ | ⟨ne', h3⟩
        · exact q
        · exact uniq j' x h3 m h4
      · rename_i g1
        rcases set_get h3 with ⟨q, e1⟩ | ⟨ne', g3⟩
        · subst q
          rw [b2, hv0] at h4
          cases h4
          exact absurd (uniq j _ g1 rfl h2) ne
        · exact R'.own j d' a g1 h2 j' x g3 m h4
theorem unlock_mut (R : Rep K γ e σ H Z) (hl : lockable lk e = true) (s : Stp γ (lock1 lk e) σ H γ' e' σ' H') (a : Addr) : MutA (unlock1 lk e').ρ σ' a ↔ MutA e'.ρ σ' a := by
  rcases lock_cases hl with rfl | ⟨i, d, rfl, hi, el⟩
  · exact Iff.rfl
  · rw [el] at s
    obtain ⟨b1, b2⟩ := s.bo i d (List.getElem?_set_self (List.getElem?_eq_some_iff.mp hi).1)
    have eu : unlock1 (some i) e' = e'.st i (some (.ow d)) := by
      show (match e'.ρ[i]? with
        | some (some (.bo d)) => e'.st i (some (.ow d))
        | _ => e') = _
      rw [b1]
    rw [eu]
    exact mut_turn b1 rfl rfl a
end
end DV
end
section
set_option Elab.async false
set_option linter.all false
set_option maxRecDepth 100000
namespace DV
open PySem PySem.Spec PyProof.Rows L2

/-! ### what is walked -/
/-- J yields what stands for ds, as long as P holds -/
structure Wk (K : PySem.W.Frag) (J : It) (ds : List D) (need : List (Addr × HO)) (P : Hp → (Addr → Prop) → Prop) : Prop where
  go : ∀ i H O, P H O → i < ds.length → J.go i H
  yl : ∀ i H O x H' d, P H O → (∀ a, O a → ∃ o, H a = some o) → ds[i]? = some d → J.yld i H x H' → Same H H' ∧ Rp K H' O x d
  st : ∀ H O, P H O → J.stop ds.length H
  kp : ∀ H H' O O', P H O → Stay H H' O O' → (∀ p ∈ need, H' p.1 = some p.2) → P H' O'
  nd : ∀ H O, P H O → ∀ p ∈ need, H p.1 = some p.2
  ln : ds.length ≤ sizeLine
abbrev Src := M (List D × Option Nat)
def tI (K : PySem.W.Frag) (f : Src) : TI := fun σ H R => ∃ γ e Z ds lk e', Rep K γ e σ H Z ∧ f e = some ((ds, lk), e') ∧ lockable lk e' = true ∧ ∀ J H', Kp γ e.ρ σ H H' → Sh e e' →
  (∃ Z' : Addr → Prop, (∀ a, Z a → Z' a) ∧ (∀ a, Z' a → Z a ∨ H a = none) ∧ Rep K γ e' σ H' Z' ∧ ∃ need P, Wk K J ds need P ∧ P H' (Hid γ e'.ρ σ Z') ∧ ∀ p ∈ need, p.1 ∉ γ ∧ ¬ OwnA (lock1 lk e').ρ σ p.1) → R J H'
theorem PI.weak {X : Cx} {tg e : Expr} {t t' : TI} (h : PI X tg e t) (w : ∀ σ H Q, t' σ H Q → t σ H Q) : PI X tg e t' := ⟨fun pins s σ H Q I q => h.run pins s σ H Q I (w σ H Q q)⟩

/-! ### for -/
def forL (t : D → M Unit) (b : M Fl) : List D → M Fl
  | [] => ret .nx
  | d :: ds => fun e => match t d e with
    | some (_, e1) => match b e1 with
      | some (.nx, e2) => forL t b ds e2
      | some (.ct, e2) => forL t b ds e2
      | some (.bk, e2) => some (.nx, e2)
      | some (.rt r, e2) => some (.rt r, e2)
      | none => none
    | none => none
def forS (src : Src) (t : D → M Unit) (b : M Fl) : M Fl := bnd src fun p => fun e =>
  if lockable p.2 e = true then match forL t b p.1 (lock1 p.2 e) with
    | some (fl, e') => some (fl, unlock1 p.2 e')
    | none => none
  else none
section
variable {X : Cx} {K : PySem.W.Frag}
theorem tS_for {src : Src} {t : D → M Unit} {b : M Fl} {S : List Nat} : ∀ D σ H, tS K (forS src t b) D σ H → tFor (tI K src) (tG K S t) (tS K b) D σ H := by
  rintro D σ H ⟨γ, e, Z, fl, e', R, h, k⟩
  obtain ⟨⟨ds, lk⟩, e1, h1, h2⟩ := bnd_eq h
  by_cases hl : lockable lk e1 = true
  case neg => simp only [if_neg hl] at h2; cases h2
  simp only [if_pos hl] at h2
  cases q : forL t b ds (lock1 lk e1) with
  | none => rw [q] at h2; cases h2
  | some p =>
    obtain ⟨fl', eE⟩ := p
    rw [q] at h2
    cases h2
    refine ⟨γ, e, Z, ds, lk, e1, R, h1, hl, fun J H1 kp sh ⟨Z1, h01, hf, R1, need, P, W, p1, hn⟩ => ?_⟩
    have RL : Rep K γ (lock1 lk e1) σ H1 Z1 := R1.lock hl
    have pL : P H1 (Hid γ (lock1 lk e1).ρ σ Z1) := W.kp _ _ _ _ p1 (stay_refl fun a o _ z => z.imp (lock_mut hl a).mp id) (W.nd _ _ p1)
    -- what holds of the walk at a later point
    have later : ∀ {γ' : List Addr} {e' : En} {σ' : L2.St} {H' : Hp}, Stp γ (lock1 lk e1) σ H1 γ' e' σ' H' → P H' (Hid γ' e'.ρ σ' Z1) := fun {γ' e' σ' H'} s =>
      W.kp _ _ _ _ pL (s.stay fun a z => .inl z) fun p hp => s.st p.1 p.2 (W.nd _ _ pL p hp) (hn p hp).2 (hn p hp).1
    -- the ends
    have fin : ∀ {γ' : List Addr} {σ' : L2.St} {H' : Hp} {e2 : En}, Stp γ (lock1 lk e1) σ H1 γ' e2 σ' H' → Rep K γ' e2 σ' H' Z1 → Stp γ e σ H γ' (unlock1 lk e2) σ' H' ∧ Rep K γ' (unlock1 lk e2) σ' H' Z := fun {γ' σ' H' e2} s R' =>
      ⟨(Stp.ev kp sh).trans (Stp.unlock R1 hl s), (Rep.unlock R1 hl s R').down h01⟩
    refine ⟨fun i m σ' H' => m + i = ds.length ∧ ∃ γ' ei, Stp γ (lock1 lk e1) σ H1 γ' ei σ' H' ∧ Rep K γ' ei σ' H' Z1 ∧ forL t b (ds.drop i) ei = some (fl, eE), ⟨ds.length, rfl, γ, _, Stp.refl, RL, q⟩, ?_⟩
    rintro i m σ' H' ⟨em, γ', ei, s, R', hq⟩
    by_cases hi : i < ds.length
    · rw [List.drop_eq_getElem_cons hi] at hq
      have hq' : (match t ds[i] ei with
        | some (_, e1) => match b e1 with
          | some (.nx, e2) => forL t b (ds.drop (i + 1)) e2
          | some (.ct, e2) => forL t b (ds.drop (i + 1)) e2
          | some (.bk, e2) => some (.nx, e2)
          | some (.rt r, e2) => some (.rt r, e2)
          | none => none
        | none => none) = some (fl, eE) := hq
      refine .inr ⟨W.go i _ _ (later s) hi, fun σ' H' => ∃ γ' ei, Stp γ (lock1 lk e1) σ H1 γ' ei σ' H' ∧ Rep K γ' ei σ' H' Z1 ∧ forL t b (ds.drop (i + 1)) ei = some (fl, eE), fun σ2 H2 hN => ?_, fun x H2 hy => ?_⟩
      · obtain ⟨γ2, e2, s2, R2, q2⟩ := hN
        exact ⟨m - 1, by omega, by omega, γ2, e2, s2, R2, q2⟩
      · obtain ⟨sm, rp⟩ := W.yl i _ _ x H2 ds[i] (later s) (fun a ha => Hid.tr R' ha) (List.getElem?_eq_getElem hi) hy
        cases q1 : t ds[i] ei with
        | none => rw [q1] at hq'; cases hq'
        | some p1 =>
          obtain ⟨u, ea⟩ := p1
          rw [q1] at hq'
          have hq2 : (match b ea with
            | some (.nx, e2) => forL t b (ds.drop (i + 1)) e2
            | some (.ct, e2) => forL t b (ds.drop (i + 1)) e2
            | some (.bk, e2) => some (.nx, e2)
            | some (.rt r, e2) => some (.rt r, e2)
            | none => none) = some (fl, eE) := hq'
          have Rg : Rep K γ' ei σ' H2 Z1 := R'.grow sm fun a z => .inl z
          have sg : Stp γ (lock1 lk e1) σ H1 γ' ei σ' H2 := s.trans (Stp.ev (Kp.of_same sm) (Sh.refl ei))
          refine ⟨γ', ei, Z1, ds[i], ea, Rg, rp, q1, fun σ2 R2 s2 _ _ => ?_⟩
          cases q3 : b ea with
          | none => rw [q3] at hq2; cases hq2
          | some p3 =>
            obtain ⟨fl3, eb⟩ := p3
            rw [q3] at hq2
            refine ⟨γ', ea, Z1, fl3, eb, R2, q3, ?_⟩
            have sa := sg.trans s2
            cases fl3 with
            | nx => exact fun γ3 σ3 H3 s3 R3 => ⟨γ3, eb, sa.trans s3, R3, hq2⟩
            | ct => exact fun γ3 σ3 H3 s3 R3 => ⟨γ3, eb, sa.trans s3, R3, hq2⟩
            | bk =>
              cases hq2
              intro γ3 σ3 H3 s3 R3
              obtain ⟨a1, a2⟩ := fin (sa.trans s3) R3
              exact k γ3 σ3 H3 a1 a2
            | rt r =>
              cases hq2
              intro γ3 σ3 v H3 s3 P3
              have sall := sa.trans s3
              have P3' := P3.back sa
              obtain ⟨Z3, g1, g2, g3, g4⟩ := P3'
              refine k γ3 σ3 v H3 ((Stp.ev kp sh).trans (Stp.unlock R1 hl sall)) ⟨Z3, fun a z => g1 a (h01 a z), fun a z => ?_, Rep.unlock R1 hl sall g3, ?_⟩
              · rcases g2 a z with z | z | z
                · exact (hf a z).imp id .inl
                · exact .inr (.inl (kp.none z))
                · refine .inr (.inr (sh.own ?_))
                  rcases lock_cases hl with rfl | ⟨j, d, rfl, hj, el⟩
                  · exact z
                  · rw [el] at z
                    obtain ⟨l, x, h1, h2⟩ := z
                    rcases set_get h1 with ⟨_, e1⟩ | ⟨ne, h1⟩
                    · cases e1
                    · exact ⟨l, x, h1, h2⟩
              · have um := unlock_mut R1 hl sall
                cases r with
                | sl j => exact g4
                | fz d => exact Rp.stay (stay_refl fun a o _ z => z.imp (um a).mp id) d g4
                | fr d =>
                  obtain ⟨p, ep, hp, np, c⟩ := g4
                  exact ⟨p, ep, hp, fun z => np (h01 p z), c.stay (stay_refl fun a o _ z => z.imp (um a).mp id) fun o ho => ho⟩
    · have e0 : i = ds.length := by omega
      subst e0
      rw [List.drop_length] at hq
      cases hq
      obtain ⟨a1, a2⟩ := fin s R'
      exact .inl ⟨W.st _ _ (later s), k γ' σ' H' a1 a2⟩
theorem ds_for {tg iter : Expr} {body : List Stmt} {pos : Pos} {src : Src} {t : D → M Unit} {b : M Fl} {S : List Nat} (hi : PI X tg iter (tI X.K src)) (hg : PG X tg (tG X.K S t)) (hb : PSs X body (tS X.K b))
    (hp : PassesOwn (model X.prog X.w) X.A X.env X.xe := by exact PassesOwn.never) (hc : X.calm = true := by rfl) (hs : ∀ x, foldedSetIterable iter X.env x = pure x := by intro _; rfl) : PS X (.For tg iter body [] pos) (tS X.K (forS src t b)) :=
  PS.weak (ps_for hp hc hi hg hb hs) tS_for

/-! ### while -/
def whlL (c : M Bool) (b : M Fl) : Nat → M Fl
  | 0 => noM
  | n + 1 => bnd c fun x => if x = true then (fun e => match b e with
      | some (.nx, e2) => whlL c b n e2
      | some (.ct, e2) => whlL c b n e2
      | some (.bk, e2) => some (.nx, e2)
      | some (.rt r, e2) => some (.rt r, e2)
      | none => none) else ret .nx
theorem tS_while {c : M Bool} {b : M Fl} {n : Nat} : ∀ D σ H, tS K (whlL c b n) D σ H → tWhile (tT K c) (tS K b) D σ H := by
  rintro D σ H ⟨γ, e, Z, fl, eE, R, h, k⟩
  refine ⟨fun m σ' H' => ∃ γ' ei, Stp γ e σ H γ' ei σ' H' ∧ Rep K γ' ei σ' H' Z ∧ whlL c b m ei = some (fl, eE), ⟨n, γ, e, Stp.refl, R, h⟩, ?_⟩
  rintro m σ' H' ⟨γ', ei, s, R', hq⟩
  cases m with
  | zero => cases hq
  | succ m =>
    obtain ⟨x, e1, h1, h2⟩ := bnd_eq hq
    refine ⟨γ', ei, Z, x, e1, R', h1, fun H1 kp sh R1 => ?_⟩
    have s1 := s.trans (Stp.ev kp sh)
    cases x with
    | false =>
      cases h2
      exact iteF (k γ' σ' H1 s1 R1)
    | true =>
      refine iteT ⟨fun σ2 H2 => ∃ γ' ei, Stp γ e σ H γ' ei σ2 H2 ∧ Rep K γ' ei σ2 H2 Z ∧ whlL c b m ei = some (fl, eE), fun σ2 H2 hN => ⟨m, Nat.lt_succ_self m, hN⟩, ?_⟩
      have h3 : (match b e1 with
        | some (.nx, e2) => whlL c b m e2
        | some (.ct, e2) => whlL c b m e2
        | some (.bk, e2) => some (.nx, e2)
        | some (.rt r, e2) => some (.rt r, e2)
        | none => none) = some (fl, eE) := h2
      cases q3 : b e1 with
      | none => rw [q3] at h3; cases h3
      | some p3 =>
        obtain ⟨fl3, eb⟩ := p3
        rw [q3] at h3
        refine ⟨γ', e1, Z, fl3, eb, R1, q3, ?_⟩
        cases fl3 with
        | nx => exact fun γ3 σ3 H3 s3 R3 => ⟨γ3, eb, s1.trans s3, R3, h3⟩
        | ct => exact fun γ3 σ3 H3 s3 R3 => ⟨γ3, eb, s1.trans s3, R3, h3⟩
        | bk => cases h3; exact fun γ3 σ3 H3 s3 R3 => k γ3 σ3 H3 (s1.trans s3) R3
        | rt r => cases h3; exact fun γ3 σ3 v H3 s3 P3 => k γ3 σ3 v H3 (s1.trans s3) (P3.back s1)
theorem ds_while {c : Expr} {body : List Stmt} {pos : Pos} {tc : M Bool} {b : M Fl} (n : Nat) (hc : PT X c (tT X.K tc)) (hb : PSs X body (tS X.K b)) (hp : PassesOwn (model X.prog X.w) X.A X.env X.xe := by exact PassesOwn.never) : PS X (.While c body [] pos) (tS X.K (whlL tc b n)) :=
  PS.weak (ps_while hp hc hb) tS_while
end
end DV
end
section
set_option Elab.async false
set_option linter.all false
set_option maxRecDepth 100000
namespace DV
open PySem PySem.Spec PyProof.Rows L2

/-! ### comprehensions -/
def wipeR (ρ : List (Option Sl)) : List Nat → List (Option Sl)
  | [] => ρ
  | v :: vs => (wipeR ρ vs).set v none
abbrev wipeE (own : List Nat) (e : En) : En := { e with ρ := wipeR e.ρ own }
/-- the block's own names get back what they were -/
def backR (ρ0 ρ : List (Option Sl)) : List Nat → List (Option Sl)
  | [] => ρ
  | v :: vs => match ρ0[v]? with
    | some s => (backR ρ0 ρ vs).set v s
    | none => backR ρ0 ρ vs
def plainO (own : List Nat) (e : En) : Bool := own.all fun i => match e.ρ[i]? with
  | some none => true
  | some (some (.fz _)) => true
  | _ => false
def lcL (own : List Nat) (t : D → M Unit) (c : M Bool) (el : M Rs) : List D → M (List D)
  | [] => ret []
  | d :: ds => bnd (t d) fun _ => bnd c fun b => if b = true then bnd el fun r => bnd (als r) fun y => fun e => (bnd (lcL own t c el ds) fun ys => ret (y :: ys)) (wipeE own e)
    else fun e => lcL own t c el ds (wipeE own e)
def lcM (own : List Nat) (src : Src) (t : D → M Unit) (c : M Bool) (el : M Rs) : M Rs := bnd src fun p => fun e =>
  if lockable p.2 e = true ∧ plainO own (lock1 p.2 e) = true then match lcL own t c el p.1 (wipeE own (lock1 p.2 e)) with
    | some (xs, e') => some (.fr (.list xs), unlock1 p.2 { e' with ρ := backR (lock1 p.2 e).ρ e'.ρ own })
    | none => none
  else none
section
theorem wipeR_len (ρ : List (Option Sl)) : ∀ vs, (wipeR ρ vs).length = ρ.length
  | [] => rfl
  | v :: vs => by unfold wipeR; rw [List.length_set, wipeR_len ρ vs]
theorem wipeR_out {ρ : List (Option Sl)} {j : Nat} : ∀ {vs : List Nat}, j ∉ vs → (wipeR ρ vs)[j]? = ρ[j]?
  | [], _ => rfl
  | v :: vs, h => by
    simp only [List.mem_cons, not_or] at h
    unfold wipeR
    rw [List.getElem?_set_ne (Ne.symm h.1), wipeR_out h.2]
theorem wipeR_in {ρ : List (Option Sl)} {j : Nat} {s : Sl} : ∀ {vs : List Nat}, (wipeR ρ vs)[j]? = some (some s) → j ∉ vs ∧ ρ[j]? = some (some s)
  | [], h => ⟨by simp, h⟩
  | v :: vs, h => by
    unfold wipeR at h
    rcases set_get h with ⟨_, e⟩ | ⟨ne, h⟩
    · cases e
    · obtain ⟨h1, h2⟩ := wipeR_in h
      exact ⟨by simp only [List.mem_cons, not_or]; exact ⟨ne, h1⟩, h2⟩
theorem wipe_out' {σ : L2.St} {j : Nat} : ∀ {vs : List Nat}, j ∉ vs → (L2.wipe σ vs)[j]? = σ[j]?
  | [], _ => rfl
  | v :: vs, h => by
    simp only [List.mem_cons, not_or] at h
    unfold L2.wipe
    rw [List.getElem?_set_ne (Ne.symm h.1), wipe_out' h.2]
theorem wipe_at {σ : L2.St} {j : Nat} : ∀ {vs : List Nat}, j ∈ vs → j < σ.length → (L2.wipe σ vs)[j]? = some none
  | [], h, _ => by simp at h
  | v :: vs, h, hl => by
    unfold L2.wipe
    by_cases e : j = v
    · subst e; rw [List.getElem?_set_self (by rw [L2.wipe_length]; exact hl)]
    · rw [List.getElem?_set_ne (Ne.symm e)]
      exact wipe_at (by simpa [e] using h) hl
theorem wipe_eq {σ σ' : L2.St} {vs : List Nat} (hl : σ'.length = σ.length) (h : ∀ j, j ∉ vs → σ'[j]? = σ[j]?) : L2.wipe σ' vs = L2.wipe σ vs := by
  refine List.ext_getElem? fun j => ?_
  by_cases c : j ∈ vs
  · by_cases hj : j < σ.length
    · rw [wipe_at c hj, wipe_at c (by omega)]
    · rw [List.getElem?_eq_none (by rw [L2.wipe_length]; omega), List.getElem?_eq_none (by rw [L2.wipe_length]; omega)]
  · rw [wipe_out' c, wipe_out' c, h j c]
theorem backR_len (ρ0 ρ : List (Option Sl)) : ∀ vs, (backR ρ0 ρ vs).length = ρ.length
  | [] => rfl
  | v :: vs => by
    unfold backR
    split
    · rw [List.length_set, backR_len ρ0 ρ vs]
    · exact backR_len ρ0 ρ vs
theorem backR_out {ρ0 ρ : List (Option Sl)} {j : Nat} : ∀ {vs : List Nat}, j ∉ vs → (backR ρ0 ρ vs)[j]? = ρ[j]?
  | [], _ => rfl
  | v :: vs, h => by
    simp only [List.mem_cons, not_or] at h
    unfold backR
    split
    · rw [List.getElem?_set_ne (Ne.symm h.1), backR_out h.2]
    · exact backR_out h.2
theorem backR_in {ρ0 ρ : List (Option Sl)} {j : Nat} {s : Sl} : ∀ {vs : List Nat}, (backR ρ0 ρ vs)[j]? = some (some s) → (j ∈ vs ∧ ρ0[j]? = some (some s)) ∨ ρ[j]? = some (some s)
  | [], h => .inr h
  | v :: vs, h => by
    unfold backR at h
    split at h
    · rename_i x hx
      rcases set_get h with ⟨e1, e2⟩ | ⟨ne, h⟩
      · subst e1
        exact .inl ⟨List.mem_cons_self .., by rw [hx, e2]⟩
      · exact (backR_in h).imp (fun z => ⟨List.mem_cons_of_mem _ z.1, z.2⟩) id
    · exact (backR_in h).imp (fun z => ⟨List.mem_cons_of_mem _ z.1, z.2⟩) id
theorem plainO_in {own : List Nat} {e : En} {j : Nat} {s : Sl} (h : plainO own e = true) (hj : j ∈ own) (q : e.ρ[j]? = some (some s)) : ∃ d, s = .fz d := by
  have := List.all_eq_true.mp h j hj
  rw [q] at this
  cases s with
  | fz d => exact ⟨d, rfl⟩
  | ow d => cases this
  | bo d => cases this
  | pt d => cases this
end
section
variable {K : PySem.W.Frag} {γ γ' : List Addr} {e e1 eL eB ei : En} {σ σ' : L2.St} {H H1 H' : Hp} {Z Z1 : Addr → Prop} {own : List Nat}
theorem wipe_mut {a : Addr} (h : MutA (wipeE own e).ρ (L2.wipe σ own) a) : MutA e.ρ σ a := by
  obtain ⟨j, x, h1, m, h2⟩ := h
  obtain ⟨nj, h3⟩ := wipeR_in h1
  rw [wipe_out' nj] at h2
  exact ⟨j, x, h3, m, h2⟩
theorem wipe_own {a : Addr} (h : OwnA (wipeE own e).ρ (L2.wipe σ own) a) : OwnA e.ρ σ a := by
  obtain ⟨j, x, h1, h2⟩ := h
  obtain ⟨nj, h3⟩ := wipeR_in h1
  rw [wipe_out' nj] at h2
  exact ⟨j, x, h3, h2⟩
theorem Rep.wipe (R : Rep K γ e σ H Z) : Rep K γ (wipeE own e) (L2.wipe σ own) H Z := by
  have st : Stay H H (Hid γ e.ρ σ Z) (Hid γ (wipeE own e).ρ (L2.wipe σ own) Z) := stay_refl fun a o _ z => z.imp wipe_mut id
  refine ⟨by rw [L2.wipe_length, wipeR_len]; exact R.len, fun j x h => ?_, fun j x a h m h2 => ?_, fun j d a h h2 j' x h3 m h4 => ?_, R.cl, R.nd, R.cell, R.cz, R.zt⟩
  · obtain ⟨nj, h3⟩ := wipeR_in h
    obtain ⟨v, hv, ok⟩ := R.slot j x h3
    exact ⟨v, by rw [wipe_out' nj]; exact hv, ok.stay st fun _ _ _ o ho => ho⟩
  · obtain ⟨nj, h3⟩ := wipeR_in h
    rw [wipe_out' nj] at h2
    exact R.mu j x a h3 m h2
  · obtain ⟨nj, g1⟩ := wipeR_in h
    obtain ⟨nj', g3⟩ := wipeR_in h3
    rw [wipe_out' nj] at h2
    rw [wipe_out' nj'] at h4
    exact R.own j d a g1 h2 j' x g3 m h4
/-- what is hidden may change -/
theorem Rep.updZ {p : Addr} {o : HO} (R : Rep K γ e σ H Z) (hp : Z p) : Rep K γ e σ (upd H p o) Z := by
  have st : Stay H (upd H p o) (Hid γ e.ρ σ Z) (Hid γ e.ρ σ Z) := fun a x h n => ⟨by rw [upd_ne (fun (z : a = p) => n (.inr (.inr (by rw [z]; exact hp))))]; exact h, n⟩
  refine ⟨R.len, fun j x h => ?_, R.mu, R.own, R.cl, R.nd, fun k a x y h1 h2 => ?_, R.cz, fun a z => ?_⟩
  · obtain ⟨v, hv, ok⟩ := R.slot j x h
    refine ⟨v, hv, ok.stay st fun a ea m o' ho => ?_⟩
    subst ea
    rw [upd_ne (fun (z : a = p) => (R.mu j x a h m hv).1 (by rw [z]; exact hp))]
    exact ho
  · have ha : a ∈ γ := List.mem_of_getElem? h1
    rw [upd_ne (fun (z : a = p) => R.cz a ha (by rw [z]; exact hp))]
    exact R.cell k a x y h1 h2
  · by_cases c : a = p
    · exact ⟨o, by rw [c]; exact upd_same⟩
    · obtain ⟨o', ho⟩ := R.zt a z
      exact ⟨o', by rw [upd_ne c]; exact ho⟩
/-- the block's end: the own names are back -/
theorem Rep.backE (RL : Rep K γ eL σ H1 Z1) (pl : plainO own eL = true) (R : Rep K γ ei (L2.wipe σ own) H' Z) (hw : ∀ j ∈ own, ∀ s, ei.ρ[j]? ≠ some (some s)) (st : Stay H1 H' (Hid γ eL.ρ σ Z1) (Hid γ ei.ρ (L2.wipe σ own) Z)) :
    Rep K γ { ei with ρ := backR eL.ρ ei.ρ own } σ H' Z ∧ ∀ a, MutA (backR eL.ρ ei.ρ own) σ a → MutA ei.ρ (L2.wipe σ own) a := by
  have gg : ∀ {j : Nat} {x : Sl}, (backR eL.ρ ei.ρ own)[j]? = some (some x) → (j ∈ own ∧ eL.ρ[j]? = some (some x) ∧ x.isMu = false) ∨ (j ∉ own ∧ ei.ρ[j]? = some (some x)) := fun {j x} h => by
    rcases backR_in h with ⟨h1, h2⟩ | h
    · obtain ⟨d, rfl⟩ := plainO_in pl h1 h2
      exact .inl ⟨h1, h2, rfl⟩
    · by_cases c : j ∈ own
      · exact absurd h (hw j c x)
      · exact .inr ⟨c, h⟩
  have mm : ∀ a, MutA (backR eL.ρ ei.ρ own) σ a → MutA ei.ρ (L2.wipe σ own) a := fun a ⟨j, x, h1, m, h2⟩ => by
    rcases gg h1 with ⟨_, _, z⟩ | ⟨nj, h⟩
    · rw [z] at m; cases m
    · exact ⟨j, x, h, m, by rw [wipe_out' nj]; exact h2⟩
  refine ⟨⟨?_, fun j x h => ?_, fun j x a h m h2 => ?_, fun j d a h h2 j' x h3 m h4 => ?_, R.cl, R.nd, R.cell, R.cz, R.zt⟩, mm⟩
  · show σ.length = (backR eL.ρ ei.ρ own).length
    rw [backR_len, ← R.len, L2.wipe_length]
  · have st2 : Stay H' H' (Hid γ ei.ρ (L2.wipe σ own) Z) (Hid γ (backR eL.ρ ei.ρ own) σ Z) := stay_refl fun a o _ z => z.imp (mm a) id
    rcases gg h with ⟨h1, h2, z⟩ | ⟨nj, h⟩
    · obtain ⟨d, rfl⟩ := plainO_in pl h1 h2
      obtain ⟨v, hv, ok⟩ := RL.slot j _ h2
      exact ⟨v, hv, Rp.stay st2 d (Rp.stay st d ok)⟩
    · obtain ⟨v, hv, ok⟩ := R.slot j x h
      rw [wipe_out' nj] at hv
      exact ⟨v, hv, ok.stay st2 fun _ _ _ o ho => ho⟩
  · rcases gg h with ⟨_, _, z⟩ | ⟨nj, h⟩
    · rw [z] at m; cases m
    · exact R.mu j x a h m (by rw [wipe_out' nj]; exact h2)
  · rcases gg h with ⟨_, _, z⟩ | ⟨nj, h⟩
    · cases z
    · rcases gg h3 with ⟨_, _, z⟩ | ⟨nj', h3⟩
      · rw [z] at m; cases m
      · exact R.own j d a h (by rw [wipe_out' nj]; exact h2) j' x h3 m (by rw [wipe_out' nj']; exact h4)
theorem Sh.unlock {lk : Option Nat} (hl : lockable lk e1 = true) (s : Sh (lock1 lk e1) eB) : Sh e1 (unlock1 lk eB) := by
  rcases lock_cases hl with rfl | ⟨i, d, rfl, hi, el⟩
  · exact s
  · rw [el] at s
    have hil := (List.getElem?_eq_some_iff.mp hi).1
    have b1 := s.bo i d (List.getElem?_set_self hil)
    have eu : unlock1 (some i) eB = eB.st i (some (.ow d)) := by
      show (match eB.ρ[i]? with
        | some (some (.bo d)) => eB.st i (some (.ow d))
        | _ => eB) = _
      rw [b1]
    rw [eu]
    have back : ∀ {j : Nat} {x : Sl}, j ≠ i → (e1.st i (some (.bo d))).ρ[j]? = some (some x) → e1.ρ[j]? = some (some x) := fun {j x} ne h => by
      rcases set_get h with ⟨q, _⟩ | ⟨_, h⟩
      · exact absurd q ne
      · exact h
    refine ⟨fun j x h m => ?_, fun j d' h => ?_, fun j d' h => ?_, ?_⟩
    · rcases set_get h with ⟨q, e2⟩ | ⟨ne, h⟩
      · subst q; cases e2; exact ⟨_, hi, rfl, id⟩
      · obtain ⟨y, h1, h2, h3⟩ := s.m j x h m
        exact ⟨y, back ne h1, h2, h3⟩
    · have ne : j ≠ i := fun z => by subst z; rw [hi] at h; cases h
      have := s.bo j d' (by show (e1.ρ.set i _)[j]? = _; rw [List.getElem?_set_ne (Ne.symm ne)]; exact h)
      show (eB.ρ.set i _)[j]? = _
      rw [List.getElem?_set_ne (Ne.symm ne)]
      exact this
    · rcases set_get h with ⟨q, e2⟩ | ⟨ne, h⟩
      · cases e2
      · exact back ne (s.bb j d' h)
    · have := s.ln
      simp only [List.length_set] at this ⊢
      exact this
theorem lock_own {lk : Option Nat} (hl : lockable lk e1 = true) {a : Addr} (h : OwnA (lock1 lk e1).ρ σ a) : OwnA e1.ρ σ a := by
  rcases lock_cases hl with rfl | ⟨j, d, rfl, hj, el⟩
  · exact h
  · rw [el] at h
    obtain ⟨l, x, h1, h2⟩ := h
    rcases set_get h1 with ⟨_, e1⟩ | ⟨ne, h1⟩
    · cases e1
    · exact ⟨l, x, h1, h2⟩
end
end DV
end
section
set_option Elab.async false
set_option linter.all false
set_option maxRecDepth 100000
namespace DV
open PySem PySem.Spec PyProof.Rows L2
section
variable {X : Cx} {K : PySem.W.Frag}
theorem tE_lc {own : List Nat} {src : Src} {t : D → M Unit} {c : M Bool} {el : M Rs} {S : List Nat} (hS : ∀ j ∈ S, j ∈ own) : ∀ σ H Q, tE K (lcM own src t c el) σ H Q → tLc (tI K src) (tG K S t) (tT K c) (tE K el) own σ H Q := by
  rintro σ H Q ⟨γ, e, Z, r, e', R, h, k⟩
  obtain ⟨⟨ds, lk⟩, e1, h1, h2⟩ := bnd_eq h
  by_cases hlp : lockable lk e1 = true ∧ plainO own (lock1 lk e1) = true
  case neg => simp only [if_neg hlp] at h2; cases h2
  simp only [if_pos hlp] at h2
  obtain ⟨hl, pl⟩ := hlp
  cases q : lcL own t c el ds (wipeE own (lock1 lk e1)) with
  | none => rw [q] at h2; cases h2
  | some p =>
    obtain ⟨xs, eE⟩ := p
    rw [q] at h2
    cases h2
    refine ⟨γ, e, Z, ds, lk, e1, R, h1, hl, fun J H1 kp sh ⟨Z1, h01, hf, R1, need, P, W, p1, hn⟩ Da hD => ?_⟩
    have RL : Rep K γ (lock1 lk e1) σ H1 Z1 := R1.lock hl
    have pL : P H1 (Hid γ (lock1 lk e1).ρ σ Z1) := W.kp _ _ _ _ p1 (stay_refl fun a o _ z => z.imp (lock_mut hl a).mp id) (W.nd _ _ p1)
    let eL := lock1 lk e1
    let σw := L2.wipe σ own
    let ZD : Addr → Prop := fun a => Z1 a ∨ a = Da
    have tr1 : ∀ a o, H1 a = some o → a ≠ Da := fun a o ha z => by rw [z, hD] at ha; cases ha
    have nZD : ∀ a o, H1 a = some o → ZD a → Z1 a := fun a o ha z => z.resolve_right (tr1 a o ha)
    -- from the walk's start to a later point
    have later : ∀ {ei : En} {H' : Hp}, Kp γ (wipeE own eL).ρ σw H1 H' → Sh (wipeE own eL) ei → Stay H1 H' (Hid γ eL.ρ σ Z1) (Hid γ ei.ρ σw ZD) := fun {ei H'} kp2 sh2 a o ho n => by
      refine ⟨kp2.st a o ho (fun z => n (.inl (wipe_mut z.mu))) fun z => n (.inr (.inl z)), fun z => ?_⟩
      rcases z with z | z | z
      · exact n (.inl (wipe_mut (sh2.mu z)))
      · exact n (.inr (.inl z))
      · exact n (.inr (.inr (nZD a o ho z)))
    have atP : ∀ {ei : En} {H' : Hp}, Kp γ (wipeE own eL).ρ σw H1 H' → Sh (wipeE own eL) ei → P H' (Hid γ ei.ρ σw ZD) := fun {ei H'} kp2 sh2 =>
      W.kp _ _ _ _ pL (later kp2 sh2) fun p hp => kp2.st p.1 p.2 (W.nd _ _ pL p hp) (fun z => (hn p hp).2 (wipe_own z)) (hn p hp).1
    have smD : Same H1 (upd H1 Da (.lst [])) := same_upd hD
    have RwD : Rep K γ (wipeE own eL) σw (upd H1 Da (.lst [])) ZD := RL.wipe.grow smD fun a z => z.imp id fun z => by rw [z]; exact ⟨hD, _, upd_same⟩
    refine ⟨fun i m H' => m + i = ds.length ∧ ∃ ei accV accD rest, Kp γ (wipeE own eL).ρ σw H1 H' ∧ Sh (wipeE own eL) ei ∧ (∀ j ∈ own, ∀ s, ei.ρ[j]? ≠ some (some s)) ∧ Rep K γ ei σw H' ZD ∧ H' Da = some (.lst accV) ∧
      RpL K H' (Hid γ ei.ρ σw ZD) accV accD ∧ accD.length ≤ i ∧ lcL own t c el (ds.drop i) ei = some (rest, eE) ∧ accD ++ rest = xs, ⟨ds.length, rfl, wipeE own eL, [], [], xs, Kp.of_same smD, Sh.refl _, fun j hj s z => (wipeR_in z).1 hj, RwD, upd_same, .nil, Nat.le_refl _, q, rfl⟩, ?_⟩
    rintro i m H' ⟨em, ei, accV, accD, rest, kp2, sh2, hw, R', hacc, racc, hlen, hq, hxs⟩
    by_cases hi : i < ds.length
    · rw [List.drop_eq_getElem_cons hi] at hq
      obtain ⟨u, ea, ht, hq1⟩ := bnd_eq hq
      obtain ⟨b, eb, hc, hq2⟩ := bnd_eq hq1
      refine .inr ⟨W.go i _ _ (atP kp2 sh2) hi, fun H' => ∃ ei accV accD rest, Kp γ (wipeE own eL).ρ σw H1 H' ∧ Sh (wipeE own eL) ei ∧ (∀ j ∈ own, ∀ s, ei.ρ[j]? ≠ some (some s)) ∧ Rep K γ ei σw H' ZD ∧ H' Da = some (.lst accV) ∧
        RpL K H' (Hid γ ei.ρ σw ZD) accV accD ∧ accD.length ≤ i + 1 ∧ lcL own t c el (ds.drop (i + 1)) ei = some (rest, eE) ∧ accD ++ rest = xs, fun H2 hN => ⟨m - 1, by omega, by omega, hN⟩, fun x H2 hy => ?_⟩
      obtain ⟨sm, rp⟩ := W.yl i _ _ x H2 ds[i] (atP kp2 sh2) (fun a ha => Hid.tr R' ha) (List.getElem?_eq_getElem hi) hy
      have Rg : Rep K γ ei σw H2 ZD := R'.grow sm fun a z => .inl z
      refine ⟨γ, ei, ZD, ds[i], ea, Rg, rp, ht, fun σ2 R2 s2 o2 m2 => ?_⟩
      have l2 : σ2.length = σw.length := by rw [R2.len, R'.len, s2.ln]
      have eσ : L2.wipe σ2 own = σw := by
        have l3 : σw.length = σ.length := L2.wipe_length σ own
        refine wipe_eq (l2.trans l3) fun j hj => ?_
        rw [(o2 j fun z => hj (hS j z)).1, wipe_out' hj]
      refine ⟨eσ, γ, ea, ZD, b, eb, R2, hc, fun H3 kp3 sh3 R3 => ?_⟩
      -- what is not the block's own
      have oo : ∀ a, OwnA ea.ρ σ2 a → OwnA ei.ρ σw a := fun a ⟨j, x, h1, h2⟩ => by
        by_cases cj : j ∈ S
        · exact absurd (m2 j cj _ h1 rfl) (hw j (hS j cj) _)
        · obtain ⟨g1, g2⟩ := o2 j cj
          exact ⟨j, x, g2 ▸ h1, g1 ▸ h2⟩
      have kp03 : Kp γ (wipeE own eL).ρ σw H1 H3 := by
        refine kp2.trans sh2 ⟨fun a o ho n g => kp3.st a o (sm a o ho) (fun z => n (oo a z)) g, fun a o ho => kp3.th a o (sm a o ho)⟩
      have shT : ∀ {ez : En}, Sh ea ez → Sh (wipeE own eL) (wipeE own ez) := fun {ez} s => by
        refine sh2.trans ⟨fun j x h m => ?_, fun j d h => ?_, fun j d h => ?_, ?_⟩
        · obtain ⟨nj, h3⟩ := wipeR_in h
          obtain ⟨y, g1, g2, g3⟩ := s.m j x h3 m
          rw [(o2 j fun z => nj (hS j z)).2] at g1
          exact ⟨y, g1, g2, g3⟩
        · have nj : j ∉ own := fun z => hw j z _ h
          show (wipeR ez.ρ own)[j]? = _
          rw [wipeR_out nj]
          exact s.bo j d (by rw [(o2 j fun z => nj (hS j z)).2]; exact h)
        · obtain ⟨nj, h3⟩ := wipeR_in h
          have g := s.bb j d h3
          rw [(o2 j fun z => nj (hS j z)).2] at g
          exact g
        · show (wipeR ez.ρ own).length = _
          rw [wipeR_len, s.ln, s2.ln]
      have wipeN : ∀ (ez : En), ∀ j ∈ own, ∀ s, (wipeE own ez).ρ[j]? ≠ some (some s) := fun ez j hj s z => (wipeR_in z).1 hj
      -- the list so far
      have hD2 : H2 Da = some (.lst accV) := sm _ _ hacc
      have nD : ∀ {ez : En} {H9 : Hp} {σ9 : L2.St}, Rep K γ ez σ9 H9 ZD → ¬ OwnA ez.ρ σ9 Da ∧ Da ∉ γ := fun {ez H9 σ9} Rz => ⟨fun ⟨j, x, h1, h2⟩ => (Rz.mu j _ Da h1 rfl h2).1 (.inr rfl), fun z => Rz.cz Da z (.inr rfl)⟩
      have hD3 : H3 Da = some (.lst accV) := kp3.st _ _ hD2 (nD R2).1 (nD R2).2
      have stA : Stay H' H3 (Hid γ ei.ρ σw ZD) (Hid γ eb.ρ σ2 ZD) := fun a o ho n => by
        refine ⟨kp3.st a o (sm a o ho) (fun z => n (.inl (oo a z).mu)) fun z => n (.inr (.inl z)), fun z => ?_⟩
        rcases z with z | z | z
        · rcases s2.mu a (sh3.mu z) with z | z
          · exact n (.inl z)
          · rw [sm a o ho] at z; cases z
        · exact n (.inr (.inl z))
        · exact n (.inr (.inr z))
      cases b with
      | false =>
        refine iteF ?_
        have hq3 : lcL own t c el (ds.drop (i + 1)) (wipeE own eb) = some (rest, eE) := hq2
        have R4 : Rep K γ (wipeE own eb) (L2.wipe σ2 own) H3 ZD := R3.wipe
        rw [eσ] at R4
        refine ⟨wipeE own eb, accV, accD, rest, kp03, shT sh3, wipeN eb, R4, hD3, (racc.stay stA).stay (stay_refl fun a o _ z => ?_), Nat.le_succ_of_le hlen, hq3, hxs⟩
        refine z.imp (fun z => ?_) id
        rw [← eσ] at z
        exact wipe_mut z
      | true =>
        refine iteT ?_
        have hq3 : bnd el (fun r => bnd (als r) fun y => fun e => (bnd (lcL own t c el (ds.drop (i + 1))) fun ys => ret (y :: ys)) (wipeE own e)) eb = some (rest, eE) := hq2
        obtain ⟨r, ec, he, hq4⟩ := bnd_eq hq3
        obtain ⟨y, ed, ha, hq5⟩ := bnd_eq hq4
        obtain ⟨ys, ef, hg, hq6⟩ := bnd_eq hq5
        cases hq6
        refine ⟨γ, eb, ZD, r, ec, R3, he, fun v H4 kp4 sh4 P4 => ?_⟩
        obtain ⟨Z4, h14, hf4, R4, A4⟩ := P4.one
        obtain ⟨Z5, h05, h54, R5, rpv, sh5⟩ := als_ok ha h14 R4 A4
        have R5' : Rep K γ ed σ2 H4 ZD := R5.down h05
        have hD4 : H4 Da = some (.lst accV) := kp4.st _ _ hD3 (nD R3).1 (nD R3).2
        have hln : accV.length < sizeLine := by
          have := W.ln
          have := racc.length
          omega
        refine ⟨accV, hD4, hln, ?_⟩
        have R6 : Rep K γ ed σ2 (upd H4 Da (.lst (accV ++ [v]))) ZD := R5'.updZ (.inr rfl)
        have R7 : Rep K γ (wipeE own ed) (L2.wipe σ2 own) (upd H4 Da (.lst (accV ++ [v]))) ZD := R6.wipe
        rw [eσ] at R7
        have st6 : Stay H4 (upd H4 Da (.lst (accV ++ [v]))) (Hid γ ed.ρ σ2 ZD) (Hid γ (wipeE own ed).ρ σw ZD) := fun a o ho n => by
          refine ⟨by rw [upd_ne (fun (z : a = Da) => n (.inr (.inr (.inr z))))]; exact ho, fun z => n (z.imp (fun z => ?_) id)⟩
          rw [← eσ] at z
          exact wipe_mut z
        have stB : Stay H3 H4 (Hid γ eb.ρ σ2 ZD) (Hid γ ed.ρ σ2 ZD) := stay_of kp4 (sh4.trans sh5) fun a z => .inl z
        refine ⟨wipeE own ed, accV ++ [v], accD ++ [y], ys, ?_, shT (sh3.trans (sh4.trans sh5)), wipeN ed, R7, upd_same, (((racc.stay stA).stay stB).stay st6).append (.cons (Rp.stay st6 y (Rp.stay (stay_refl fun a o _ z => z.imp id (Or.imp id (h05 a))) y rpv)) .nil), by simp only [List.length_append, List.length_cons, List.length_nil]; omega, hg, by rw [← hxs, List.append_assoc]; rfl⟩
        refine ⟨fun a o ho n g => ?_, fun a o ho => ?_⟩
        · rw [upd_ne (tr1 a o ho)]
          obtain ⟨o3, ho3⟩ := kp03.th a o ho
          have e3 := kp03.st a o ho n g
          refine kp4.st a o e3 (fun z => ?_) g
          have z2 := oo a (sh3.own z)
          exact n (sh2.own z2)
        · by_cases ca : a = Da
          · exact ⟨_, by rw [ca]; exact upd_same⟩
          · rw [upd_ne ca]
            obtain ⟨o3, ho3⟩ := kp03.th a o ho
            exact kp4.th a o3 ho3
    · have e0 : i = ds.length := by omega
      subst e0
      rw [List.drop_length] at hq
      cases hq
      rw [List.append_nil] at hxs
      subst hxs
      refine .inl ⟨W.st _ _ (atP kp2 sh2), ?_⟩
      obtain ⟨RB, mB⟩ := Rep.backE RL pl R' hw (later kp2 sh2)
      have shB : Sh eL { eE with ρ := backR eL.ρ eE.ρ own } := by
        refine ⟨fun j x h m => ?_, fun j d h => ?_, fun j d h => ?_, ?_⟩
        · rcases backR_in h with ⟨_, h2⟩ | h2
          · exact ⟨x, h2, m, id⟩
          · obtain ⟨y, g1, g2, g3⟩ := sh2.m j x h2 m
            exact ⟨y, (wipeR_in g1).2, g2, g3⟩
        · have nj : j ∉ own := fun z => by
            obtain ⟨d', e'⟩ := plainO_in pl z h
            cases e'
          show (backR eL.ρ eE.ρ own)[j]? = _
          rw [backR_out nj]
          exact sh2.bo j d (by show (wipeR eL.ρ own)[j]? = _; rw [wipeR_out nj]; exact h)
        · rcases backR_in h with ⟨_, h2⟩ | h2
          · exact h2
          · exact (wipeR_in (sh2.bb j d h2)).2
        · show (backR eL.ρ eE.ρ own).length = _
          rw [backR_len, sh2.ln, wipeR_len]
      have kpB : Kp γ eL.ρ σ H1 H' := ⟨fun a o ho n g => kp2.st a o ho (fun z => n (wipe_own z)) g, kp2.th⟩
      have sB : Stp γ eL σ H1 γ { eE with ρ := backR eL.ρ eE.ρ own } σ H' := Stp.ev kpB shB
      have RU := Rep.unlock R1 hl sB RB
      have kpU : Kp γ e1.ρ σ H1 H' := ⟨fun a o ho n g => kpB.st a o ho (fun z => n (lock_own hl z)) g, kpB.th⟩
      have um := unlock_mut R1 hl sB
      refine k _ _ (kp.trans sh kpU) (sh.trans (Sh.unlock hl shB)) ⟨ZD, fun a z => .inl (h01 a z), fun a z => ?_, RU, .cons ⟨Da, rfl, .inr rfl, fun z => ?_, .inl ⟨accV, accD, rfl, hacc, racc.stay (stay_refl fun a o _ z => ?_)⟩⟩ .nil⟩
      · rcases z with z | z
        · exact hf a z
        · rw [z]; exact .inr (kp.none hD)
      · obtain ⟨o, ho⟩ := R1.zt Da (h01 Da z)
        rw [hD] at ho; cases ho
      · exact z.imp (fun z => mB a ((um a).mp z)) id
end
end DV
end
section
set_option Elab.async false
set_option linter.all false
set_option maxRecDepth 100000
namespace DV
open PySem PySem.Spec PyProof.Rows L2

/-! ### sources -/
def signs (x : Str) : List D := x.cps.toList.map fun c => .str ⟨#[c]⟩
def seqS1 (r : Rs) (e : En) : Option ((List D × Option Nat) × En) := match r with
  | .fz (.list ds) => some ((ds, none), e)
  | .fz (.tuple ds) => some ((ds, none), e)
  | .fz (.str x) => if x.length ≤ 1000 then some ((signs x, none), e) else none
  | .fr (.list ds) => some ((ds, none), e)
  | .sl i => match e.ρ[i]? with
    | some (some (.ow (.list ds))) => some ((ds, some i), e)
    | some (some (.bo (.list ds))) => some ((ds, none), e)
    | _ => none
  | _ => none
def seqS (f : M Rs) : Src := bnd f fun r => seqS1 r
section
variable {X : Cx} {K : PySem.W.Frag}
theorem RpL.yl {H : Hp} {O : Addr → Prop} {xs : List V} {ds : List D} {i : Nat} {x : V} {d : D} (r : RpL K H O xs ds) (hd : ds[i]? = some d) (hx : xs[i]? = some x) : Rp K H O x d := by
  obtain ⟨v, hv, q⟩ := r.get hd
  rw [hx] at hv; cases hv; exact q
/-- a frozen list, a frozen tuple, a list that stands -/
theorem wk_lst {a : Addr} {xs : List V} {ds : List D} (hl : ds.length ≤ sizeLine) : Wk K (Itl K a) ds [] fun H O => SqLo K H O a xs ∧ RpL K H O xs ds where
  go := fun i H O p hi => ⟨xs, xs[i]'(by rw [p.2.length]; exact hi), p.1.sq, List.getElem?_eq_getElem _⟩
  yl := fun i H O x H' d p _ hd ⟨e, hx⟩ => by subst e; exact ⟨Same.refl _, p.2.yl hd (hx xs p.1.sq)⟩
  st := fun H O p => ⟨xs, p.1.sq, Nat.le_of_eq p.2.length⟩
  kp := fun H H' O O' p s _ => ⟨p.1.stay s, p.2.stay s⟩
  nd := fun _ _ _ p hp => by cases hp
  ln := hl
theorem wk_tup {a : Addr} {xs : List V} {ds : List D} (hl : ds.length ≤ sizeLine) : Wk K (Itt K a) ds [] fun H O => SqTo K H O a xs ∧ RpL K H O xs ds where
  go := fun i H O p hi => ⟨xs, xs[i]'(by rw [p.2.length]; exact hi), p.1.sq, List.getElem?_eq_getElem _⟩
  yl := fun i H O x H' d p _ hd ⟨e, hx⟩ => by subst e; exact ⟨Same.refl _, p.2.yl hd (hx xs p.1.sq)⟩
  st := fun H O p => ⟨xs, p.1.sq, Nat.le_of_eq p.2.length⟩
  kp := fun H H' O O' p s _ => ⟨p.1.stay s, p.2.stay s⟩
  nd := fun _ _ _ p hp => by cases hp
  ln := hl
theorem wk_own {a : Addr} {xs : List V} {ds : List D} (hl : ds.length ≤ sizeLine) : Wk K (Itl K a) ds [(a, .lst xs)] fun H O => H a = some (.lst xs) ∧ RpL K H O xs ds where
  go := fun i H O p hi => ⟨xs, xs[i]'(by rw [p.2.length]; exact hi), .of p.1, List.getElem?_eq_getElem _⟩
  yl := fun i H O x H' d p _ hd ⟨e, hx⟩ => by subst e; exact ⟨Same.refl _, p.2.yl hd (hx xs (.of p.1))⟩
  st := fun H O p => ⟨xs, .of p.1, Nat.le_of_eq p.2.length⟩
  kp := fun H H' O O' p s n => ⟨n _ (List.mem_cons_self ..), p.2.stay s⟩
  nd := fun _ _ p q hq => by
    have : q = (a, .lst xs) := by simpa using hq
    subst this; exact p.1
  ln := hl
theorem wk_str {x : Str} (hl : x.length ≤ 1000) : Wk K (Its x) (signs x) [] fun _ _ => True where
  go := fun i H O _ hi => by
    have : i < x.cps.toList.length := by simpa [signs] using hi
    show i < x.cps.size
    simpa using this
  yl := fun i H O v H' d _ _ hd ⟨e, c, hc, ev⟩ => by
    subst e ev
    refine ⟨Same.refl _, ?_⟩
    unfold signs at hd
    rw [List.getElem?_map, Array.getElem?_toList, hc] at hd
    cases hd
    exact .str _
  st := fun H O _ => by show x.cps.size ≤ _; simp [signs]
  kp := fun _ _ _ _ _ _ _ => trivial
  nd := fun _ _ _ p hp => by cases hp
  ln := by
    have : (signs x).length = x.length := by simp [signs, Str.length]
    rw [this, sizeLine_eq]
    omega
theorem di_seq {tg l : Expr} {f : M Rs} (hl : PE X l (tE X.K f)) : PI X tg l (tI X.K (seqS f)) := by
  refine ⟨fun pins s σ H R I h => ?_⟩
  obtain ⟨γ, e, Z, ds, lk, e', Rr, hq, hlk, k⟩ := h
  obtain ⟨r, e1, h1, h2⟩ := bnd_eq hq
  -- a list
  have goL : (∀ v H1, Kp γ e.ρ σ H H1 → Sh e e1 → Pst X.K γ H σ Z e1 [r] [v] H1 → ∃ a xs, v = .ref a ∧ SqL X.K H1 a xs ∧ xs.length = ds.length ∧ (ds.length ≤ sizeLine → R (Itl X.K a) H1)) →
      wpAny (model X.prog X.w) X.A (eval l X.env) (fun v s1 => wpAny (model X.prog X.w) X.A (pyIter v) (PIE X pins σ tg R) X.xe s1) X.xe s := fun g => by
    refine thn ((pi_list (tg := tg) hl).run pins s σ H (fun J H' => ∃ a xs, J = Itl X.K a ∧ SqL X.K H' a xs ∧ xs.length = ds.length ∧ (ds.length ≤ sizeLine → R J H')) I ?_) fun v s1 hv => thn hv fun itv s2 ⟨it, fp, tn, J, H', ee, I2, T, st, f2, q⟩ => ⟨it, fp, tn, J, H', ee, I2, T, st, f2, ?_⟩
    · refine ⟨γ, e, Z, r, e1, Rr, h1, fun v H1 kp sh P => ?_⟩
      obtain ⟨a, xs, ev, sq, ln, rr⟩ := g v H1 kp sh P
      exact ⟨a, ev, ⟨xs, sq⟩, a, xs, rfl, sq, ln, rr⟩
    · obtain ⟨a, xs, ej, sq, ln, rr⟩ := q
      obtain ⟨_, _, _, hz⟩ := I2.list sq
      exact rr (by omega)
  have goT : (∀ v H1, Kp γ e.ρ σ H H1 → Sh e e1 → Pst X.K γ H σ Z e1 [r] [v] H1 → ∃ a xs, v = .ref a ∧ SqT X.K H1 a xs ∧ xs.length = ds.length ∧ (ds.length ≤ sizeLine → R (Itt X.K a) H1)) →
      wpAny (model X.prog X.w) X.A (eval l X.env) (fun v s1 => wpAny (model X.prog X.w) X.A (pyIter v) (PIE X pins σ tg R) X.xe s1) X.xe s := fun g => by
    refine thn ((pi_tup (tg := tg) hl).run pins s σ H (fun J H' => ∃ a xs, J = Itt X.K a ∧ SqT X.K H' a xs ∧ xs.length = ds.length ∧ (ds.length ≤ sizeLine → R J H')) I ?_) fun v s1 hv => thn hv fun itv s2 ⟨it, fp, tn, J, H', ee, I2, T, st, f2, q⟩ => ⟨it, fp, tn, J, H', ee, I2, T, st, f2, ?_⟩
    · refine ⟨γ, e, Z, r, e1, Rr, h1, fun v H1 kp sh P => ?_⟩
      obtain ⟨a, xs, ev, sq, ln, rr⟩ := g v H1 kp sh P
      exact ⟨a, ev, ⟨xs, sq⟩, a, xs, rfl, sq, ln, rr⟩
    · obtain ⟨a, xs, ej, sq, ln, rr⟩ := q
      obtain ⟨_, _, _, hz⟩ := I2.tuple sq
      exact rr (by omega)
  have goS : ∀ x : Str, (∀ v H1, Kp γ e.ρ σ H H1 → Sh e e1 → Pst X.K γ H σ Z e1 [r] [v] H1 → v = .str x ∧ R (Its x) H1) → wpAny (model X.prog X.w) X.A (eval l X.env) (fun v s1 => wpAny (model X.prog X.w) X.A (pyIter v) (PIE X pins σ tg R) X.xe s1) X.xe s := fun x g =>
    (pi_str (tg := tg) hl).run pins s σ H R I ⟨γ, e, Z, r, e1, Rr, h1, fun v H1 kp sh P => ⟨x, g v H1 kp sh P⟩⟩
  have h2' : seqS1 r e1 = some ((ds, lk), e') := h2
  unfold seqS1 at h2'
  cases r with
  | fz d =>
    cases d with
    | list ds0 =>
      cases h2'
      refine goL fun v H1 kp sh P => ?_
      obtain ⟨Z1, h01, hf, R1, A1⟩ := P.one
      cases A1 with
      | lst q rl => exact ⟨_, _, rfl, q.sq, rl.length, fun hz => k _ H1 kp sh ⟨Z1, h01, hf, R1, [], _, wk_lst hz, ⟨q, rl⟩, fun p hp => by cases hp⟩⟩
    | tuple ds0 =>
      cases h2'
      refine goT fun v H1 kp sh P => ?_
      obtain ⟨Z1, h01, hf, R1, A1⟩ := P.one
      cases A1 with
      | tup q rl => exact ⟨_, _, rfl, q.sq, rl.length, fun hz => k _ H1 kp sh ⟨Z1, h01, hf, R1, [], _, wk_tup hz, ⟨q, rl⟩, fun p hp => by cases hp⟩⟩
    | str x =>
      simp only at h2'
      split at h2'
      · rename_i hz
        cases h2'
        refine goS x fun v H1 kp sh P => ?_
        obtain ⟨Z1, h01, hf, R1, A1⟩ := P.one
        cases A1
        exact ⟨rfl, k _ H1 kp sh ⟨Z1, h01, hf, R1, [], _, wk_str hz, trivial, fun p hp => by cases hp⟩⟩
      · cases h2'
    | _ => cases h2'
  | fr d =>
    cases d with
    | list ds0 =>
      cases h2'
      refine goL fun v H1 kp sh P => ?_
      obtain ⟨Z1, h01, hf, R1, A1⟩ := P.one
      obtain ⟨p, rfl, hp, np, c⟩ := A1
      rcases c with ⟨xs, ds1, e5, q, rl⟩ | ⟨ks, kvs, e5, _⟩
      · cases e5
        refine ⟨_, _, rfl, .of q, rl.length, fun hz => k _ H1 kp sh ⟨Z1, h01, hf, R1, _, _, wk_own hz, ⟨q, rl⟩, fun x hx => ?_⟩⟩
        have ex : x = (p, .lst xs) := by simpa using hx
        subst ex
        exact ⟨fun z => R1.cz p z hp, fun ⟨j, d', g1, g2⟩ => (R1.mu j _ p g1 rfl g2).1 hp⟩
      · cases e5
    | _ => cases h2'
  | sl i =>
    cases q1 : e1.ρ[i]? with
    | none => simp only [q1] at h2'; cases h2'
    | some o =>
      cases o with
      | none => simp only [q1] at h2'; cases h2'
      | some x =>
        cases x with
        | fz d => simp only [q1] at h2'; cases h2'
        | pt d => simp only [q1] at h2'; cases h2'
        | ow d =>
          cases d with
          | list ds0 =>
            simp only [q1] at h2'
            cases h2'
            refine goL fun v H1 kp sh P => ?_
            obtain ⟨Z1, h01, hf, R1, A1⟩ := P.one
            have hv : σ[i]? = some (some v) := A1
            obtain ⟨w, hw, a, rfl, c⟩ := R1.slot i _ q1
            rw [hv] at hw; cases hw
            rcases c with ⟨xs, ds1, e5, q, rl⟩ | ⟨ks, kvs, e5, _⟩
            · cases e5
              refine ⟨_, _, rfl, .of q, rl.length, fun hz => k _ H1 kp sh ⟨Z1, h01, hf, R1, _, _, wk_own hz, ⟨q, rl⟩, fun x hx => ?_⟩⟩
              have ex : x = (a, .lst xs) := by simpa using hx
              subst ex
              refine ⟨(R1.mu i _ a q1 rfl hv).2, fun ⟨j, d', g1, g2⟩ => ?_⟩
              rcases lock_cases hlk with z | ⟨i', d2, e6, hi, el⟩
              · cases z
              · cases e6
                rw [el] at g1
                rcases set_get g1 with ⟨_, e7⟩ | ⟨ne, g1⟩
                · cases e7
                · exact ne (R1.own i _ a q1 hv j _ g1 rfl g2)
            · cases e5
          | _ => simp only [q1] at h2'; cases h2'
        | bo d =>
          cases d with
          | list ds0 =>
            simp only [q1] at h2'
            cases h2'
            refine goL fun v H1 kp sh P => ?_
            obtain ⟨Z1, h01, hf, R1, A1⟩ := P.one
            have hv : σ[i]? = some (some v) := A1
            obtain ⟨w, hw, a, rfl, c⟩ := R1.slot i _ q1
            rw [hv] at hw; cases hw
            rcases c with ⟨xs, ds1, e5, q, rl⟩ | ⟨ks, kvs, e5, _⟩
            · cases e5
              refine ⟨_, _, rfl, .of q, rl.length, fun hz => k _ H1 kp sh ⟨Z1, h01, hf, R1, _, _, wk_own hz, ⟨q, rl⟩, fun x hx => ?_⟩⟩
              have ex : x = (a, .lst xs) := by simpa using hx
              subst ex
              refine ⟨(R1.mu i _ a q1 rfl hv).2, fun ⟨j, d', g1, g2⟩ => ?_⟩
              have ei := R1.own j d' a g1 g2 i _ q1 rfl hv
              subst ei
              have g1' : e'.ρ[i]? = some (some (.ow d')) := g1
              rw [q1] at g1'; cases g1'
            · cases e5
          | _ => simp only [q1] at h2'; cases h2'
/-- range(n), range(a, b) -/
def rngL (lo : Int) (n : Nat) : List D := (List.range n).map fun k : Nat => PyData.int (lo + k)
def rngS (fs : M (List Rs)) : Src := bnd fs fun rs => fun e => match rdAll e rs with
  | some [.int j] => if -(2 ^ 62) ≤ j ∧ j ≤ 1000000 then some ((rngL 0 j.toNat, none), e) else none
  | some [.int i, .int j] => if (-(2 ^ 62) ≤ i ∧ i < 2 ^ 62 ∧ -(2 ^ 62) ≤ j ∧ j < 2 ^ 62) ∧ j - i ≤ 1000000 then some ((rngL i (j - i).toNat, none), e) else none
  | _ => none
theorem wk_rng {lo : Int} {n : Nat} (hl : n ≤ 1000000) : Wk K (Itr lo n) (rngL lo n) [] fun _ _ => True where
  go := fun i H O _ hi => by show i < n; simpa [rngL] using hi
  yl := fun i H O x H' d _ _ hd ⟨e, hx⟩ => by
    subst e hx
    refine ⟨Same.refl _, ?_⟩
    unfold rngL at hd
    rw [List.getElem?_map] at hd
    cases q : (List.range n)[i]? with
    | none => rw [q] at hd; cases hd
    | some j =>
      rw [q] at hd
      have hj : i < n := by
        rcases Nat.lt_or_ge i n with c | c
        · exact c
        · rw [List.getElem?_eq_none (by simpa using c)] at q; cases q
      rw [List.getElem?_range hj] at q
      cases q
      cases hd
      exact .int _
  st := fun H O _ => by show n ≤ (rngL lo n).length; simp [rngL]
  kp := fun _ _ _ _ _ _ _ => trivial
  nd := fun _ _ _ p hp => by cases hp
  ln := by
    have : (rngL lo n).length = n := by simp [rngL]
    rw [this, sizeLine_eq]
    omega
theorem RpR.int {H : Hp} {O : Addr → Prop} {x : V} {i : Int} (h : RpR K H O x (.int i)) : x = .int i := by
  rcases h with h | ⟨a, _, ⟨_, _, e, _⟩ | ⟨_, _, e, _⟩⟩
  · cases h; rfl
  · cases e
  · cases e
theorem rngS_eq {fs : M (List Rs)} {e e' : En} {ds : List D} {lk : Option Nat} (h : rngS fs e = some ((ds, lk), e')) : ∃ rs, fs e = some (rs, e') ∧ lk = none ∧ ((∃ j : Int, rdAll e' rs = some [.int j] ∧ (-(2 ^ 62) ≤ j ∧ j ≤ 1000000) ∧ ds = rngL 0 j.toNat) ∨
    ∃ i j : Int, rdAll e' rs = some [.int i, .int j] ∧ ((-(2 ^ 62) ≤ i ∧ i < 2 ^ 62 ∧ -(2 ^ 62) ≤ j ∧ j < 2 ^ 62) ∧ j - i ≤ 1000000) ∧ ds = rngL i (j - i).toNat) := by
  obtain ⟨rs, e1, h1, h2⟩ := bnd_eq h
  split at h2
  · rename_i j q
    by_cases c : -(2 ^ 62) ≤ j ∧ j ≤ 1000000
    · rw [if_pos c] at h2; cases h2; exact ⟨rs, h1, rfl, .inl ⟨j, q, c, rfl⟩⟩
    · rw [if_neg c] at h2; cases h2
  · rename_i i j q
    by_cases c : (-(2 ^ 62) ≤ i ∧ i < 2 ^ 62 ∧ -(2 ^ 62) ≤ j ∧ j < 2 ^ 62) ∧ j - i ≤ 1000000
    · rw [if_pos c] at h2; cases h2; exact ⟨rs, h1, rfl, .inr ⟨i, j, q, c, rfl⟩⟩
    · rw [if_neg c] at h2; cases h2
  · cases h2
theorem ints1 {H : Hp} {O : Addr → Prop} {vs : List V} {j : Int} (h : All2 (RpR K H O) vs [.int j]) : vs = [.int j] := by
  cases h with
  | cons a t => cases t; rw [a.int]
theorem ints2 {H : Hp} {O : Addr → Prop} {vs : List V} {i j : Int} (h : All2 (RpR K H O) vs [.int i, .int j]) : vs = [.int i, .int j] := by
  cases h with
  | cons a t =>
    cases t with
    | cons b t => cases t; rw [a.int, b.int]
theorem All2.len1 {α β : Type} {R : α → β → Prop} {as : List α} {b : β} (h : All2 R as [b]) : ∃ a, as = [a] := by
  cases h with
  | cons _ t => cases t; exact ⟨_, rfl⟩
theorem di_rng1 {tg a : Expr} {fs : M (List Rs)} {p pos : Pos} (hm : X.mg "range" = none) (ha : PA X [a] (tA X.K fs)) (hg : Gl X "range" := by rfl) (hs : starEach [a] X.env = [(false, eval a X.env)] := by rfl) : PI X tg (.Call (.Name "range" p) [a] [] pos) (tI X.K (bnd fs fun rs => if rs.length = 1 then rngS (ret rs) else noM)) :=
  PI.weak (pi_range1 hg hm ha hs) (by
  rintro σ H R ⟨γ, e, Z, ds, lk, e', Rr, hq0, hlk, k⟩
  obtain ⟨rs0, e1, h1, h2⟩ := bnd_eq hq0
  by_cases c1 : rs0.length = 1
  case neg => simp only [if_neg c1] at h2; cases h2
  simp only [if_pos c1] at h2
  obtain ⟨rs, hr, rfl, h3⟩ := rngS_eq h2
  cases hr
  refine ⟨γ, e, Z, rs0, e', Rr, h1, fun vs H1 kp sh P => ?_⟩
  obtain ⟨Z1, h01, hf, R1, A1⟩ := P
  rcases h3 with ⟨j, q, ⟨c2, c3⟩, rfl⟩ | ⟨i, j, q, _⟩
  · have ev := ints1 (rd_all R1 A1 q)
    exact ⟨j, ev, c2, by omega, k _ H1 kp sh ⟨Z1, h01, hf, R1, [], _, wk_rng (by omega), trivial, fun p hp => by cases hp⟩⟩
  · have := (rd_all R1 A1 q).length
    have := A1.length
    simp at *
    omega)
theorem di_rng2 {tg a b : Expr} {fs : M (List Rs)} {p pos : Pos} (hm : X.mg "range" = none) (ha : PA X [a, b] (tA X.K fs)) (hg : Gl X "range" := by rfl) (hs : starEach [a, b] X.env = [(false, eval a X.env), (false, eval b X.env)] := by rfl) (hs2 : starEach [b] X.env = [(false, eval b X.env)] := by rfl) : PI X tg (.Call (.Name "range" p) [a, b] [] pos) (tI X.K (bnd fs fun rs => if rs.length = 2 then rngS (ret rs) else noM)) :=
  PI.weak (pi_range2 hg hm ha hs hs2) (by
  rintro σ H R ⟨γ, e, Z, ds, lk, e', Rr, hq0, hlk, k⟩
  obtain ⟨rs0, e1, h1, h2⟩ := bnd_eq hq0
  by_cases c1 : rs0.length = 2
  case neg => simp only [if_neg c1] at h2; cases h2
  simp only [if_pos c1] at h2
  obtain ⟨rs, hr, rfl, h3⟩ := rngS_eq h2
  cases hr
  refine ⟨γ, e, Z, rs0, e', Rr, h1, fun vs H1 kp sh P => ?_⟩
  obtain ⟨Z1, h01, hf, R1, A1⟩ := P
  rcases h3 with ⟨j, q, _⟩ | ⟨i, j, q, ⟨c2, c3⟩, rfl⟩
  · have := (rd_all R1 A1 q).length
    have := A1.length
    simp at *
    omega
  · have ev := ints2 (rd_all R1 A1 q)
    exact ⟨i, j, ev, c2, k _ H1 kp sh ⟨Z1, h01, hf, R1, [], _, wk_rng (by omega), trivial, fun p hp => by cases hp⟩⟩)
end
end DV
end
section
set_option Elab.async false
set_option linter.all false
set_option maxRecDepth 100000
namespace DV
open PySem PySem.Spec PyProof.Rows L2

/-! ### tests -/
def tst1 (r : Rs) : M Bool := match r with
  | .fz (.bool b) => ret b
  | _ => noM
def tstM (f : M Rs) : M Bool := bnd f tst1
def andM (a b : M Bool) : M Bool := iteM a b (ret false)
def orM (a b : M Bool) : M Bool := iteM a (ret true) b
def notM (a : M Bool) : M Bool := bnd a fun b => ret !b
/-- a test as a value -/
def blM (a : M Bool) : M Rs := bnd a fun b => ret (.fz (.bool b))
section
variable {X : Cx} {K : PySem.W.Frag} {a b c : Expr} {pos : Pos}
theorem tst1_eq {r : Rs} {e e' : En} {b : Bool} (h : tst1 r e = some (b, e')) : r = .fz (.bool b) ∧ e' = e := by
  unfold tst1 at h
  split at h
  · cases h; exact ⟨rfl, rfl⟩
  · cases h
theorem tT_tst {f : M Rs} : ∀ σ H Q, tT K (tstM f) σ H Q → tE K f σ H fun x H1 => ∃ c, x = .bl c ∧ Q c H1 := by
  rintro σ H Q ⟨γ, e, Z, b, e', R, h, k⟩
  obtain ⟨r, e1, h1, h2⟩ := bnd_eq h
  obtain ⟨rfl, rfl⟩ := tst1_eq h2
  refine ⟨γ, e, Z, _, e', R, h1, fun v H' kp sh P => ?_⟩
  have R1 := P.rep
  obtain ⟨Z1, h01, hf, _, A1⟩ := P.one
  have hv : v = .bl b := by cases A1; rfl
  exact ⟨b, hv, k H' kp sh R1⟩
theorem dt_val {f : M Rs} (h : PE X a (tE X.K f)) (he : ∀ whole, isTrue a X.env whole = (do let v ← whole; standAt a.pos; holding [v] (truthy v)) := by intro _; rfl) : PT X a (tT X.K (tstM f)) := PT.weak (pt_val h he) tT_tst
theorem dt_no : PT X a (tT X.K noM) := ⟨fun _ _ _ _ _ _ h => by obtain ⟨_, _, _, _, _, _, q, _⟩ := h; cases q⟩
theorem tT_ite {c f g : M Bool} {P : Bool → TT} (ht : ∀ σ H Q, tT K f σ H Q → P true σ H Q) (hf : ∀ σ H Q, tT K g σ H Q → P false σ H Q) : ∀ σ H Q, tT K (iteM c f g) σ H Q → tT K c σ H fun b H1 => P b σ H1 Q := by
  rintro σ H Q ⟨γ, e, Z, b, e', R, h, k⟩
  obtain ⟨b1, e1, h1, h2⟩ := bnd_eq h
  refine ⟨γ, e, Z, b1, e1, R, h1, fun H1 kp sh R1 => ?_⟩
  have kk : ∀ H', Kp γ e1.ρ σ H1 H' → Sh e1 e' → Rep K γ e' σ H' Z → Q b H' := fun H' kp2 sh2 R2 => k H' (kp.trans sh kp2) (sh.trans sh2) R2
  cases b1 with
  | true => exact ht _ _ _ ⟨γ, e1, Z, b, e', R1, by simpa using h2, kk⟩
  | false => exact hf _ _ _ ⟨γ, e1, Z, b, e', R1, by simpa using h2, kk⟩
theorem tT_ret {b : Bool} : ∀ σ H Q, tT K (ret b) σ H Q → Q b H := by
  rintro σ H Q ⟨γ, e, Z, b, e', R, h, k⟩
  cases h
  exact k H (Kp.refl H) (Sh.refl e) R
theorem tT_and {f g : M Bool} : ∀ σ H Q, tT K (andM f g) σ H Q → tAnd (tT K f) (tT K g) σ H Q := fun σ H Q h =>
  tT_ite (P := fun b σ H Q => if b = true then tT K g σ H Q else Q false H) (fun σ H Q h => by rw [if_pos rfl]; exact h) (fun σ H Q h => by rw [if_neg Bool.false_ne_true]; exact tT_ret σ H Q h) σ H Q h
theorem tT_or {f g : M Bool} : ∀ σ H Q, tT K (orM f g) σ H Q → tOr (tT K f) (tT K g) σ H Q := fun σ H Q h =>
  tT_ite (P := fun b σ H Q => if b = true then Q true H else tT K g σ H Q) (fun σ H Q h => by rw [if_pos rfl]; exact tT_ret σ H Q h) (fun σ H Q h => by rw [if_neg Bool.false_ne_true]; exact h) σ H Q h
theorem tT_not {f : M Bool} : ∀ σ H Q, tT K (notM f) σ H Q → tNot (tT K f) σ H Q := by
  rintro σ H Q ⟨γ, e, Z, b, e', R, h, k⟩
  obtain ⟨b1, e1, h1, h2⟩ := bnd_eq h
  cases h2
  exact ⟨γ, e, Z, b1, e', R, h1, fun H1 kp sh R1 => k H1 kp sh R1⟩
theorem dw_and1 {f : M Bool} (ha : PT X a (tT X.K f)) : PW X (.BoolOp .And [a] pos) (tT X.K f) := pw_and1 ha
theorem dw_or1 {f : M Bool} (ha : PT X a (tT X.K f)) : PW X (.BoolOp .Or [a] pos) (tT X.K f) := pw_or1 ha
theorem dw_and {f g : M Bool} {rest : List Expr} (ha : PT X a (tT X.K f)) (hb : PW X (.BoolOp .And (b :: rest) pos) (tT X.K g)) : PW X (.BoolOp .And (a :: b :: rest) pos) (tT X.K (andM f g)) := PW.weak (pw_and ha hb) tT_and
theorem dw_or {f g : M Bool} {rest : List Expr} (ha : PT X a (tT X.K f)) (hb : PW X (.BoolOp .Or (b :: rest) pos) (tT X.K g)) : PW X (.BoolOp .Or (a :: b :: rest) pos) (tT X.K (orM f g)) := PW.weak (pw_or ha hb) tT_or
theorem dt_not {f : M Bool} (ha : PT X a (tT X.K f)) : PT X (.UnaryOp .Not a pos) (tT X.K (notM f)) := PT.weak (pt_not ha) tT_not
/-- as values -/
theorem tE_bl {f : M Rs} : ∀ σ H Q, tE K (blM (tstM f)) σ H Q → tE K f σ H Q := by
  rintro σ H Q ⟨γ, e, Z, r, e', R, h, k⟩
  obtain ⟨b, e1, h1, h2⟩ := bnd_eq h
  cases h2
  obtain ⟨r1, e2, h3, h4⟩ := bnd_eq h1
  obtain ⟨rfl, rfl⟩ := tst1_eq h4
  exact ⟨γ, e, Z, _, e', R, h3, k⟩
/-- a bool's value, then on -/
theorem tE_test {f : M Bool} {fv : M Rs} {g : Bool → M Rs} (hv : ∀ σ H Q, tE K (blM f) σ H Q → tE K fv σ H Q) : ∀ σ H Q, tE K (bnd f g) σ H Q → tE K fv σ H fun x H1 => ∃ c, x = .bl c ∧ tE K (g c) σ H1 Q := by
  rintro σ H Q ⟨γ, e, Z, r, e', R, h, k⟩
  obtain ⟨b, e1, h1, h2⟩ := bnd_eq h
  refine hv _ _ _ ⟨γ, e, Z, .fz (.bool b), e1, R, by unfold blM bnd; rw [h1]; rfl, fun v H1 kp sh P => ?_⟩
  have R1 := P.rep
  obtain ⟨Z1, h01, hf, _, A1⟩ := P.one
  have hv : v = .bl b := by cases A1; rfl
  refine ⟨b, hv, γ, e1, Z, r, e', R1, h2, fun v H' kp2 sh2 P2 => k v H' (kp.trans sh kp2) (sh.trans sh2) ?_⟩
  exact Pst.next (rs0 := []) (xs0 := []) kp (fun _ z => z) (fun _ z => .inl z) P2
theorem tE_fz {v : V} {d : D} (h : ∀ H O, Rp K H O v d) : ∀ σ H Q, tE K (ret (.fz d)) σ H Q → Q v H := tE_const h
def andV (f g : M Rs) : M Rs := bnd (tstM f) fun b => if b = true then g else ret (.fz (.bool false))
def orV (f g : M Rs) : M Rs := bnd (tstM f) fun b => if b = true then ret (.fz (.bool true)) else g
theorem de_and {f g : M Rs} {rest : List Expr} (ha : PE X a (tE X.K f)) (hb : PE X (.BoolOp .And (b :: rest) pos) (tE X.K g)) : PE X (.BoolOp .And (a :: b :: rest) pos) (tE X.K (andV f g)) := PE.weak (pe_and ha hb) fun σ H Q h => by
  have := tE_test (K := X.K) (fv := f) (fun σ H Q => tE_bl σ H Q) σ H Q h
  obtain ⟨γ, e, Z, r, e', R, h1, k⟩ := this
  refine ⟨γ, e, Z, r, e', R, h1, fun v H' kp sh P => ?_⟩
  obtain ⟨c, e1, q⟩ := k v H' kp sh P
  refine ⟨c, e1, ?_⟩
  cases c with
  | true => rw [if_pos rfl]; exact q
  | false => rw [if_neg Bool.false_ne_true]; exact tE_fz (fun _ _ => .bl false) _ _ _ q
theorem de_or {f g : M Rs} {rest : List Expr} (ha : PE X a (tE X.K f)) (hb : PE X (.BoolOp .Or (b :: rest) pos) (tE X.K g)) : PE X (.BoolOp .Or (a :: b :: rest) pos) (tE X.K (orV f g)) := PE.weak (pe_or ha hb) fun σ H Q h => by
  have := tE_test (K := X.K) (fv := f) (fun σ H Q => tE_bl σ H Q) σ H Q h
  obtain ⟨γ, e, Z, r, e', R, h1, k⟩ := this
  refine ⟨γ, e, Z, r, e', R, h1, fun v H' kp sh P => ?_⟩
  obtain ⟨c, e1, q⟩ := k v H' kp sh P
  refine ⟨c, e1, ?_⟩
  cases c with
  | true => rw [if_pos rfl]; exact tE_fz (fun _ _ => .bl true) _ _ _ q
  | false => rw [if_neg Bool.false_ne_true]; exact q
theorem de_one {op : BoolOp} {f : M Rs} (h : PE X a (tE X.K f)) : PE X (.BoolOp op [a] pos) (tE X.K f) := pe_one h
theorem de_not {f : M Rs} (ha : PE X a (tE X.K f)) : PE X (.UnaryOp .Not a pos) (tE X.K (blM (notM (tstM f)))) := PE.weak (pe_not ha) fun σ H Q h => by
  obtain ⟨γ, e, Z, r, e', R, h, k⟩ := h
  obtain ⟨b, e1, h1, h2⟩ := bnd_eq h
  cases h2
  obtain ⟨b1, e2, h3, h4⟩ := bnd_eq h1
  cases h4
  obtain ⟨r1, e3, h5, h6⟩ := bnd_eq h3
  obtain ⟨rfl, rfl⟩ := tst1_eq h6
  refine ⟨γ, e, Z, _, e', R, h5, fun v H1 kp sh P => ?_⟩
  have R1 := P.rep
  obtain ⟨Z1, h01, hf, _, A1⟩ := P.one
  have hv : v = .bl b1 := by cases A1; rfl
  exact ⟨b1, hv, k _ H1 kp sh ⟨Z, fun _ z => z, fun _ z => .inl z, R1, .cons (.bl _) .nil⟩⟩
/-- a if c else b -/
theorem de_if {tc : M Bool} {f g : M Rs} (hc : PT X c (tT X.K tc)) (ha : PE X a (tE X.K f)) (hb : PE X b (tE X.K g)) : PE X (.IfExp c a b pos) (tE X.K (iteM tc f g)) := PE.weak (pe_ifExp hc ha hb) fun σ H Q h => by
  obtain ⟨γ, e, Z, r, e', R, h, k⟩ := h
  obtain ⟨b, e1, h1, h2⟩ := bnd_eq h
  refine ⟨γ, e, Z, b, e1, R, h1, fun H1 kp sh R1 => ?_⟩
  have kk : ∀ v H', Kp γ e1.ρ σ H1 H' → Sh e1 e' → Pst X.K γ H1 σ Z e' [r] [v] H' → Q v H' := fun v H' kp2 sh2 P2 => k v H' (kp.trans sh kp2) (sh.trans sh2) (Pst.next (rs0 := []) (xs0 := []) kp (fun _ z => z) (fun _ z => .inl z) P2)
  cases b with
  | true => exact iteT ⟨γ, e1, Z, r, e', R1, by simpa using h2, kk⟩
  | false => exact iteF ⟨γ, e1, Z, r, e', R1, by simpa using h2, kk⟩

/-! ### comparisons, operators -/
theorem de_cmp {op : CmpOp} {r : R2} {g : D → D → Option Rs} {f1 f2 : M Rs} (o : Op2 X.K r g) (ho : OpR X (compareOp op) r) (ha : PE X a (tE X.K f1)) (hb : PE X b (tE X.K f2)) (hm : behindInMarks op b = false := by first | exact nomark _ (by decide) (by decide) | with_unfolding_all rfl) : PE X (.Compare a [op] [b] pos) (tE X.K (op2 g f1 f2)) :=
  PE.weak (pe_cmpR ho ha hb hm) (tE_op2 o)
theorem dt_cmp {op : CmpOp} {r : R2} {g : D → D → Option Rs} {f1 f2 : M Rs} (o : Op2 X.K r g) (ho : OpR X (compareOp op) r) (ha : PE X a (tE X.K f1)) (hb : PE X b (tE X.K f2)) (hm : behindInMarks op b = false := by first | exact nomark _ (by decide) (by decide) | with_unfolding_all rfl) : PT X (.Compare a [op] [b] pos) (tT X.K (tstM (op2 g f1 f2))) :=
  PT.weak (pt_cmpR ho ha hb hm) fun σ H Q h => tE_op2 o σ H _ (tT_tst σ H Q h)
theorem de_op {op : Operator} {r : R2} {g : D → D → Option Rs} {f1 f2 : M Rs} (o : Op2 X.K r g) (ho : OpR X (binaryOp op) r) (ha : PE X a (tE X.K f1)) (hb : PE X b (tE X.K f2)) : PE X (.BinOp a op b pos) (tE X.K (op2 g f1 f2)) := PE.weak (pe_op ho ha hb) (tE_op2 o)
theorem de_un {op : UnaryOp} {r : V → Hp → VK → Prop} {g : D → Option Rs} {f1 : M Rs} (o : Op1 X.K r g) (ho : UnR X (unaryOp op) r) (ha : PE X a (tE X.K f1)) : PE X (.UnaryOp op a pos) (tE X.K (op1 g f1)) := PE.weak (pe_un ho ha) (tE_op1 o)
theorem Op2.or {r r' : R2} {g g' : D → D → Option Rs} (h : Op2 K r g) (h' : Op2 K r' g') : Op2 K (fun x y H Q => r x y H Q ∨ r' x y H Q) (fun x y => (g x y).orElse fun _ => g' x y) := fun H O x y dx dy res Q tr rx ry q k => by
  cases c : g dx dy with
  | some z =>
    simp only [c, Option.orElse_some, Option.some.injEq] at q
    subst q
    exact .inl (h H O x y dx dy z Q tr rx ry c k)
  | none =>
    simp only [c, Option.orElse_none] at q
    exact .inr (h' H O x y dx dy res Q tr rx ry q k)

/-! ### comprehensions -/
theorem de_lc {elt tg iter : Expr} {ifs : List Expr} {scope : Scope} {own : List (Str × Nat)} {src : Src} {t : D → M Unit} {tc : M Bool} {el : M Rs} {S : List Nat} (hi : PI X tg iter (tI X.K src)) (hN : X.N.Nodup) (ok : BlkOk X.N X.env.scope scope own)
    (hg : ∀ (s : Shared) (H : Hp) (C : Addr) (cl : List (Str × Addr)) (fp : List Addr), PG (X.blk s H scope (compEnvC scope cl C X.env) fp) tg (tG X.K S t)) (ht : ∀ (s : Shared) (H : Hp) (C : Addr) (cl : List (Str × Addr)) (fp : List Addr), PTs (X.blk s H scope (compEnvC scope cl C X.env) fp) ifs (tT X.K tc))
    (he : ∀ (s : Shared) (H : Hp) (C : Addr) (cl : List (Str × Addr)) (fp : List Addr), PE (X.blk s H scope (compEnvC scope cl C X.env) fp) elt (tE X.K el)) (hS : ∀ j ∈ S, j ∈ own.map (·.2) := by decide) (hc : X.calm = true := by rfl) (hs : ∀ x, foldedSetIterable iter X.env x = pure x := by intro _; rfl) :
    PE X (.ListComp elt [⟨tg, iter, ifs, 0⟩] scope pos) (tE X.K (lcM (own.map (·.2)) src t tc el)) := PE.weak (pe_lc hc hN hi ok hg ht he hs) (tE_lc hS)
theorem tS_set {i : Nat} {f : M Rs} : ∀ D σ H, tS K (setM i f) D σ H → tAsg (tE K f) (gName i) D σ H := by
  rintro D σ H ⟨γ, e, Z, fl, e', R, h, k⟩
  obtain ⟨r, e1, h1, h2⟩ := bnd_eq h
  obtain ⟨u, e2, h3, h4⟩ := bnd_eq h2
  cases h4
  refine ⟨γ, e, Z, r, e1, R, h1, fun v H1 kp sh P => ?_⟩
  obtain ⟨Z1, h01, hf, R1, A1⟩ := P.one
  obtain ⟨R2, s2⟩ := asg_ok h3 h01 hf (Stp.ev kp sh) R1 A1
  exact k γ _ H1 s2 R2
theorem ds_setLc {i : Nat} {y : Str} {py : Pos} {elt tg iter : Expr} {ifs : List Expr} {scope : Scope} {own : List (Str × Nat)} {spos : Pos} {src : Src} {t : D → M Unit} {tc : M Bool} {el : M Rs} {S : List Nat} (hi : PI X tg iter (tI X.K src)) (hN : X.N.Nodup) (ok : BlkOk X.N X.env.scope scope own)
    (hg : ∀ (s : Shared) (H : Hp) (C : Addr) (cl : List (Str × Addr)) (fp : List Addr), PG (X.blk s H scope (compEnvC scope cl C X.env) fp) tg (tG X.K S t)) (ht : ∀ (s : Shared) (H : Hp) (C : Addr) (cl : List (Str × Addr)) (fp : List Addr), PTs (X.blk s H scope (compEnvC scope cl C X.env) fp) ifs (tT X.K tc))
    (he : ∀ (s : Shared) (H : Hp) (C : Addr) (cl : List (Str × Addr)) (fp : List Addr), PE (X.blk s H scope (compEnvC scope cl C X.env) fp) elt (tE X.K el)) (hy : X.N[i]? = some y := by rfl) (hS : ∀ j ∈ S, j ∈ own.map (·.2) := by decide) (hyl : X.env.scope.names.lookup y = some .local := by rfl)
    (hsw : swapsWith (.ListComp elt [⟨tg, iter, ifs, 0⟩] scope pos) (some (.Name y py)) spos.line X.env = pure true := by exact sw_true rfl rfl rfl rfl) (hc : X.calm = true := by rfl) (hs : ∀ x, foldedSetIterable iter X.env x = pure x := by intro _; rfl) :
    PS X (.Assign [.Name y py] (.ListComp elt [⟨tg, iter, ifs, 0⟩] scope pos) spos) (tS X.K (setM i (lcM (own.map (·.2)) src t tc el))) := PS.weak (ps_setLc hc hN hy hyl hsw hi ok hg ht he hs) fun D σ H h => by
  obtain ⟨γ, e, Z, r, e', R, h1, k⟩ := tS_set D σ H h
  exact tE_lc hS σ H _ ⟨γ, e, Z, r, e', R, h1, k⟩
theorem dts_nil : PTs X [] (tT X.K (ret true)) := ⟨fun pins s σ H Q I h => pts_nil.run pins s σ H Q I (tT_ret σ H Q h)⟩
theorem dts_one {f : M Bool} (h : PT X c (tT X.K f)) : PTs X [c] (tT X.K f) := pts_one h
end
end DV
end
section
set_option Elab.async false
set_option linter.all false
set_option maxRecDepth 100000
namespace DV
open PySem PySem.Spec PyProof.Rows L2

/-! ### what is read: words -/
section
variable {K : PySem.W.Frag} {H : Hp} {O : Addr → Prop}
theorem RpR.str {v : V} {x : Str} (h : RpR K H O v (.str x)) : v = .str x := by
  rcases h with h | ⟨a, _, ⟨_, _, e, _⟩ | ⟨_, _, e, _⟩⟩
  · cases h; rfl
  · cases e
  · cases e
theorem RpR.bl {v : V} {x : Bool} (h : RpR K H O v (.bool x)) : v = .bl x := by
  rcases h with h | ⟨a, _, ⟨_, _, e, _⟩ | ⟨_, _, e, _⟩⟩
  · cases h; rfl
  · cases e
  · cases e
theorem RpR.non {v : V} (h : RpR K H O v .none) : v = .non := by
  rcases h with h | ⟨a, _, ⟨_, _, e, _⟩ | ⟨_, _, e, _⟩⟩
  · cases h; rfl
  · cases e
  · cases e
theorem RpR.lst {v : V} {ds : List D} (h : RpR K H O v (.list ds)) : ∃ a xs, v = .ref a ∧ SqL K H a xs ∧ RpL K H O xs ds := by
  rcases h with h | ⟨a, rfl, ⟨xs, ds', e, q, r⟩ | ⟨_, _, e, _⟩⟩
  · cases h with
    | lst q r => exact ⟨_, _, rfl, q.sq, r⟩
  · cases e; exact ⟨_, _, rfl, .of q, r⟩
  · cases e
theorem RpR.tup {v : V} {ds : List D} (h : RpR K H O v (.tuple ds)) : ∃ a xs, v = .ref a ∧ SqTo K H O a xs ∧ RpL K H O xs ds := by
  rcases h with h | ⟨a, rfl, ⟨_, _, e, _⟩ | ⟨_, _, e, _⟩⟩
  · cases h with
    | tup q r => exact ⟨_, _, rfl, q, r⟩
  · cases e
  · cases e
theorem RpR.dct {v : V} {kvs : List (D × D)} (h : RpR K H O v (.dict kvs)) : ∃ a ks, v = .ref a ∧ H a = some (.dK ks) ∧ RpE K H O ks kvs := by
  rcases h with h | ⟨a, rfl, ⟨_, _, e, _⟩ | ⟨ks, kvs', e, q, r⟩⟩
  · cases h with
    | dct q n r => exact ⟨_, _, rfl, q, r⟩
  · cases e
  · cases e; exact ⟨_, _, rfl, q, r⟩
mutual
theorem Rp.dp : ∀ {v : V} (d : D), d.canLay0 = true → Rp K H O v d → Dp K H v d
  | _, .none, _, h => by cases h; exact .non
  | _, .bool _, _, h => by cases h; exact .bl _
  | _, .int _, _, h => by cases h; exact .int _
  | _, .str _, _, h => by cases h; exact .str _
  | _, .list ds, c, h => by
    cases h with
    | lst q r => exact .lst q.sq (RpL.dp ds (by simpa [PyData.canLay0] using c) r)
  | _, .tuple ds, c, h => by
    cases h with
    | tup q r => exact .tup q.sq (RpL.dp ds (by simpa [PyData.canLay0] using c) r)
  | _, .dict kvs, c, h => by simp [PyData.canLay0] at c
theorem RpL.dp : ∀ {vs : List V} (ds : List D), PyData.canLayAll0 ds = true → RpL K H O vs ds → DpAll K H vs ds
  | _, [], _, h => by cases h; exact .nil
  | _, d :: ds, c, h => by
    cases h with
    | cons q r =>
      simp only [PyData.canLayAll0, Bool.and_eq_true] at c
      exact .cons (Rp.dp d c.1 q) (RpL.dp ds c.2 r)
end
theorem RpR.dp {v : V} {d : D} (c : d.canLay0 = true) (h : RpR K H O v d) : Dp K H v d := by
  rcases h with h | ⟨a, rfl, ⟨xs, ds, e, q, r⟩ | ⟨_, _, e, _⟩⟩
  · exact h.dp d c
  · subst e; exact .lst (.of q) (RpL.dp ds (by simpa [PyData.canLay0] using c) r)
  · subst e; simp [PyData.canLay0] at c
theorem RpR.shp {v : V} {d : D} (c : SeqAt.shaped d = true) (h : RpR K H O v d) : Dp K H v d := h.dp (SeqAt.canLay_of_shaped c)
theorem RpR.of_item {v : V} {d : D} (h : Rp K H O v d) : RpR K H O v d := .inl h
theorem RpL.atI {xs : List V} {ds : List D} {i : Int} {d : D} (r : RpL K H O xs ds) (h : L2.atI ds i = some d) : ∃ v, L2.atI xs i = some v ∧ Rp K H O v d := by
  unfold L2.atI at h ⊢
  rw [r.length]
  cases q : ixN ds.length i with
  | none => rw [q] at h; cases h
  | some j => rw [q] at h; exact r.get h
end
def boolR (b : Bool) : Option Rs := some (.fz (.bool b))
def intR (i : Int) : Option Rs := some (.fz (.int i))
def strR (x : Str) : Option Rs := some (.fz (.str x))
/-- keys -/
def dKey : D → Option L2.Key
  | .int i => some (.inl i)
  | .str x => some (.inr x)
  | _ => none
theorem dKey_keyD (k : L2.Key) : dKey (keyD k) = some k := by cases k <;> rfl
theorem dKey_eq {d : D} {k : L2.Key} (h : dKey d = some k) : d = keyD k := by
  unfold dKey at h
  split at h <;> cases h <;> rfl
/-- what stands under a key -/
def getK (k : L2.Key) : List (D × D) → Option D
  | [] => none
  | p :: r => if dKey p.1 = some k then some p.2 else getK k r
def putD (k : L2.Key) (v : D) (kvs : List (D × D)) : List (D × D) := if (getK k kvs).isSome = true then kvs.map (fun p => if dKey p.1 = some k then (p.1, v) else p) else kvs ++ [(keyD k, v)]
section
variable {K : PySem.W.Frag} {H : Hp} {O : Addr → Prop}
theorem RpE.get (k : L2.Key) : ∀ {ks : List (L2.Key × V)} {kvs : List (D × D)}, RpE K H O ks kvs → (valV ks k = none ∧ getK k kvs = none) ∨ ∃ v d, valV ks k = some v ∧ getK k kvs = some d ∧ Rp K H O v d
  | _, _, .nil => .inl ⟨rfl, rfl⟩
  | _, _, .cons (k := k') (v := v) (d := d) r t => by
    by_cases e : k' = k
    · refine .inr ⟨v, d, valV_pos e, ?_, r⟩
      unfold getK; rw [if_pos (by rw [dKey_keyD, e])]
    · have e2 : ¬ dKey (keyD k') = some k := by rw [dKey_keyD]; exact fun z => e (Option.some.inj z)
      rcases RpE.get k t with ⟨h1, h2⟩ | ⟨v', d', h1, h2, h3⟩
      · refine .inl ⟨(valV_neg e).trans h1, ?_⟩
        unfold getK; rw [if_neg e2]; exact h2
      · refine .inr ⟨v', d', (valV_neg e).trans h1, ?_, h3⟩
        unfold getK; rw [if_neg e2]; exact h2
theorem RpE.map_put {k : L2.Key} {v : V} {d : D} (rv : Rp K H O v d) : ∀ {ks : List (L2.Key × V)} {kvs : List (D × D)}, RpE K H O ks kvs → RpE K H O (ks.map fun kv => if kv.1 = k then (kv.1, v) else kv) (kvs.map fun p => if dKey p.1 = some k then (p.1, d) else p)
  | _, _, .nil => .nil
  | _, _, .cons (k := k') r t => by
    rw [List.map_cons, List.map_cons]
    by_cases e : k' = k
    · rw [if_pos e, if_pos (by show dKey (keyD k') = _; rw [dKey_keyD, e])]
      exact .cons rv (RpE.map_put rv t)
    · rw [if_neg e, if_neg (by show ¬ dKey (keyD k') = _; rw [dKey_keyD]; exact fun z => e (Option.some.inj z))]
      exact .cons r (RpE.map_put rv t)
theorem RpE.put {ks : List (L2.Key × V)} {kvs : List (D × D)} {k : L2.Key} {v : V} {d : D} (r : RpE K H O ks kvs) (rv : Rp K H O v d) : RpE K H O (putK ks k v) (putD k d kvs) := by
  have e : (ks.any fun kv => decide (kv.1 = k)) = (getK k kvs).isSome := by
    rw [valV_any]
    rcases r.get k with ⟨h1, h2⟩ | ⟨v', d', h1, h2, _⟩
    · rw [h1, h2]; rfl
    · rw [h1, h2]; rfl
  unfold putK putD
  rw [e]
  by_cases c : (getK k kvs).isSome = true
  · rw [if_pos c, if_pos c]; exact r.map_put rv
  · rw [if_neg c, if_neg c]; exact r.append (.cons rv .nil)
theorem RpR.key {v : V} {d : D} {k : L2.Key} (h : RpR K H O v d) (e : dKey d = some k) : v = kV k := by
  cases k with
  | inl i => have := dKey_eq e; subst this; exact h.int
  | inr i => have := dKey_eq e; subst this; exact h.str
end

/-! ### == != -/
def eqG (x y : D) : Option Rs := if SeqAt.shaped x = true ∧ SeqAt.shaped y = true then boolR (PyData.eqv x y) else none
def neG (x y : D) : Option Rs := if SeqAt.shaped x = true ∧ SeqAt.shaped y = true then boolR (!PyData.eqv x y) else none
section
variable {X : Cx} {K : PySem.W.Frag}
theorem o_eq : Op2 K (rEqD K) eqG := fun H O x y dx dy res Q tr rx ry q k => by
  unfold eqG at q
  split at q
  · rename_i c
    cases q
    exact ⟨dx, dy, rx.shp c.1, ry.shp c.2, c.1, c.2, k _ H (.same (.bl _))⟩
  · cases q
theorem o_ne : Op2 K (rNeD K) neG := fun H O x y dx dy res Q tr rx ry q k => by
  unfold neG at q
  split at q
  · rename_i c
    cases q
    exact ⟨dx, dy, rx.shp c.1, ry.shp c.2, c.1, c.2, k _ H (.same (.bl _))⟩
  · cases q

/-! ### in, not in -/
def rInK : R2 := fun y x H Q => ∃ a kvs k, x = .ref a ∧ H a = some (.dK kvs) ∧ y = kV k ∧ Q (.bl (valV kvs k).isSome) H
def rNotInK : R2 := fun y x H Q => ∃ a kvs k, x = .ref a ∧ H a = some (.dK kvs) ∧ y = kV k ∧ Q (.bl (!(valV kvs k).isSome)) H
theorem op_inK (hu : X.A.units + 65 < cLine) : OpR X (compareOp .In) rInK := by
  intro pins s σ H x y v u Q I rx ry h
  obtain ⟨a, kvs, k, rfl, e, rfl, q⟩ := h
  cases ry
  exact d_in (by omega) I (.k e) rx fun s' I' => ⟨.bl _, H, I', rfl, q⟩
theorem op_notInK (hu : X.A.units + 65 < cLine) : OpR X (compareOp .NotIn) rNotInK := by
  intro pins s σ H x y v u Q I rx ry h
  obtain ⟨a, kvs, k, rfl, e, rfl, q⟩ := h
  cases ry
  exact d_notIn (by omega) I (.k e) rx fun s' I' => ⟨.bl _, H, I', rfl, q⟩
def rInS : R2 := fun x y H Q => ∃ i j, x = .str i ∧ y = .str j ∧ Q (.bl (!(Builtin.Str.occurrences j i 0 j.length 1).isEmpty)) H
def rNotInS : R2 := fun x y H Q => ∃ i j, x = .str i ∧ y = .str j ∧ Q (.bl (!(!(Builtin.Str.occurrences j i 0 j.length 1).isEmpty))) H
def rInA (K : PySem.W.Frag) : R2 := fun x y H Q => rInS x y H Q ∨ rInD K x y H Q ∨ rInK x y H Q
def rNotInA (K : PySem.W.Frag) : R2 := fun x y H Q => rNotInS x y H Q ∨ rNotInD K x y H Q ∨ rNotInK x y H Q
theorem op_inA (hu : X.A.units + 65 < cLine) : OpR X (compareOp .In) (rInA X.K) := op_in_str.or ((op_inD hu).or (op_inK hu))
theorem op_notInA (hu : X.A.units + 65 < cLine) : OpR X (compareOp .NotIn) (rNotInA X.K) := op_notin_str.or ((op_notInD hu).or (op_notInK hu))
def isIn (x y : D) : Option Bool := match x, y with
  | .str i, .str j => some (!(Builtin.Str.occurrences j i 0 j.length 1).isEmpty)
  | d, .list ds => if SeqAt.shaped d = true ∧ SeqAt.shaped (.list ds) = true then some (ds.any fun z => PyData.eqv z d) else none
  | d, .dict kvs => match dKey d with
    | some k => some (getK k kvs).isSome
    | none => none
  | _, _ => none
def inG (x y : D) : Option Rs := (isIn x y).bind boolR
def notInG (x y : D) : Option Rs := (isIn x y).bind fun b => boolR !b
theorem isIn_cases {x y : D} {b : Bool} (h : isIn x y = some b) : (∃ i j, x = .str i ∧ y = .str j ∧ b = (!(Builtin.Str.occurrences j i 0 j.length 1).isEmpty)) ∨ (∃ ds, y = .list ds ∧ SeqAt.shaped x = true ∧ SeqAt.shaped (.list ds) = true ∧ b = ds.any fun z => PyData.eqv z x) ∨
    ∃ kvs k, y = .dict kvs ∧ dKey x = some k ∧ b = (getK k kvs).isSome := by
  unfold isIn at h
  split at h
  · cases h; exact .inl ⟨_, _, rfl, rfl, rfl⟩
  · split at h
    · rename_i c; cases h; exact .inr (.inl ⟨_, rfl, c.1, c.2, rfl⟩)
    · cases h
  · split at h
    · rename_i k hk; cases h; exact .inr (.inr ⟨_, k, rfl, hk, rfl⟩)
    · cases h
  · cases h
theorem o_in : Op2 K (rInA K) inG := fun H O x y dx dy res Q tr rx ry q k => by
  obtain ⟨b, hb, q2⟩ := Option.bind_eq_some_iff.mp q
  cases q2
  rcases isIn_cases hb with ⟨i, j, rfl, rfl, rfl⟩ | ⟨ds, rfl, c1, c2, rfl⟩ | ⟨kvs, key, rfl, hk, rfl⟩
  · exact .inl ⟨i, j, rx.str, ry.str, k _ H (.same (.bl _))⟩
  · exact .inr (.inl ⟨dx, ds, rx.shp c1, ry.shp c2, c1, c2, k _ H (.same (.bl _))⟩)
  · obtain ⟨a, ks, rfl, e, r⟩ := ry.dct
    refine .inr (.inr ⟨a, ks, key, rfl, e, rx.key hk, ?_⟩)
    rcases r.get key with ⟨h1, h2⟩ | ⟨v', d', h1, h2, _⟩
    · rw [h1]; rw [h2] at k; exact k _ H (.same (.bl _))
    · rw [h1]; rw [h2] at k; exact k _ H (.same (.bl _))
theorem o_notIn : Op2 K (rNotInA K) notInG := fun H O x y dx dy res Q tr rx ry q k => by
  obtain ⟨b, hb, q2⟩ := Option.bind_eq_some_iff.mp q
  cases q2
  rcases isIn_cases hb with ⟨i, j, rfl, rfl, rfl⟩ | ⟨ds, rfl, c1, c2, rfl⟩ | ⟨kvs, key, rfl, hk, rfl⟩
  · exact .inl ⟨i, j, rx.str, ry.str, k _ H (.same (.bl _))⟩
  · exact .inr (.inl ⟨dx, ds, rx.shp c1, ry.shp c2, c1, c2, k _ H (.same (.bl _))⟩)
  · obtain ⟨a, ks, rfl, e, r⟩ := ry.dct
    refine .inr (.inr ⟨a, ks, key, rfl, e, rx.key hk, ?_⟩)
    rcases r.get key with ⟨h1, h2⟩ | ⟨v', d', h1, h2, _⟩
    · rw [h1]; rw [h2] at k; exact k _ H (.same (.bl _))
    · rw [h1]; rw [h2] at k; exact k _ H (.same (.bl _))

/-! ### < -/
def rLtI : R2 := rI0 fun i j => .bl (decide (i < j))
def rLtD (K : PySem.W.Frag) : R2 := fun x y H Q => ∃ d e, Dp K H x d ∧ Dp K H y e ∧ SeqAt.shaped d = true ∧ PySem.W.alike d e = true ∧ d ≠ .none ∧ Q (.bl (PySem.W.dataLt d e)) H
theorem op_ltD (hu : X.A.units + 65 < cLine) : OpR X (compareOp .Lt) (rLtD X.K) := by
  intro pins s σ H x y v u Q I rx ry h
  obtain ⟨d, e, hd, he, sd, al, hn, q⟩ := h
  obtain ⟨as, r1⟩ := Dp.reads I d x v hd rx
  obtain ⟨bs, r2⟩ := Dp.reads I e y u he ry
  exact PySem.W.lt_data r1 r2 al hn (SeqAt.room_of_shaped sd (by omega)) ⟨.bl _, H, I, rfl, q⟩
def isNoneD : D → Bool
  | .none => true
  | _ => false
def ltG (x y : D) : Option Rs := match x, y with
  | .int i, .int j => boolR (decide (i < j))
  | x, y => if SeqAt.shaped x = true ∧ SeqAt.shaped y = true ∧ PySem.W.alike x y = true ∧ isNoneD x = false then boolR (PySem.W.dataLt x y) else none
def rLtA (K : PySem.W.Frag) : R2 := fun x y H Q => rLtI x y H Q ∨ rLtD K x y H Q
theorem op_ltA (hu : X.A.units + 65 < cLine) : OpR X (compareOp .Lt) (rLtA X.K) := op_lt.or (op_ltD hu)
theorem o_lt : Op2 K (rLtA K) ltG := fun H O x y dx dy res Q tr rx ry q k => by
  unfold ltG at q
  split at q
  · cases q; exact .inl ⟨_, _, rx.int, ry.int, k _ H (.same (.bl _))⟩
  · split at q
    · rename_i c
      cases q
      refine .inr ⟨_, _, rx.shp c.1, ry.shp c.2.1, c.1, c.2.2.1, fun e => ?_, k _ H (.same (.bl _))⟩
      have := c.2.2.2
      rw [e] at this
      cases this
    · cases q
def cmpG (f : Int → Int → Bool) (x y : D) : Option Rs := match x, y with
  | .int i, .int j => boolR (f i j)
  | _, _ => none
theorem o_cmp {f : Int → Int → Bool} : Op2 K (rI0 fun i j => .bl (f i j)) (cmpG f) := fun H O x y dx dy res Q tr rx ry q k => by
  unfold cmpG at q
  split at q
  · cases q; exact ⟨_, _, rx.int, ry.int, k _ H (.same (.bl _))⟩
  · cases q
def leG := cmpG fun i j => decide (i ≤ j)
def gtG := cmpG fun i j => decide (j < i)
def geG := cmpG fun i j => decide (j ≤ i)
/-- is None -/
def isG (x y : D) : Option Rs := if isNoneD y = true then boolR (isNoneD x) else none
def isntG (x y : D) : Option Rs := if isNoneD y = true then boolR (!isNoneD x) else none
theorem isNone_eq {d : D} (h : isNoneD d = true) : d = .none := by
  cases d <;> first | rfl | cases h
theorem RpR.isNone {H : Hp} {O : Addr → Prop} {v : V} {d : D} (h : RpR K H O v d) : decide (v = .non) = isNoneD d := by
  rcases h with h | ⟨a, rfl, ⟨_, _, e, _⟩ | ⟨_, _, e, _⟩⟩
  · cases h <;> rfl
  · subst e; rfl
  · subst e; rfl
theorem o_is : Op2 K (fun x y H Q => y = .non ∧ Q (.bl (decide (x = .non))) H) isG := fun H O x y dx dy res Q tr rx ry q k => by
  unfold isG at q
  split at q
  · rename_i c
    cases q
    have := isNone_eq c
    subst this
    exact ⟨ry.non, by rw [rx.isNone]; exact k _ H (.same (.bl _))⟩
  · cases q
theorem o_isnt : Op2 K (fun x y H Q => y = .non ∧ Q (.bl (!decide (x = .non))) H) isntG := fun H O x y dx dy res Q tr rx ry q k => by
  unfold isntG at q
  split at q
  · rename_i c
    cases q
    have := isNone_eq c
    subst this
    exact ⟨ry.non, by rw [rx.isNone]; exact k _ H (.same (.bl _))⟩
  · cases q
end
end DV
end
section
set_option Elab.async false
set_option linter.all false
set_option maxRecDepth 100000
namespace DV
open PySem PySem.Spec PyProof.Rows L2
/-! ### arithmetic, + of lists and tuples, subscripts, slices -/
section
variable {X : Cx} {K : PySem.W.Frag}
def rCatL (K : PySem.W.Frag) : R2 := fun x y H Q => ∃ l b xs zs, x = .ref l ∧ y = .ref b ∧ SqL K H l xs ∧ SqL K H b zs ∧ xs.length + zs.length ≤ sizeLine ∧ ∀ p, H p = none → Q (.ref p) (upd H p (.lst (xs ++ zs)))
theorem op_catL : OpR X (binaryOp .Add) (rCatL X.K) := by
  intro pins s σ H x y v u Q I rx ry h
  obtain ⟨l, b, xs, zs, rfl, rfl, hH, hB, hz, q⟩ := h
  cases rx
  cases ry
  obtain ⟨its, r, p, z⟩ := I.list hH
  obtain ⟨its2, r2, p2, z2⟩ := I.list hB
  obtain ⟨⟨cls, dd, data, sl⟩, ho, hc, n, hd⟩ := id p.isList
  obtain ⟨⟨cls2, dd2, data2, sl2⟩, ho2, hc2, n2, hd2⟩ := id p2.isList
  simp only at hc hd hc2 hd2
  subst hc hd hc2 hd2
  have hl := r.length
  have hl2 := r2.length
  refine concat_meets ⟨_, ho, rfl⟩ ⟨_, ho2, rfl⟩ noFill_list_add seq_list_add PySem.F.slot_list_add PySem.F.entry_list_add (PySem.F.args_list_add_2 _ _) (list_addW l b its.toArray its2.toArray n n2 dd dd2 sl sl2 (by rw [List.size_toArray, List.size_toArray]; omega)) ⟨ho, ho2, ?_⟩
  have ea : its.toArray ++ its2.toArray = (its ++ its2).toArray := by simp
  rw [ea]
  exact ⟨.ref _, _, I.lnew (t' := s.toks) (r.append r2) (by rw [List.length_append]; omega), rfl, q _ I.fresh⟩
def rAddS : R2 := fun x y H Q => ∃ i j, x = .str i ∧ y = .str j ∧ i.length + j.length ≤ sizeLine ∧ Q (.str (i ++ j)) H
def rAddA (K : PySem.W.Frag) : R2 := fun x y H Q => (rI0 fun i j => .int (i + j)) x y H Q ∨ rAddS x y H Q ∨ rCatL K x y H Q ∨ rCatA K x y H Q
theorem op_addA : OpR X (binaryOp .Add) (rAddA X.K) := op_add.or (op_add_str.or (op_catL.or op_catA))
def addG (x y : D) : Option Rs := match x, y with
  | .int i, .int j => intR (i + j)
  | .str i, .str j => if i.length + j.length ≤ 100000 then strR (i ++ j) else none
  | .list xs, .list ys => if xs.length + ys.length ≤ 100000 then some (.fr (.list (xs ++ ys))) else none
  | .tuple xs, .tuple ys => if xs.length + ys.length ≤ 100000 then some (.fz (.tuple (xs ++ ys))) else none
  | _, _ => none
theorem le100000 {n : Nat} (h : n ≤ 100000) : n ≤ sizeLine := by rw [sizeLine_eq]; omega
theorem o_add : Op2 K (rAddA K) addG := fun H O x y dx dy res Q tr rx ry q k => by
  unfold addG at q
  split at q
  · cases q; exact .inl ⟨_, _, rx.int, ry.int, k _ H (.same (.int _))⟩
  · split at q
    · rename_i c; cases q; exact .inr (.inl ⟨_, _, rx.str, ry.str, le100000 c, k _ H (.same (.str _))⟩)
    · cases q
  · split at q
    · rename_i c
      cases q
      obtain ⟨a, xs, rfl, sq, r⟩ := rx.lst
      obtain ⟨b, ys, rfl, sq2, r2⟩ := ry.lst
      exact .inr (.inr (.inl ⟨a, b, xs, ys, rfl, rfl, sq, sq2, by rw [r.length, r2.length]; exact le100000 c, fun p hp => k _ _ (.lst (Same.refl H) hp (r.append r2))⟩))
    · cases q
  · split at q
    · rename_i c
      cases q
      obtain ⟨a, xs, rfl, sq, r⟩ := rx.tup
      obtain ⟨b, ys, rfl, sq2, r2⟩ := ry.tup
      refine .inr (.inr (.inr ⟨a, b, xs, ys, rfl, rfl, sq.sq, sq2.sq, by rw [r.length, r2.length]; exact le100000 c, fun e => ?_, fun _ e => ?_, fun _ _ p hp => k _ _ (.tup (Same.refl H) hp (r.append r2))⟩))
      · subst e
        cases r
        exact k _ H (.same (.tup sq2 r2))
      · subst e
        cases r2
        rw [List.append_nil] at k
        exact k _ H (.same (.tup sq r))
    · cases q
  · cases q
def intG (f : Int → Int → Option Int) (x y : D) : Option Rs := match x, y with
  | .int i, .int j => (f i j).bind intR
  | _, _ => none
theorem o_int {C : Int → Int → Prop} {g : Int → Int → Int} {f : Int → Int → Option Int} (hf : ∀ i j r, f i j = some r → C i j ∧ r = g i j) : Op2 K (rI C fun i j => .int (g i j)) (intG f) := fun H O x y dx dy res Q tr rx ry q k => by
  unfold intG at q
  split at q
  · obtain ⟨r, hr, q2⟩ := Option.bind_eq_some_iff.mp q
    cases q2
    obtain ⟨h1, rfl⟩ := hf _ _ _ hr
    exact ⟨_, _, rx.int, ry.int, h1, k _ H (.same (.int _))⟩
  · cases q
theorem o_int0 {g : Int → Int → Int} : Op2 K (rI0 fun i j => .int (g i j)) (intG fun i j => some (g i j)) := fun H O x y dx dy res Q tr rx ry q k => by
  unfold intG at q
  split at q
  · cases q; exact ⟨_, _, rx.int, ry.int, k _ H (.same (.int _))⟩
  · cases q
def subG := intG fun i j => some (i - j)
def mulF (i j : Int) : Option Int := if (-(2 ^ 64) < i ∧ i < 2 ^ 64) ∨ (-(2 ^ 64) < j ∧ j < 2 ^ 64) then some (i * j) else none
def fdivF (i j : Int) : Option Int := if 0 < j ∧ j < 1073741824 then some (i / j) else none
def modF (i j : Int) : Option Int := if 0 < j then some (i % j) else none
def powF (i j : Int) : Option Int := if 0 ≤ j ∧ j ≤ 1000000 ∧ i.natAbs < 2 ^ 64 then some (i ^ j.toNat) else none
theorem o_sub : Op2 K (rI0 fun i j => .int (i - j)) subG := o_int0
theorem o_fdiv : Op2 K (rI CDiv fun i j => .int (i / j)) (intG fdivF) := o_int fun i j r h => by
  unfold fdivF at h
  split at h
  · rename_i c; cases h; exact ⟨c, rfl⟩
  · cases h
theorem o_mod : Op2 K (rI (fun _ j => 0 < j) fun i j => .int (i % j)) (intG modF) := o_int fun i j r h => by
  unfold modF at h
  split at h
  · rename_i c; cases h; exact ⟨c, rfl⟩
  · cases h
theorem o_pow : Op2 K (rI CPow fun i j => .int (i ^ j.toNat)) (intG powF) := o_int fun i j r h => by
  unfold powF at h
  split at h
  · rename_i c; cases h; exact ⟨c, rfl⟩
  · cases h
/-- int * int, list * int -/
def rMulA : R2 := fun x y H Q => (rI CMul fun i j => .int (i * j)) x y H Q ∨ rRep x y H Q
theorem op_mulA : OpR X (binaryOp .Mult) rMulA := op_mul.or op_rep
def repD (n : Nat) (xs : List D) : List D := (List.replicate n xs).flatten
/-- [..] * k: of a list just made, or of a slot's own -/
def mulG (x y : D) : Option Rs := match x, y with
  | .int i, .int j => (mulF i j).bind intR
  | _, _ => none
theorem o_mul : Op2 K rMulA mulG := fun H O x y dx dy res Q tr rx ry q k => by
  unfold mulG at q
  split at q
  · obtain ⟨r, hr, q2⟩ := Option.bind_eq_some_iff.mp q
    cases q2
    unfold mulF at hr
    split at hr
    · rename_i c; cases hr; exact .inl ⟨_, _, rx.int, ry.int, c, k _ H (.same (.int _))⟩
    · cases hr
  · cases q
def negG (x : D) : Option Rs := match x with
  | .int i => intR (-i)
  | _ => none
theorem o_neg : Op1 K (rU fun i => .int (-i)) negG := fun H O x d res Q tr rx q k => by
  unfold negG at q
  split at q
  · cases q; exact ⟨_, rx.int, k _ H (.same (.int _))⟩
  · cases q

/-! ### subscripts -/
def rIxK : R2 := fun x y H Q => ∃ a kvs k v, x = .ref a ∧ H a = some (.dK kvs) ∧ y = kV k ∧ valV kvs k = some v ∧ Q v H
theorem ix_key (hu : X.A.units + 65 < cLine) : IxR X rIxK := by
  intro value slice pins s σ H x y v u Q I rx ry h hs
  obtain ⟨a, kvs, k, w, rfl, e, rfl, hv, q⟩ := h
  cases rx
  have g : DGet H a (kV k) (some w) := hv ▸ .k e
  exact tail_any (dict_typeIs I g) PySem.F.slot_dict_getitem.lookup (d_getItem (by omega) I g ry fun w' s3 I3 rw' => ⟨w, H, I3, rw', q⟩) hs
def rIxA (K : PySem.W.Frag) : R2 := fun x y H Q => rIx K x y H Q ∨ rIxK x y H Q
theorem ix_all (hu : X.A.units + 65 < cLine) : IxR X (rIxA X.K) := ix_seq.or (ix_key hu)
def ixG (x y : D) : Option Rs := match x, y with
  | .list ds, .int i => (atI ds i).map .fz
  | .tuple ds, .int i => (atI ds i).map .fz
  | .str z, .int i => if z.length ≤ 100000 then (atI z.cps.toList i).map fun c => .fz (.str ⟨#[c]⟩) else none
  | .dict kvs, d => match dKey d with
    | some k => (getK k kvs).map .fz
    | none => none
  | _, _ => none
theorem o_ix : Op2 K (rIxA K) ixG := fun H O x y dx dy res Q tr rx ry q k => by
  unfold ixG at q
  split at q
  · obtain ⟨d, hd, rfl⟩ := Option.map_eq_some_iff.mp q
    obtain ⟨a, xs, rfl, sq, r⟩ := rx.lst
    obtain ⟨v, hv, rp⟩ := r.atI hd
    exact .inl (.inl ⟨a, xs, _, v, rfl, ry.int, sq, hv, k _ H (.same rp)⟩)
  · obtain ⟨d, hd, rfl⟩ := Option.map_eq_some_iff.mp q
    obtain ⟨a, xs, rfl, sq, r⟩ := rx.tup
    obtain ⟨v, hv, rp⟩ := r.atI hd
    exact .inl (.inr (.inl ⟨a, xs, _, v, rfl, ry.int, sq.sq, hv, k _ H (.same rp)⟩))
  · split at q
    · rename_i c
      obtain ⟨d, hd, rfl⟩ := Option.map_eq_some_iff.mp q
      exact .inl (.inr (.inr ⟨_, _, d, rx.str, ry.int, le100000 c, hd, k _ H (.same (.str _))⟩))
    · cases q
  · split at q
    · rename_i key hk
      obtain ⟨d, hd, rfl⟩ := Option.map_eq_some_iff.mp q
      obtain ⟨a, ks, rfl, e, r⟩ := rx.dct
      rcases r.get key with ⟨h1, h2⟩ | ⟨v', d', h1, h2, rp⟩
      · rw [h2] at hd; cases hd
      · rw [h2] at hd; cases hd
        exact .inr ⟨a, ks, key, v', rfl, e, ry.key hk, h1, k _ H (.same rp)⟩
    · cases q
  · cases q
theorem de_ix {a b : Expr} {f1 f2 : M Rs} {pos : Pos} (hu : X.A.units + 65 < cLine) (ha : PE X a (tE X.K f1)) (hb : PE X b (tE X.K f2)) (hs : PlainIx b := by intro _ _; rfl) : PE X (.Subscript a b pos) (tE X.K (op2 ixG f1 f2)) := PE.weak (pe_ix (ix_all hu) ha hb hs) (tE_op2 o_ix)
end
end DV
end
section
set_option Elab.async false
set_option linter.all false
set_option maxRecDepth 100000
namespace DV
open PySem PySem.Spec PyProof.Rows L2
/-! ### slices -/
def tO (K : PySem.W.Frag) (f : M (Option Int)) : TO := fun σ H Q => ∃ γ e Z o e', Rep K γ e σ H Z ∧ f e = some (o, e') ∧ ∀ H', Kp γ e.ρ σ H H' → Sh e e' → Rep K γ e' σ H' Z → Q o H'
def part1 (d : D) : M (Option Int) := match d with
  | .int i => ret (some i)
  | _ => noM
def partM (f : M Rs) : M (Option Int) := bnd f fun r => bnd (rdM r) part1
def cutL {α : Type} (xs : List α) (lo hi : Option Int) : List α := (xs.drop (HT.sIx xs.length 0 lo)).take (HT.sIx xs.length xs.length hi - HT.sIx xs.length 0 lo)
def slG (x : D) (lo hi : Option Int) : Option Rs := match x with
  | .list ds => some (.fr (.list (cutL ds lo hi)))
  | .tuple ds => some (.fz (.tuple (cutL ds lo hi)))
  | _ => none
def slcM (fa : M Rs) (fl fh : M (Option Int)) : M Rs := bnd fa fun a => bnd fl fun lo => bnd fh fun hi => bnd (rdM a) fun x => opt (slG x lo hi)
def rSlAll (K : PySem.W.Frag) : V → Option Int → Option Int → Hp → VK → Prop := fun x lo hi H Q => rSlL K x lo hi H Q ∨ rSlA K x lo hi H Q
section
variable {X : Cx} {K : PySem.W.Frag}
theorem part1_eq {d : D} {e e' : En} {o : Option Int} (h : part1 d e = some (o, e')) : ∃ i, d = .int i ∧ o = some i ∧ e' = e := by
  unfold part1 at h
  split at h
  · cases h; exact ⟨_, rfl, rfl, rfl⟩
  · cases h
theorem do_none : PO X none (tO X.K (ret none)) := ⟨fun pins s σ H Q I h => po_none.run pins s σ H Q I (by
  obtain ⟨γ, e, Z, o, e', R, h1, k⟩ := h
  cases h1
  exact k H (Kp.refl H) (Sh.refl e) R)⟩
theorem do_some {e : Expr} {f : M Rs} (he : PE X e (tE X.K f)) : PO X (some e) (tO X.K (partM f)) := ⟨fun pins s σ H Q I h => (po_some he).run pins s σ H Q I (by
  obtain ⟨γ, e, Z, o, e', R, h1, k⟩ := h
  obtain ⟨r, e1, h2, h3⟩ := bnd_eq h1
  obtain ⟨d, e2, h4, h5⟩ := bnd_eq h3
  obtain ⟨q1, rfl⟩ := rdM_eq h4
  obtain ⟨i, rfl, rfl, rfl⟩ := part1_eq h5
  refine ⟨γ, e, Z, r, _, R, h2, fun v H1 kp sh P => ?_⟩
  have R1 := P.rep
  obtain ⟨Z1, h01, hf, R2, A1⟩ := P.one
  exact ⟨i, (A1.rd R2 q1).int, k H1 kp sh R1⟩)⟩
theorem RpL.cut {H : Hp} {O : Addr → Prop} {xs : List V} {ds : List D} {lo hi : Option Int} (r : RpL K H O xs ds) : RpL K H O (cutV xs lo hi) (cutL ds lo hi) := by
  unfold cutV cutL
  rw [r.length]
  exact (r.drop _).take _
theorem tE_slc {fa : M Rs} {fl fh : M (Option Int)} : ∀ σ H Q, tE K (slcM fa fl fh) σ H Q → tSl (rSlAll K) (tE K fa) (tO K fl) (tO K fh) σ H Q := by
  rintro σ H Q ⟨γ, e, Z, res, e', R, h, k⟩
  obtain ⟨ra, e1, h1, ha⟩ := bnd_eq h
  obtain ⟨lo, e2, h2, hb⟩ := bnd_eq ha
  obtain ⟨hi, e3, h3, hc⟩ := bnd_eq hb
  obtain ⟨x, e4, h4, hd⟩ := bnd_eq hc
  obtain ⟨q1, rfl⟩ := rdM_eq h4
  obtain ⟨q2, rfl⟩ := opt_eq hd
  refine ⟨γ, e, Z, ra, e1, R, h1, fun v H1 kp sh P => ?_⟩
  obtain ⟨Z1, h01, hf, R1, A1⟩ := P.one
  refine ⟨γ, e1, Z1, lo, e2, R1, h2, fun H2 kp2 sh2 R2 => ⟨γ, e2, Z1, hi, _, R2, h3, fun H3 kp3 sh3 R3 => ?_⟩⟩
  have kp23 := kp2.trans sh2 kp3
  have sh23 := sh2.trans sh3
  have A3 := A1.keep R1 R3 kp23 sh23 (fun _ z => z) (fun _ z => .inl z)
  have rd := A3.rd R3 q1
  have fin : ∀ {r : Rs} {v : V} {H4 : Hp}, r = res → Gr K H3 (Hid γ e'.ρ σ Z1) r v H4 → Q v H4 := fun {r v H4} er g => by
    subst er
    obtain ⟨kp4, P4⟩ := g.pst R3
    exact k v H4 ((kp.trans sh kp23).trans (sh.trans sh23) kp4) (sh.trans sh23) (Pst.next (rs0 := []) (xs0 := []) (kp.trans sh kp23) h01 hf P4)
  cases x with
  | list ds =>
    cases q2
    obtain ⟨a, xs, rfl, sq, r⟩ := rd.lst
    exact .inl ⟨a, xs, rfl, sq, fun p hp => fin rfl (.lst (Same.refl H3) hp r.cut)⟩
  | tuple ds =>
    cases q2
    obtain ⟨a, xs, rfl, sq, r⟩ := rd.tup
    refine .inr ⟨a, xs, rfl, sq.sq, fun hw => ?_, fun _ p hp => fin rfl (.tup (Same.refl H3) hp r.cut)⟩
    have e5 : cutL ds lo hi = ds := by
      unfold cutL
      rw [← r.length, hw.1, hw.2]
      simp [r.length]
    rw [e5] at fin
    exact fin rfl (.same (.tup sq r))
  | _ => cases q2
theorem de_slc {e : Expr} {lo hi : Option Expr} {f : M Rs} {fl fh : M (Option Int)} {pos p2 : Pos} (he : PE X e (tE X.K f)) (hl : PO X lo (tO X.K fl)) (hh : PO X hi (tO X.K fh)) : PE X (.Subscript e (.Slice lo hi none p2) pos) (tE X.K (slcM f fl fh)) :=
  PE.weak (pe_slice (sl_list.or sl_tupA) he hl hh) tE_slc

/-! ### builtins -/
theorem de_blt {id : String} {x : Str} {r : List V → Hp → VK → Prop} {g : List D → Option Rs} {p pos : Pos} {e : Expr} {es : List Expr} {fs : M (List Rs)} (hc : CallR X (.builtin id) r) (o : OpN X.K r g) (hv : bootBuiltins x = some (.builtin id)) (hm : X.mg x = none) (ha : PA X (e :: es) (tA X.K fs)) (hg : Gl X x := by rfl) (hn : x ≠ "__name__" := by decide)
    (hdb : (x == ("__debug__" : Str)) = false := by decide) (he : starEach (e :: es) X.env = (false, eval e X.env) :: starEach es X.env := by rfl) (hpl : (backTo pos (starEach es X.env)).any (·.1) = false := by rfl) : PE X (.Call (.Name x p) (e :: es) [] pos) (tE X.K (opN g fs)) :=
  PE.weak (pe_callB hc hg hm hv ha hn hdb he hpl) (tE_opN o)
theorem de_ty {id : String} {x : Str} {r : List V → Hp → VK → Prop} {g : List D → Option Rs} {p pos : Pos} {e : Expr} {es : List Expr} {fs : M (List Rs)} (hc : CallR X (.type id) r) (o : OpN X.K r g) (hv : bootBuiltins x = some (.type id)) (hm : X.mg x = none) (ha : PA X (e :: es) (tA X.K fs)) (hg : Gl X x := by rfl) (hn : x ≠ "__name__" := by decide)
    (hdb : (x == ("__debug__" : Str)) = false := by decide) (he : starEach (e :: es) X.env = (false, eval e X.env) :: starEach es X.env := by rfl) (hpl : (backTo pos (starEach es X.env)).any (·.1) = false := by rfl) : PE X (.Call (.Name x p) (e :: es) [] pos) (tE X.K (opN g fs)) :=
  PE.weak (pe_callTy hc hg hm hv ha hn hdb he hpl) (tE_opN o)
def g1 (g : D → Option Rs) (ds : List D) : Option Rs := match ds with
  | [d] => g d
  | _ => none
def g2 (g : D → D → Option Rs) (ds : List D) : Option Rs := match ds with
  | [d, c] => g d c
  | _ => none
theorem OpN.one {r : List V → Hp → VK → Prop} {g : D → Option Rs} (h : ∀ (H : Hp) (O : Addr → Prop) (x : V) (d : D) (res : Rs) (Q : VK), (∀ a, O a → ∃ o, H a = some o) → RpR K H O x d → g d = some res → (∀ v H', Gr K H O res v H' → Q v H') → r [x] H Q) :
    OpN K r (g1 g) := fun H O xs ds res Q tr A q k => by
  unfold g1 at q
  split at q
  · cases A with
    | cons a t => cases t; exact h H O _ _ res Q tr a q k
  · cases q
theorem OpN.two {r : List V → Hp → VK → Prop} {g : D → D → Option Rs} (h : ∀ (H : Hp) (O : Addr → Prop) (x y : V) (d c : D) (res : Rs) (Q : VK), (∀ a, O a → ∃ o, H a = some o) → RpR K H O x d → RpR K H O y c → g d c = some res → (∀ v H', Gr K H O res v H' → Q v H') → r [x, y] H Q) :
    OpN K r (g2 g) := fun H O xs ds res Q tr A q k => by
  unfold g2 at q
  split at q
  · cases A with
    | cons a t =>
      cases t with
      | cons b t => cases t; exact h H O _ _ _ _ res Q tr a b q k
  · cases q
/-- len -/
def rLen (K : PySem.W.Frag) : List V → Hp → VK → Prop := fun xs H Q => (∃ x n, xs = [x] ∧ LenV K x H n ∧ Q (.int n) H) ∨ ∃ a kvs, xs = [.ref a] ∧ H a = some (.dK kvs) ∧ Q (.int kvs.length) H
theorem call_lenA : CallR X (.builtin "len") (rLen X.K) := by
  intro pins s σ H xs us Q I r h
  rcases h with h | ⟨a, kvs, rfl, e, q⟩
  · exact call_len pins s σ H xs us Q I r h
  · obtain ⟨u, rfl, rx⟩ := vals1 r
    cases rx
    exact d_len I (.inl e) fun t s' I' => ⟨.int kvs.length, H, I', ⟨t, rfl⟩, q⟩
def lenG (d : D) : Option Rs := match d with
  | .list ds => intR ds.length
  | .tuple ds => intR ds.length
  | .str x => if x.length ≤ 100000 then intR x.length else none
  | .dict kvs => intR kvs.length
  | _ => none
theorem o_len : OpN K (rLen K) (g1 lenG) := OpN.one fun H O x d res Q tr rx q k => by
  unfold lenG at q
  split at q
  · cases q
    obtain ⟨a, xs, rfl, sq, r⟩ := rx.lst
    exact .inl ⟨_, _, rfl, .inl ⟨xs, sq, r.length.symm⟩, k _ H (.same (.int _))⟩
  · cases q
    obtain ⟨a, xs, rfl, sq, r⟩ := rx.tup
    exact .inl ⟨_, _, rfl, .inr ⟨xs, sq.sq, r.length.symm⟩, k _ H (.same (.int _))⟩
  · split at q
    · rename_i c
      cases q
      have e := rx.str
      subst e
      exact .inl ⟨_, _, rfl, ⟨le100000 c, rfl⟩, k _ H (.same (.int _))⟩
    · cases q
  · cases q
    obtain ⟨a, ks, rfl, e, r⟩ := rx.dct
    exact .inr ⟨a, ks, rfl, e, by rw [r.length]; exact k _ H (.same (.int _))⟩
  · cases q
/-- all, any of a list of bools -/
def bools : List D → Option (List Bool)
  | [] => some []
  | .bool b :: r => (bools r).map (b :: ·)
  | _ => none
theorem bools_eq : ∀ {ds : List D} {bs : List Bool}, bools ds = some bs → ds = bs.map .bool
  | [], bs, h => by cases h; rfl
  | .bool b :: r, bs, h => by
    obtain ⟨cs, hc, rfl⟩ := Option.map_eq_some_iff.mp (show (bools r).map (b :: ·) = some bs from h)
    rw [List.map_cons, ← bools_eq hc]
  | .none :: r, bs, h => by cases h
  | .int _ :: r, bs, h => by cases h
  | .str _ :: r, bs, h => by cases h
  | .list _ :: r, bs, h => by cases h
  | .tuple _ :: r, bs, h => by cases h
  | .dict _ :: r, bs, h => by cases h
theorem RpL.bls {H : Hp} {O : Addr → Prop} : ∀ {xs : List V} {bs : List Bool}, RpL K H O xs (bs.map .bool) → xs = bs.map .bl
  | _, [], h => by cases h; rfl
  | _, b :: bs, h => by
    cases h with
    | cons q r => cases q; rw [RpL.bls r]; rfl
theorem RpL.ints {H : Hp} {O : Addr → Prop} : ∀ {xs : List V} {bs : List Int}, RpL K H O xs (bs.map .int) → xs = bs.map .int
  | _, [], h => by cases h; rfl
  | _, b :: bs, h => by
    cases h with
    | cons q r => cases q; rw [RpL.ints r]; rfl
theorem RpL.strs {H : Hp} {O : Addr → Prop} : ∀ {xs : List V} {bs : List Str}, RpL K H O xs (bs.map .str) → xs = bs.map .str
  | _, [], h => by cases h; rfl
  | _, b :: bs, h => by
    cases h with
    | cons q r => cases q; rw [RpL.strs r]; rfl
def allG (d : D) : Option Rs := match d with
  | .list ds => (bools ds).bind fun bs => boolR (bs.all id)
  | _ => none
def anyG (d : D) : Option Rs := match d with
  | .list ds => (bools ds).bind fun bs => boolR (bs.any id)
  | _ => none
theorem o_all : OpN K (rAll K) (g1 allG) := OpN.one fun H O x d res Q tr rx q k => by
  unfold allG at q
  split at q
  · obtain ⟨bs, hb, q2⟩ := Option.bind_eq_some_iff.mp q
    cases q2
    have e := bools_eq hb
    subst e
    obtain ⟨a, xs, rfl, sq, r⟩ := rx.lst
    have e := r.bls
    subst e
    exact ⟨a, bs, rfl, sq, k _ H (.same (.bl _))⟩
  · cases q
theorem o_any : OpN K (rAny K) (g1 anyG) := OpN.one fun H O x d res Q tr rx q k => by
  unfold anyG at q
  split at q
  · obtain ⟨bs, hb, q2⟩ := Option.bind_eq_some_iff.mp q
    cases q2
    have e := bools_eq hb
    subst e
    obtain ⟨a, xs, rfl, sq, r⟩ := rx.lst
    have e := r.bls
    subst e
    exact ⟨a, bs, rfl, sq, k _ H (.same (.bl _))⟩
  · cases q
/-- ints -/
def absG (d : D) : Option Rs := match d with
  | .int i => intR (if i < 0 then -i else i)
  | _ => none
theorem o_abs : OpN K (fun xs H Q => ∃ i, xs = [.int i] ∧ Q (.int (if i < 0 then -i else i)) H) (g1 absG) := OpN.one fun H O x d res Q tr rx q k => by
  unfold absG at q
  split at q
  · cases q; exact ⟨_, by rw [rx.int], k _ H (.same (.int _))⟩
  · cases q
def maxG (d c : D) : Option Rs := match d, c with
  | .int i, .int j => intR (if j > i then j else i)
  | _, _ => none
theorem o_max2 : OpN K (fun xs H Q => ∃ i j, xs = [.int i, .int j] ∧ Q (.int (if j > i then j else i)) H) (g2 maxG) := OpN.two fun H O x y d c res Q tr rx ry q k => by
  unfold maxG at q
  split at q
  · cases q; exact ⟨_, _, by rw [rx.int, ry.int], k _ H (.same (.int _))⟩
  · cases q
def min2G (d c : D) : Option Rs := match d, c with
  | .int i, .int j => intR (if j < i then j else i)
  | _, _ => none
theorem o_min2 : OpN K (fun xs H Q => ∃ i j, xs = [.int i, .int j] ∧ Q (.int (if j < i then j else i)) H) (g2 min2G) := OpN.two fun H O x y d c res Q tr rx ry q k => by
  unfold min2G at q
  split at q
  · cases q; exact ⟨_, _, by rw [rx.int, ry.int], k _ H (.same (.int _))⟩
  · cases q
def int1G (d : D) : Option Rs := match d with
  | .int i => intR i
  | .bool b => intR (if b then 1 else 0)
  | _ => none
theorem o_int1 : OpN K (fun xs H Q => (∃ i, xs = [.int i] ∧ Q (.int i) H) ∨ ∃ k, xs = [.bl k] ∧ Q (.int (if k then 1 else 0)) H) (g1 int1G) := OpN.one fun H O x d res Q tr rx q k => by
  unfold int1G at q
  split at q
  · cases q; exact .inl ⟨_, by rw [rx.int], k _ H (.same (.int _))⟩
  · cases q; exact .inr ⟨_, by rw [rx.bl], k _ H (.same (.int _))⟩
  · cases q
def divmodG (d c : D) : Option Rs := match d, c with
  | .int i, .int j => if 0 < j ∧ j < 1073741824 then some (.fz (.tuple [.int (i / j), .int (i % j)])) else none
  | _, _ => none
theorem o_divmod : OpN K (fun xs H Q => ∃ i j, xs = [.int i, .int j] ∧ CDiv i j ∧ ∀ p, H p = none → Q (.ref p) (upd H p (.tup [.int (i / j), .int (i % j)]))) (g2 divmodG) := OpN.two fun H O x y d c res Q tr rx ry q k => by
  unfold divmodG at q
  split at q
  · split at q
    · rename_i c
      cases q
      exact ⟨_, _, by rw [rx.int, ry.int], c, fun p hp => k _ _ (.tup (Same.refl H) hp (.cons (.int _) (.cons (.int _) .nil)))⟩
    · cases q
  · cases q
/-- list(x), tuple(x), dict(x) -/
def listG (d : D) : Option Rs := match d with
  | .list ds => some (.fr (.list ds))
  | .tuple ds => some (.fr (.list ds))
  | _ => none
theorem o_list : OpN K (fun xs H Q => ∃ p ys, xs = [.ref p] ∧ (SqL K H p ys ∨ SqT K H p ys) ∧ ∀ l, H l = none → Q (.ref l) (upd H l (.lst ys))) (g1 listG) := OpN.one fun H O x d res Q tr rx q k => by
  unfold listG at q
  split at q
  · cases q
    obtain ⟨a, xs, rfl, sq, r⟩ := rx.lst
    exact ⟨a, xs, rfl, .inl sq, fun l hl => k _ _ (.lst (Same.refl H) hl r)⟩
  · cases q
    obtain ⟨a, xs, rfl, sq, r⟩ := rx.tup
    exact ⟨a, xs, rfl, .inr sq.sq, fun l hl => k _ _ (.lst (Same.refl H) hl r)⟩
  · cases q
def tupleG (d : D) : Option Rs := match d with
  | .list ds => some (.fz (.tuple ds))
  | .tuple ds => some (.fz (.tuple ds))
  | _ => none
theorem o_tuple : OpN K (fun xs H Q => ∃ p ys, xs = [.ref p] ∧ ((SqL K H p ys ∧ ∀ l, H l = none → Q (.ref l) (upd H l (.tup ys))) ∨ (SqT K H p ys ∧ Q (.ref p) H))) (g1 tupleG) := OpN.one fun H O x d res Q tr rx q k => by
  unfold tupleG at q
  split at q
  · cases q
    obtain ⟨a, xs, rfl, sq, r⟩ := rx.lst
    exact ⟨a, xs, rfl, .inl ⟨sq, fun l hl => k _ _ (.tup (Same.refl H) hl r)⟩⟩
  · cases q
    obtain ⟨a, xs, rfl, sq, r⟩ := rx.tup
    exact ⟨a, xs, rfl, .inr ⟨sq.sq, k _ _ (.same (.tup sq r))⟩⟩
  · cases q
def dictG (d : D) : Option Rs := match d with
  | .dict kvs => some (.fr (.dict kvs))
  | _ => none
theorem o_dict : OpN K (fun xs H Q => ∃ (a : Addr) (kvs : List (L2.Key × V)), xs = [.ref a] ∧ Rd H a (.dK kvs) ∧ ∀ p, H p = none → Q (.ref p) (upd H p (.dK kvs))) (g1 dictG) := OpN.one fun H O x d res Q tr rx q k => by
  unfold dictG at q
  split at q
  · cases q
    obtain ⟨a, ks, rfl, e, r⟩ := rx.dct
    exact ⟨a, ks, rfl, .inl e, fun p hp => k _ _ (.dct (Same.refl H) hp r)⟩
  · cases q

/-! ### isinstance -/
def tyD : D → String
  | .none => "NoneType"
  | .bool _ => "bool"
  | .int _ => "int"
  | .str _ => "str"
  | .list _ => "list"
  | .tuple _ => "tuple"
  | .dict _ => "dict"
theorem RpR.ty {H : Hp} {O : Addr → Prop} {x : V} {d : D} (h : RpR K H O x d) : TyX K H x (.type (tyD d)) := by
  rcases h with h | ⟨a, rfl, ⟨xs, ds, rfl, e, _⟩ | ⟨ks, kvs, rfl, e, _⟩⟩
  · cases h with
    | non => exact .base .non
    | bl b => exact .base (.bl b)
    | int i => exact .base (.int i)
    | str i => exact .base (.str i)
    | lst q r =>
      rcases q with ⟨q | ⟨o, q⟩, _⟩ | ⟨o, its, n, q, c, _⟩
      · exact .base (.lst q)
      · exact .base (.frz q)
      · exact .kList q c
    | tup q r =>
      rcases q with ⟨q | ⟨o, q⟩, _⟩ | ⟨o, its, n, q, c, _⟩
      · exact .base (.tup q)
      · exact .fTuple q
      · exact .kTuple q c
    | dct q n r => exact .base (.dK q)
  · exact .base (.lst e)
  · exact .base (.dK e)
def isiG (T : String) (d : D) : Option Rs := (kitB (tyD d) T).bind boolR
theorem de_isi {T : String} {x : Str} {f : M Rs} {p p2 pos : Pos} {a : Expr} (ha : PE X a (tE X.K f)) (hT : bootBuiltins x = some (.type T)) (hm : X.mg "isinstance" = none) (hmT : X.mg x = none) (hg : Gl X "isinstance" := by rfl) (hgT : Gl X x := by rfl) (hn : x ≠ "__name__" := by decide) (hdb : (x == ("__debug__" : Str)) = false := by decide)
    (he : starEach [a, .Name x p2] X.env = (false, eval a X.env) :: starEach [.Name x p2] X.env := by rfl) (he2 : starEach [.Name x p2] X.env = (false, eval (.Name x p2) X.env) :: starEach [] X.env := by rfl) (hpl : (backTo pos (starEach [.Name x p2] X.env)).any (·.1) = false := by rfl) :
    PE X (.Call (.Name "isinstance" p) [a, .Name x p2] [] pos) (tE X.K (op1 (isiG T) f)) :=
  PE.weak (pe_callB call_isi hg hm boot_isinstance (pa_cons ha (pa_cons (pe_bltn (v := .ty T) hgT hmT hT rfl hn hdb) pa_nil he2) he) (by decide) (by decide) he hpl) (by
  rintro σ H Q ⟨γ, e, Z, res, e', R, h, k⟩
  obtain ⟨ra, e1, h1, ha⟩ := bnd_eq h
  obtain ⟨d, e2, h2, hb⟩ := bnd_eq ha
  obtain ⟨q1, rfl⟩ := rdM_eq h2
  obtain ⟨q2, rfl⟩ := opt_eq hb
  refine ⟨γ, e, Z, ra, e', R, h1, fun x H1 kp sh P => ?_⟩
  obtain ⟨Z1, h01, hf, R1, A1⟩ := P.one
  obtain ⟨b, hb2, q3⟩ := Option.bind_eq_some_iff.mp q2
  cases q3
  refine ⟨x, .ty T, _, _, b, rfl, .ty T, (A1.rd R1 q1).ty, kit_ty hb2, ?_⟩
  obtain ⟨kp2, P2⟩ := (Gr.same (K := X.K) (O := Hid γ e'.ρ σ Z1) (H := H1) (.bl b)).pst R1
  exact k _ H1 (kp.trans sh kp2) sh (Pst.next (rs0 := []) (xs0 := []) kp h01 hf P2))
end
end DV
end
section
set_option Elab.async false
set_option linter.all false
set_option maxRecDepth 100000
namespace DV
open PySem PySem.Spec PyProof.Rows L2
/-! ### a slot's own object changes -/
/-- the content as an object -/
def Nw (K : PySem.W.Frag) (H : Hp) (O : Addr → Prop) (o : HO) (d : D) : Prop := (∃ xs ds, d = .list ds ∧ o = .lst xs ∧ RpL K H O xs ds) ∨ ∃ ks kvs, d = .dict kvs ∧ o = .dK ks ∧ RpE K H O ks kvs
def isTy (T : String) (d : D) : Bool := tyD d == T
def rcvM (T : String) (i : Nat) : M Unit := fun e => match e.ρ[i]? with
  | some (some (.ow d)) => if isTy T d = true then some ((), e) else none
  | _ => none
def chgM (i : Nat) (g : D → List D → Option (D × D)) (ds : List D) : M Rs := fun e => match e.ρ[i]? with
  | some (some (.ow d)) => (g d ds).map fun p => (.fz p.1, e.st i (some (.ow p.2)))
  | _ => none
def mtM (T : String) (i : Nat) (g : D → List D → Option (D × D)) (fs : M (List D)) : M Rs := bnd (rcvM T i) fun _ => bnd fs (chgM i g)
def MtW (K : PySem.W.Frag) (r : V → List V → Hp → VK → Prop) (g : D → List D → Option (D × D)) : Prop :=
  ∀ (H : Hp) (O : Addr → Prop) (a : Addr) (d : D) (vs : List V) (ds : List D) (c d' : D) (Q : VK), (∀ a, O a → ∃ o, H a = some o) → Ct K H O a d → RpL K H O vs ds → g d ds = some (c, d') →
    (∀ v o, Rp K H O v c → Nw K H O o d' → Q v (upd H a o)) → r (.ref a) vs H Q
section
variable {X : Cx} {K : PySem.W.Frag} {γ : List Addr} {e e1 e2 : En} {σ : L2.St} {H H1 H2 : Hp} {Z Z1 : Addr → Prop}
theorem rcv_eq {T : String} {i : Nat} {u : Unit} (h : rcvM T i e = some (u, e1)) : e1 = e ∧ ∃ d, e.ρ[i]? = some (some (.ow d)) ∧ tyD d = T := by
  unfold rcvM at h
  split at h
  · rename_i d q
    split at h
    · rename_i c
      cases h
      exact ⟨rfl, d, q, by simpa [isTy] using c⟩
    · cases h
  · cases h
theorem chg_eq {i : Nat} {g : D → List D → Option (D × D)} {ds : List D} {r : Rs} (h : chgM i g ds e = some (r, e1)) : ∃ d c d', e.ρ[i]? = some (some (.ow d)) ∧ g d ds = some (c, d') ∧ r = .fz c ∧ e1 = e.st i (some (.ow d')) := by
  unfold chgM at h
  split at h
  · rename_i d q
    obtain ⟨⟨c, d'⟩, hg, e5⟩ := Option.map_eq_some_iff.mp h
    cases e5
    exact ⟨d, c, d', q, hg, rfl, rfl⟩
  · cases h
theorem Ct.typ {O : Addr → Prop} {a : Addr} {d : D} (c : Ct K H O a d) {T : String} (h : tyD d = T) : tyV K T (.ref a) H := by
  subst h
  rcases c with ⟨xs, ds, rfl, q, r⟩ | ⟨ks, kvs, rfl, q, r⟩
  · exact .inl ⟨rfl, xs, .of q⟩
  · exact .inr (.inr (.inl ⟨rfl, .inl ⟨ks, q⟩⟩))
/-- the object at slot i gets the content d' -/
theorem Rep.chg {i : Nat} {d d' : D} {a : Addr} {o : HO} (R : Rep K γ e σ H Z) (hi : e.ρ[i]? = some (some (.ow d))) (ha : σ[i]? = some (some (.ref a))) (hz : ∀ b, Z b → b ≠ a) (n : Nw K H (Hid γ e.ρ σ Z) o d') :
    Rep K γ (e.st i (some (.ow d'))) σ (upd H a o) Z ∧ Stay H (upd H a o) (Hid γ e.ρ σ Z) (Hid γ (e.st i (some (.ow d'))).ρ σ Z) ∧ Kp γ e.ρ σ H (upd H a o) ∧ Sh e (e.st i (some (.ow d'))) := by
  have mt := mut_turn (σ := σ) (s' := .ow d') hi rfl rfl
  have hl := (List.getElem?_eq_some_iff.mp hi).1
  have oa : OwnA e.ρ σ a := ⟨i, d, hi, ha⟩
  have st : Stay H (upd H a o) (Hid γ e.ρ σ Z) (Hid γ (e.st i (some (.ow d'))).ρ σ Z) := fun b x hb nb => ⟨by rw [upd_ne (fun (z : b = a) => nb (.inl (z ▸ oa.mu)))]; exact hb, fun z => nb (z.imp (mt b).mp id)⟩
  refine ⟨⟨by simp [R.len], fun j x hj => ?_, fun j x b hj m h2 => ?_, fun j d2 b hj h2 j' x h3 m h4 => ?_, R.cl, R.nd, fun k b x y h1 h2 => ?_, R.cz, fun b z => ?_⟩, st, ⟨fun b x hb nb _ => ?_, fun b x hb => ?_⟩, ⟨fun j x hj m => ?_, fun j d2 hj => ?_, fun j d2 hj => ?_, by simp⟩⟩
  · rcases set_get hj with ⟨rfl, e5⟩ | ⟨ne, hj⟩
    · cases e5
      refine ⟨_, ha, a, rfl, ?_⟩
      rcases n with ⟨xs, ds, rfl, rfl, r⟩ | ⟨ks, kvs, rfl, rfl, r⟩
      · exact .inl ⟨xs, ds, rfl, upd_same, r.stay st⟩
      · exact .inr ⟨ks, kvs, rfl, upd_same, r.stay st⟩
    · obtain ⟨v, hv, ok⟩ := R.slot j x hj
      refine ⟨v, hv, ok.stay st fun b eb m o' ho => ?_⟩
      subst eb
      rw [upd_ne (fun (z : b = a) => ne (R.own i d a hi ha j x hj m (z ▸ hv)))]
      exact ho
  · rcases set_get hj with ⟨rfl, e5⟩ | ⟨ne, hj⟩
    · exact R.mu _ _ b hi rfl h2
    · exact R.mu j x b hj m h2
  · rcases set_get hj with ⟨q, _⟩ | ⟨ne, g1⟩
    · subst q
      rcases set_get h3 with ⟨q, _⟩ | ⟨ne', g3⟩
      · exact q
      · exact R.own _ d b hi h2 j' x g3 m h4
    · rcases set_get h3 with ⟨q, _⟩ | ⟨ne', g3⟩
      · subst q; exact R.own j d2 b g1 h2 _ _ hi rfl h4
      · exact R.own j d2 b g1 h2 j' x g3 m h4
  · rw [upd_ne (fun (z : b = a) => (R.mu i _ a hi rfl ha).2 (z ▸ List.mem_of_getElem? h1))]
    exact R.cell k b x y h1 h2
  · obtain ⟨x, hx⟩ := R.zt b z
    exact ⟨x, by rw [upd_ne (hz b z)]; exact hx⟩
  · rw [upd_ne (fun (z : b = a) => nb (z ▸ oa))]; exact hb
  · by_cases c : b = a
    · exact ⟨o, by rw [c]; exact upd_same⟩
    · exact ⟨x, by rw [upd_ne c]; exact hb⟩
  · rcases set_get hj with ⟨q, e5⟩ | ⟨ne, hj⟩
    · subst q; cases e5; exact ⟨_, hi, rfl, fun _ => rfl⟩
    · exact ⟨x, hj, m, id⟩
  · show (e.ρ.set i _)[j]? = _
    by_cases q : j = i
    · subst q; rw [hi] at hj; cases hj
    · rw [List.getElem?_set_ne (Ne.symm q)]; exact hj
  · rcases set_get hj with ⟨_, e5⟩ | ⟨_, hj⟩
    · cases e5
    · exact hj
theorem tE_mt {T : String} {i : Nat} {g : D → List D → Option (D × D)} {fs : M (List D)} {r : V → List V → Hp → VK → Prop} (w : MtW K r g) : ∀ σ H Q, tE K (mtM T i g fs) σ H Q → tBM K T r (tVar i) (tF K fs) σ H Q := by
  rintro σ H Q ⟨γ, e, Z, res, e', R, h, k⟩
  obtain ⟨u, e1, h1, ha⟩ := bnd_eq h
  obtain ⟨ds, e2, h2, hb⟩ := bnd_eq ha
  obtain ⟨rfl, d0, hi0, ty⟩ := rcv_eq h1
  obtain ⟨d, c, d', hi, hg, rfl, rfl⟩ := chg_eq hb
  obtain ⟨v, hv, a, rfl, c0⟩ := R.slot i _ hi0
  refine ⟨_, hv, c0.typ ty, γ, e1, Z, ds, e2, R, h2, fun vs H1 kp sh ⟨Z1, h01, hf, R1, rl⟩ => ?_⟩
  obtain ⟨v1, hv1, a1, e5, c1⟩ := R1.slot i _ hi
  rw [hv] at hv1; cases hv1; cases e5
  refine w H1 _ a d vs ds c d' _ (fun b hb => Hid.tr R1 hb) c1 rl hg fun v o rv n => ?_
  have hz : ∀ b, Z1 b → b ≠ a := fun b z q => (R1.mu i _ a hi rfl hv).1 (q ▸ z)
  obtain ⟨R2, st, kp2, sh2⟩ := R1.chg hi hv hz n
  exact k v _ (kp.trans sh kp2) (sh.trans sh2) ⟨Z1, h01, hf, R2, .cons (Rp.stay st c rv) .nil⟩

/-! ### the methods -/
theorem de_mt {T id : String} {i : Nat} {x name : Str} {p apos cpos : Pos} {e : Expr} {es : List Expr} {g : D → List D → Option (D × D)} {fs : M (List D)} {r : V → List V → Hp → VK → Prop} (w : MtW X.K r g) (hm : MtR X id r) (pa : PlainAttrs T) (slot : Slot T name id) (hty : typeOf (.builtin id) = pure (.type "method_descriptor")) (ha : PA X (e :: es) (tF X.K fs))
    (hN : X.N[i]? = some x := by rfl) (hv : Vis X.env.scope x := by first | exact Or.inl rfl | exact Or.inr (Or.inl rfl) | exact Or.inr (Or.inr rfl)) (hd : (x == ("__debug__" : Str)) = false := by decide)
    (hcd : (x == ("__classdict__" : Str)) = false := by decide) (hbase : attributeBase (.Name x p) name X.env (eval (.Name x p) X.env) = eval (.Name x p) X.env := by rfl)
    (hfew : ((backTo cpos (starEach (e :: es) X.env)).all (fun x => !x.1) && (backToKw cpos (keywordEach [] X.env)).all (fun x => x.1.isSome)
      && decide ((e :: es).length + ([] : List Keyword).length + (if ([] : List Keyword).isEmpty then 0 else 1) < 30)) = true := by rfl)
    (hline : (apos.endLine == cpos.line) = true := by rfl) (hs : starEach (e :: es) X.env = (false, eval e X.env) :: starEach es X.env := by rfl) (hplain : (backTo cpos (starEach es X.env)).any (·.1) = false := by rfl) :
    PE X (.Call (.Attribute (.Name x p) name apos) (e :: es) [] cpos) (tE X.K (mtM T i g fs)) :=
  PE.weak (pe_bm pa slot hty hm (pe_var hN hv hd hcd) ha hbase hfew hline hs hplain) (tE_mt w)
def appG (d : D) (ds : List D) : Option (D × D) := match d, ds with
  | .list xs, [y] => if xs.length < 100000 then some (.none, .list (xs ++ [y])) else none
  | _, _ => none
theorem w_app : MtW K rAppend appG := fun H O a d vs ds c d' Q tr ct rl hg k => by
  unfold appG at hg
  split at hg
  · split at hg
    · rename_i hl
      cases hg
      cases rl with
      | cons r1 r2 =>
        cases r2
        rcases ct with ⟨xs, ds, e5, q, r⟩ | ⟨_, _, e5, _⟩
        · cases e5
          exact ⟨a, xs, _, rfl, rfl, q, by rw [r.length, sizeLine_eq]; omega, k _ _ .non (.inl ⟨_, _, rfl, rfl, r.append (.cons r1 .nil)⟩)⟩
        · cases e5
    · cases hg
  · cases hg
def popG (d : D) (ds : List D) : Option (D × D) := match d, ds with
  | .list xs, [.int i] => if xs.length ≤ 100000 then (ixN xs.length i).bind fun k => (xs[k]?).map fun y => (y, .list (xs.eraseIdx k)) else none
  | _, _ => none
theorem w_pop : MtW K rPopAt popG := fun H O a d vs ds c d' Q tr ct rl hg k => by
  unfold popG at hg
  split at hg
  · split at hg
    · rename_i hl
      obtain ⟨j, hj, h2⟩ := Option.bind_eq_some_iff.mp hg
      obtain ⟨y, hy, e6⟩ := Option.map_eq_some_iff.mp h2
      cases e6
      cases rl with
      | cons r1 r2 =>
        cases r2
        cases r1
        rcases ct with ⟨xs, ds, e5, q, r⟩ | ⟨_, _, e5, _⟩
        · cases e5
          obtain ⟨s1, s2, s3, s4⟩ := ixN_seq hj
          obtain ⟨w, hw, rw'⟩ := r.get hy
          exact ⟨a, xs, _, j, w, rfl, rfl, q, by omega, by omega, by rw [r.length]; exact s1, hw, k _ _ rw' (.inl ⟨_, _, rfl, rfl, r.eraseIdx j⟩)⟩
        · cases e5
    · cases hg
  · cases hg
/-- l.remove(x) -/
def rRemD (K : PySem.W.Frag) : V → List V → Hp → VK → Prop := fun x vs H Q => ∃ (l : Addr) (xs : List V) (y : V) (ds : List D) (d : D) (j : Nat), x = .ref l ∧ vs = [y] ∧ H l = some (.lst xs) ∧ Dp K H (.ref l) (.list ds) ∧ DpAll K H xs ds ∧ Dp K H y d ∧ SeqAt.shaped (.list ds) = true ∧ SeqAt.shaped d = true ∧
  ds.findIdx? (fun z => PyData.eqv z d) = some j ∧ Q .non (upd H l (.lst (xs.eraseIdx j)))
theorem mt_remD (hu : X.A.units + 65 < cLine) : MtR X "list.remove" (rRemD X.K) := by
  intro pins s σ H x xs v us Q I rx rxs h
  obtain ⟨l, zs, y, ds, d, j, rfl, rfl, hH, hl, hz, hy, sl, sd, hj, q⟩ := h
  cases rx
  obtain ⟨u, rfl, ru⟩ := rxs.one
  obtain ⟨z, its, n, r, hlen, e⟩ := I.lstM hH
  obtain ⟨bs, rb⟩ := Dp.reads I d y u hy ru
  obtain ⟨as, ra⟩ := Dp.readsAll I ds _ its hz r
  have hxs : PyData.canLayAll0 ds = true := SeqAt.canLay_of_shaped sl
  have hn : its.length = ds.length := SeqAt.ReadsAll.length ds its as ra
  have hmap : its.map (SeqAt.readOf s.heap) = ds := SeqAt.readsAll_map ds its as hxs ra
  have hroom : X.A.units + 1 + min (PyData.depthAll ds) d.depth < cLine := room_in_shaped sd hu
  obtain ⟨f1, f2, f3⟩ := List.findIdx?_eq_some_iff_getElem.mp hj
  have at_ : ∀ (m : Nat) (hm : m < its.toArray.size) (hd : m < ds.length), SeqAt.readOf s.heap its.toArray[m] = ds[m] := by
    intro m hm hd
    have hml : m < its.length := by simpa using hm
    have e2 : (its.map (SeqAt.readOf s.heap))[m]? = ds[m]? := by rw [hmap]
    rw [List.getElem?_map, List.getElem?_eq_getElem hml, List.getElem?_eq_getElem hd] at e2
    simpa using e2
  have hj2 : j < its.toArray.size := by rw [List.size_toArray]; omega
  refine call_meets PySem.F.slot_list_remove ⟨_, e, rfl⟩ PySem.F.entry_list_remove (PySem.F.args_list_remove_2 _ _)
    (SeqAt.list_removeAt l its.toArray n none #[] u (fun w => PyData.eqv (SeqAt.readOf s.heap w) d) j hj2 ?_ (fun m hm hmj => ?_) (by rw [List.size_toArray]; omega))
    ⟨e, SeqAt.items_eqAt (vs := its.toArray) (show ReadsAll s.heap its.toArray.toList ds as from ra) rb hxs (SeqAt.canLay_of_shaped sd) hroom, ?_⟩
  · show PyData.eqv (SeqAt.readOf s.heap its.toArray[j]) d = true
    rw [at_ j hj2 f1]
    exact f2
  · show PyData.eqv (SeqAt.readOf s.heap its.toArray[m]) d = false
    rw [at_ m hm (by omega)]
    simpa using f3 m hmj
  · refine ⟨.non, _, I.lset (its' := its.eraseIdx j) hH e ?_ (r.eraseIdx j) ?_, rfl, q⟩
    · show its.toArray.eraseIdxIfInBounds j = (its.eraseIdx j).toArray
      rw [List.eraseIdxIfInBounds_toArray]
    · have := len_erase zs j
      omega
def remG (d : D) (ds : List D) : Option (D × D) := match d, ds with
  | .list xs, [y] => if SeqAt.shaped (.list xs) = true ∧ SeqAt.shaped y = true then (xs.findIdx? fun z => PyData.eqv z y).map fun j => (.none, .list (xs.eraseIdx j)) else none
  | _, _ => none
theorem w_rem : MtW K (rRemD K) remG := fun H O a d vs ds c d' Q tr ct rl hg k => by
  unfold remG at hg
  split at hg
  · split at hg
    · rename_i hs
      obtain ⟨j, hj, e6⟩ := Option.map_eq_some_iff.mp hg
      cases e6
      cases rl with
      | cons r1 r2 =>
        cases r2
        rcases ct with ⟨xs, ds, e5, q, r⟩ | ⟨_, _, e5, _⟩
        · cases e5
          have hd := r.dp _ (SeqAt.canLay_of_shaped hs.1)
          exact ⟨a, xs, _, _, _, j, rfl, rfl, q, .lst (.of q) hd, hd, r1.dp _ (SeqAt.canLay_of_shaped hs.2), hs.1, hs.2, hj, k _ _ .non (.inl ⟨_, _, rfl, rfl, r.eraseIdx j⟩)⟩
        · cases e5
    · cases hg
  · cases hg
/-- l.extend(a list just made) -/
def extM (i : Nat) (f : M Rs) : M Rs := bnd (rcvM "list" i) fun _ => bnd f fun r => fun e => match r, e.ρ[i]? with
  | .fr (.list ys), some (some (.ow (.list xs))) => if xs.length + ys.length ≤ 100000 then some (.fz .none, e.st i (some (.ow (.list (xs ++ ys))))) else none
  | _, _ => none
theorem tE_ext {i : Nat} {f : M Rs} : ∀ σ H Q, tE K (extM i f) σ H Q → tBM K "list" rExtend (tVar i) (tCons (tE K f) tNil) σ H Q := by
  rintro σ H Q ⟨γ, e, Z, res, e', R, h, k⟩
  obtain ⟨u, e1, h1, ha⟩ := bnd_eq h
  obtain ⟨r, e2, h2, hb⟩ := bnd_eq ha
  obtain ⟨rfl, d0, hi0, ty⟩ := rcv_eq h1
  obtain ⟨v, hv, a, rfl, c0⟩ := R.slot i _ hi0
  split at hb
  · rename_i ys xs hi
    split at hb
    · rename_i hl
      cases hb
      refine ⟨_, hv, c0.typ ty, γ, e1, Z, _, e2, R, h2, fun w H1 kp sh P => ?_⟩
      obtain ⟨Z1, h01, hf, R1, A1⟩ := P.one
      obtain ⟨b, rfl, hb1, hb2, cb⟩ := A1
      obtain ⟨v1, hv1, a1, e5, c1⟩ := R1.slot i _ hi
      rw [hv] at hv1; cases hv1; cases e5
      rcases c1 with ⟨xv, xd, e5, q, rx⟩ | ⟨_, _, e5, _⟩
      · cases e5
        rcases cb with ⟨yv, yd, e5, q2, ry⟩ | ⟨_, _, e5, _⟩
        · cases e5
          refine ⟨a, b, xv, yv, rfl, rfl, q, q2, by rw [rx.length, ry.length, sizeLine_eq]; omega, ?_⟩
          have hz : ∀ c, Z1 c → c ≠ a := fun c z q => (R1.mu i _ a hi rfl hv).1 (q ▸ z)
          obtain ⟨R2, st, kp2, sh2⟩ := R1.chg hi hv hz (.inl ⟨_, _, rfl, rfl, rx.append ry⟩)
          exact k _ _ (kp.trans sh kp2) (sh.trans sh2) ⟨Z1, h01, hf, R2, .cons .non .nil⟩
        · cases e5
      · cases e5
    · cases hb
  · cases hb
theorem de_ext {i : Nat} {x : Str} {p apos cpos : Pos} {e : Expr} {f : M Rs} (ha : PE X e (tE X.K f))
    (hN : X.N[i]? = some x := by rfl) (hv : Vis X.env.scope x := by first | exact Or.inl rfl | exact Or.inr (Or.inl rfl) | exact Or.inr (Or.inr rfl)) (hd : (x == ("__debug__" : Str)) = false := by decide)
    (hcd : (x == ("__classdict__" : Str)) = false := by decide) (hbase : attributeBase (.Name x p) "extend" X.env (eval (.Name x p) X.env) = eval (.Name x p) X.env := by rfl)
    (hfew : ((backTo cpos (starEach [e] X.env)).all (fun x => !x.1) && (backToKw cpos (keywordEach [] X.env)).all (fun x => x.1.isSome)
      && decide ([e].length + ([] : List Keyword).length + (if ([] : List Keyword).isEmpty then 0 else 1) < 30)) = true := by rfl)
    (hline : (apos.endLine == cpos.line) = true := by rfl) (hs : starEach [e] X.env = (false, eval e X.env) :: starEach [] X.env := by rfl) (hplain : (backTo cpos (starEach [] X.env)).any (·.1) = false := by rfl) :
    PE X (.Call (.Attribute (.Name x p) "extend" apos) [e] [] cpos) (tE X.K (extM i f)) :=
  PE.weak (pe_bm PySem.F.plainAttrs_list PySem.F.slot_list_extend PySem.F.type_list_extend mt_extend (pe_var hN hv hd hcd) (pa_cons ha pa_nil hs) hbase hfew hline hs hplain) tE_ext
end
end DV
end
section
set_option Elab.async false
set_option linter.all false
set_option maxRecDepth 100000
namespace DV
open PySem PySem.Spec PyProof.Rows L2
section
variable {X : Cx} {K : PySem.W.Frag} {γ : List Addr} {e e1 e2 : En} {σ : L2.St} {H H1 H2 : Hp} {Z Z0 Z1 : Addr → Prop}

/-! ### d.setdefault(k, v) -/
def sdG (d : D) (ds : List D) : Option (D × D) := match d, ds with
  | .dict kvs, [kd, v] => match dKey kd with
    | some k => if kvs.length < 100000 then match getK k kvs with
      | some x => some (x, .dict kvs)
      | none => some (v, .dict (putD k v kvs))
      else none
    | none => none
  | _, _ => none
theorem sdG_eq {d : D} {ds : List D} {c d' : D} (h : sdG d ds = some (c, d')) : ∃ kvs kd v k, d = .dict kvs ∧ ds = [kd, v] ∧ dKey kd = some k ∧ kvs.length < 100000 ∧ ((getK k kvs = some c ∧ d' = d) ∨ (getK k kvs = none ∧ c = v ∧ d' = .dict (putD k v kvs))) := by
  unfold sdG at h
  split at h
  · rename_i kvs kd v
    split at h
    · rename_i k hk
      split at h
      · rename_i hl
        split at h
        · rename_i x hx
          cases h
          exact ⟨kvs, kd, v, k, rfl, rfl, hk, hl, .inl ⟨hx, rfl⟩⟩
        · rename_i hx
          cases h
          exact ⟨kvs, kd, _, k, rfl, rfl, hk, hl, .inr ⟨hx, rfl, rfl⟩⟩
      · cases h
    · cases h
  · cases h
theorem st_self {i : Nat} {s : Option Sl} (h : e.ρ[i]? = some s) : e.st i s = e := by
  have : e.ρ.set i s = e.ρ := by
    refine List.ext_getElem? fun j => ?_
    by_cases q : j = i
    · subst q; rw [List.getElem?_set_self (List.getElem?_eq_some_iff.mp h).1, h]
    · rw [List.getElem?_set_ne (Ne.symm q)]
  cases e
  simp only [En.st] at this ⊢
  rw [this]
theorem tE_sd {i : Nat} {fk fv : M Rs} : ∀ σ H Q, tE K (mtM "dict" i sdG (consF fk (consF fv (ret [])))) σ H Q → tDSetd (tVar i) (tE K fk) (tE K fv) σ H Q := by
  rintro σ H Q ⟨γ, e, Z, res, e', R, h, k⟩
  obtain ⟨u, e1, h1, ha⟩ := bnd_eq h
  obtain ⟨ds, e2, h2, hb⟩ := bnd_eq ha
  obtain ⟨rfl, d0, hi0, ty⟩ := rcv_eq h1
  obtain ⟨d, c, d', hi, hg, rfl, rfl⟩ := chg_eq hb
  obtain ⟨v, hv, a, rfl, c0⟩ := R.slot i _ hi0
  have isd : IsD H a := by
    rcases c0 with ⟨xs, ds, rfl, q, r⟩ | ⟨ks, kvs, rfl, q, r⟩
    · exact absurd ty (show ¬ ("list" = "dict") by decide)
    · exact .inl ⟨ks, .inl q⟩
  refine ⟨_, hv, a, rfl, isd, ?_⟩
  have main : ∀ vs H1, Kp γ e1.ρ σ H H1 → Sh e1 e2 → (∃ Z' : Addr → Prop, (∀ a, Z a → Z' a) ∧ (∀ a, Z' a → Z a ∨ H a = none) ∧ Rep K γ e2 σ H1 Z' ∧ RpL K H1 (Hid γ e2.ρ σ Z') vs ds) →
      ∃ y z, vs = [y, z] ∧ ∃ (kvs : List (L2.Key × V)) (k : L2.Key), H1 a = some (.dK kvs) ∧ y = kV k ∧ kvs.length < sizeLine ∧ (∀ v, valV kvs k = some v → Q v H1) ∧ (valV kvs k = none → Q z (upd H1 a (.dK (putK kvs k z)))) := by
    rintro vs H1 kp sh ⟨Z1, h01, hf, R1, rl⟩
    obtain ⟨kvs, kd, dv, key, rfl, rfl, hk, hl, hcase⟩ := sdG_eq hg
    cases rl with
    | cons r1 r2 =>
      rename_i y ys
      cases r2 with
      | cons r2 r3 =>
        rename_i z zs
        cases r3
        obtain ⟨v1, hv1, a1, e5, c1⟩ := R1.slot i _ hi
        rw [hv] at hv1; cases hv1; cases e5
        rcases c1 with ⟨_, _, e5, _⟩ | ⟨ks, kvs2, e5, q, r⟩
        · cases e5
        · cases e5
          refine ⟨_, _, rfl, ks, key, q, (RpR.of_item r1).key hk, by rw [r.length, sizeLine_eq]; omega, fun w hw => ?_, fun hw => ?_⟩
          · rcases r.get key with ⟨g1, g2⟩ | ⟨w', dw, g1, g2, rw'⟩
            · rw [g1] at hw; cases hw
            · rw [g1] at hw; cases hw
              rcases hcase with ⟨g3, rfl⟩ | ⟨g3, _⟩
              · rw [g2] at g3; cases g3
                rw [st_self hi] at k
                exact k _ H1 kp sh ⟨Z1, h01, hf, R1, .cons rw' .nil⟩
              · rw [g2] at g3; cases g3
          · rcases r.get key with ⟨g1, g2⟩ | ⟨w', dw, g1, g2, rw'⟩
            · rcases hcase with ⟨g3, _⟩ | ⟨_, rfl, rfl⟩
              · rw [g2] at g3; cases g3
              · have hz : ∀ b, Z1 b → b ≠ a := fun b z q => (R1.mu i _ a hi rfl hv).1 (q ▸ z)
                obtain ⟨R2, st, kp2, sh2⟩ := R1.chg hi hv hz (.inr ⟨_, _, rfl, rfl, r.put r2⟩)
                exact k _ _ (kp.trans sh kp2) (sh.trans sh2) ⟨Z1, h01, hf, R2, .cons (Rp.stay st _ r2) .nil⟩
            · rw [g1] at hw; cases hw
  have t := tF_cons (K := K) (fa := fk) (fs := consF fv (ret [])) σ H (fun vs H1 => ∃ y z, vs = [y, z] ∧ ∃ (kvs : List (L2.Key × V)) (k : L2.Key), H1 a = some (.dK kvs) ∧ y = kV k ∧ kvs.length < sizeLine ∧ (∀ v, valV kvs k = some v → Q v H1) ∧ (valV kvs k = none → Q z (upd H1 a (.dK (putK kvs k z))))) ⟨γ, e1, Z, ds, e2, R, h2, main⟩
  obtain ⟨γ3, e3, Z3, r3, e4, R3, h3, k3⟩ := t
  refine ⟨γ3, e3, Z3, r3, e4, R3, h3, fun x H3 kp3 sh3 P3 => ?_⟩
  have t4 := tF_cons (K := K) (fa := fv) (fs := ret []) σ H3 _ (k3 x H3 kp3 sh3 P3)
  obtain ⟨γ5, e5, Z5, r5, e6, R5, h5, k5⟩ := t4
  refine ⟨γ5, e5, Z5, r5, e6, R5, h5, fun y H5 kp5 sh5 P5 => ?_⟩
  have t6 := tF_nil (K := K) σ H5 _ (k5 y H5 kp5 sh5 P5)
  obtain ⟨y1, z1, e7, rest⟩ := t6
  cases e7
  exact rest
theorem de_sd {i : Nat} {x : Str} {p apos cpos : Pos} {e f : Expr} {fk fv : M Rs} (ha : PE X e (tE X.K fk)) (hb : PE X f (tE X.K fv)) (m : M2 X (.Name x p) "setdefault" apos e f cpos := by exact ⟨rfl, rfl, rfl, rfl⟩)
    (hN : X.N[i]? = some x := by rfl) (hv : Vis X.env.scope x := by first | exact Or.inl rfl | exact Or.inr (Or.inl rfl) | exact Or.inr (Or.inr rfl)) (hd : (x == ("__debug__" : Str)) = false := by decide) (hcd : (x == ("__classdict__" : Str)) = false := by decide) :
    PE X (.Call (.Attribute (.Name x p) "setdefault" apos) [e, f] [] cpos) (tE X.K (mtM "dict" i sdG (consF fk (consF fv (ret []))))) := PE.weak (pe_dsetd (pe_var hN hv hd hcd) ha hb m) tE_sd

/-! ### d[k] = v -/
def putM (i : Nat) (fk fv : M Rs) : M Fl := bnd fv fun r => bnd (als r) fun v => bnd (rcvM "dict" i) fun _ => bnd fk fun rk => bnd (rdM rk) fun kd => fun e => match e.ρ[i]?, dKey kd with
  | some (some (.ow (.dict kvs))), some k => if kvs.length < 100000 then some (.nx, e.st i (some (.ow (.dict (putD k v kvs))))) else none
  | _, _ => none
theorem tS_put {i : Nat} {fk fv : M Rs} : ∀ D σ H, tS K (putM i fk fv) D σ H → sDPut (tVar i) (tE K fk) (tE K fv) D σ H := by
  rintro D σ H ⟨γ, e, Z, fl, e', R, h, k⟩
  obtain ⟨r, e1, h1, ha⟩ := bnd_eq h
  obtain ⟨dv, e2, h2, hb⟩ := bnd_eq ha
  obtain ⟨u, e3, h3, hc⟩ := bnd_eq hb
  obtain ⟨rk, e4, h4, hd⟩ := bnd_eq hc
  obtain ⟨kd, e5, h5, he⟩ := bnd_eq hd
  obtain ⟨q5, rfl⟩ := rdM_eq h5
  obtain ⟨rfl, d0, hi0, ty⟩ := rcv_eq h3
  split at he
  · rename_i kvs key hi hk
    split at he
    · rename_i hl
      cases he
      refine ⟨γ, e, Z, r, e1, R, h1, fun v H1 kp sh P => ?_⟩
      obtain ⟨Z1, h01, hf, R1, A1⟩ := P.one
      obtain ⟨Z2, h02, h21, R2, rp, sh2⟩ := als_ok h2 h01 R1 A1
      obtain ⟨w, hw, a, rfl, c0⟩ := R2.slot i _ hi0
      refine ⟨_, hw, γ, e3, Z2, rk, e5, R2, h4, fun y H3 kp3 sh3 P3 => ?_⟩
      obtain ⟨Z3, h23, hf3, R3, A3⟩ := P3.one
      obtain ⟨w1, hw1, a1, e6, c1⟩ := R3.slot i _ hi
      rw [hw] at hw1; cases hw1; cases e6
      rcases c1 with ⟨_, _, e6, _⟩ | ⟨ks, kvs2, e6, q, rr⟩
      · cases e6
      · cases e6
        have ky := (A3.rd R3 q5).key hk
        have rp3 := Rp.stay (stay_of kp3 sh3 hf3) dv rp
        have hz : ∀ b, Z3 b → b ≠ a := fun b z q => (R3.mu i _ a hi rfl hw).1 (q ▸ z)
        obtain ⟨R4, st, kp4, sh4⟩ := R3.chg hi hw hz (.inr ⟨_, _, rfl, rfl, rr.put rp3⟩)
        subst ky
        refine ⟨a, _, rfl, DPut.k q (by rw [rr.length, sizeLine_eq]; omega), ?_⟩
        have kpA := kp.trans (sh.trans sh2) kp3
        have shA := (sh.trans sh2).trans sh3
        exact k γ σ _ (Stp.ev (kpA.trans shA kp4) (shA.trans sh4)) (R4.down fun b z => h23 b (h02 b z))
    · cases he
  · cases he
theorem ds_put {i : Nat} {x : Str} {p pos' pos : Pos} {ke value : Expr} {fk fv : M Rs} (hu : X.A.units + 65 < cLine) (hk : PE X ke (tE X.K fk)) (hval : PE X value (tE X.K fv)) (hs : swapsWith value (some (.Subscript (.Name x p) ke pos')) pos.line X.env = pure false := by rfl)
    (hN : X.N[i]? = some x := by rfl) (hv : Vis X.env.scope x := by first | exact Or.inl rfl | exact Or.inr (Or.inl rfl) | exact Or.inr (Or.inr rfl)) (hd : (x == ("__debug__" : Str)) = false := by decide) (hcd : (x == ("__classdict__" : Str)) = false := by decide) :
    PS X (.Assign [.Subscript (.Name x p) ke pos'] value pos) (tS X.K (putM i fk fv)) := PS.weak (ps_dput (by omega) (pe_var hN hv hd hcd) hk hval hs) tS_put

/-! ### a, b = x, y -/
def asgF (i : Nat) (r : Rs) : M Unit := fun e => match e.ρ[i]? with
  | none => none
  | some (some (.bo _)) => none
  | _ => match r with
    | .fz d => some ((), e.st i (some (.fz d)))
    | .fr d => some ((), e.st i (some (.ow d)))
    | .sl _ => none
theorem asgF_eq {i : Nat} {r : Rs} {u : Unit} (h : asgF i r e = some (u, e2)) : i < e.ρ.length ∧ (∀ d, e.ρ[i]? ≠ some (some (.bo d))) ∧ ((∃ d, r = .fz d ∧ e2 = e.st i (some (.fz d))) ∨ ∃ d, r = .fr d ∧ e2 = e.st i (some (.ow d))) := by
  unfold asgF at h
  split at h
  · cases h
  · cases h
  · rename_i n1 n2
    refine ⟨?_, fun d q => n2 _ q, ?_⟩
    · rcases Nat.lt_or_ge i e.ρ.length with c | c
      · exact c
      · exact absurd (List.getElem?_eq_none c) n1
    · split at h
      · cases h; exact .inl ⟨_, rfl, rfl⟩
      · cases h; exact .inr ⟨_, rfl, rfl⟩
      · cases h
/-- a step that only stores a name -/
structure Nst (Z0 Z1 : Addr → Prop) (e : En) (σ : L2.St) (e2 : En) (σ2 : L2.St) : Prop where
  mu : ∀ a, MutA e2.ρ σ2 a → MutA e.ρ σ a ∨ (Z1 a ∧ ¬ Z0 a)
  ow : ∀ a, OwnA e2.ρ σ2 a → OwnA e.ρ σ a ∨ (Z1 a ∧ ¬ Z0 a)
  bo : ∀ (i : Nat) (d : D), e.ρ[i]? = some (some (Sl.bo d)) → e2.ρ[i]? = some (some (Sl.bo d)) ∧ σ2[i]? = σ[i]?
  bb : ∀ (i : Nat) (d : D), e2.ρ[i]? = some (some (Sl.bo d)) → e.ρ[i]? = some (some (Sl.bo d))
  ln : e2.ρ.length = e.ρ.length
  m : e2.μ = e.μ
theorem asgF_ok {i : Nat} {r : Rs} {v : V} {u : Unit} (h : asgF i r e = some (u, e2)) (h01 : ∀ a, Z0 a → Z1 a) (R : Rep K γ e σ H Z1) (ok : RsOk K γ H e σ Z0 Z1 r v) :
    ∃ Z2 : Addr → Prop, (∀ a, Z0 a → Z2 a) ∧ (∀ a, Z2 a → Z1 a) ∧ (∀ a, Z1 a → (∀ d, r = .fr d → v ≠ .ref a) → Z2 a) ∧ Rep K γ e2 (σ.set i (some v)) H Z2 ∧ Nst Z0 Z1 e σ e2 (σ.set i (some v)) ∧ ∀ a, Hid γ e2.ρ (σ.set i (some v)) Z2 a → Hid γ e.ρ σ Z1 a := by
  obtain ⟨hi, nb, hc⟩ := asgF_eq h
  have hσ : i < σ.length := by rw [R.len]; exact hi
  have bo' : ∀ (s : Sl), ∀ (j : Nat) (d : D), e.ρ[j]? = some (some (Sl.bo d)) → (e.st i (some s)).ρ[j]? = some (some (Sl.bo d)) ∧ (σ.set i (some v))[j]? = σ[j]? := fun s j d hj => by
    have ne : j ≠ i := fun q => nb d (q ▸ hj)
    exact ⟨by show (e.ρ.set i _)[j]? = _; rw [List.getElem?_set_ne (Ne.symm ne)]; exact hj, by rw [List.getElem?_set_ne (Ne.symm ne)]⟩
  have bb' : ∀ (s : Sl), (∀ d, s ≠ .bo d) → ∀ (j : Nat) (d : D), (e.st i (some s)).ρ[j]? = some (some (Sl.bo d)) → e.ρ[j]? = some (some (Sl.bo d)) := fun s hs j d hj => by
    rcases set_get hj with ⟨_, e5⟩ | ⟨_, g⟩
    · exact absurd (Option.some.inj e5) (hs d)
    · exact g
  rcases hc with ⟨d, rfl, rfl⟩ | ⟨d, rfl, rfl⟩
  · have mm : ∀ a, MutA (e.st i (some (.fz d))).ρ (σ.set i (some v)) a → MutA e.ρ σ a := fun a ⟨j, x, h1, m, h2⟩ => by
      rcases set_get h1 with ⟨_, e5⟩ | ⟨ne, h1⟩
      · cases e5; cases m
      · rw [List.getElem?_set_ne (Ne.symm ne)] at h2; exact ⟨j, x, h1, m, h2⟩
    have oo : ∀ a, OwnA (e.st i (some (.fz d))).ρ (σ.set i (some v)) a → OwnA e.ρ σ a := fun a ⟨j, x, h1, h2⟩ => by
      rcases set_get h1 with ⟨_, e5⟩ | ⟨ne, h1⟩
      · cases e5
      · rw [List.getElem?_set_ne (Ne.symm ne)] at h2; exact ⟨j, x, h1, h2⟩
    exact ⟨Z1, h01, fun _ z => z, fun _ z _ => z, R.put hi rfl ok, ⟨fun a z => .inl (mm a z), fun a z => .inl (oo a z), bo' _, bb' _ (by rintro d ⟨⟩), by simp, rfl⟩, fun a z => z.imp (mm a) id⟩
  · obtain ⟨p, rfl, hp, np, c⟩ := ok
    have mm : ∀ a, MutA (e.st i (some (.ow d))).ρ (σ.set i (some (.ref p))) a → MutA e.ρ σ a ∨ a = p := fun a ⟨j, x, h1, m, h2⟩ => by
      rcases set_get h1 with ⟨q, e5⟩ | ⟨ne, h1⟩
      · subst q; rw [List.getElem?_set_self hσ] at h2; cases h2; exact .inr rfl
      · rw [List.getElem?_set_ne (Ne.symm ne)] at h2; exact .inl ⟨j, x, h1, m, h2⟩
    have oo : ∀ a, OwnA (e.st i (some (.ow d))).ρ (σ.set i (some (.ref p))) a → OwnA e.ρ σ a ∨ a = p := fun a ⟨j, x, h1, h2⟩ => by
      rcases set_get h1 with ⟨q, e5⟩ | ⟨ne, h1⟩
      · subst q; rw [List.getElem?_set_self hσ] at h2; cases h2; exact .inr rfl
      · rw [List.getElem?_set_ne (Ne.symm ne)] at h2; exact .inl ⟨j, x, h1, h2⟩
    refine ⟨fun a => Z1 a ∧ a ≠ p, fun a z => ⟨h01 a z, fun q => np (q ▸ z)⟩, fun _ z => z.1, fun a z n => ⟨z, fun q => n d rfl (by rw [q])⟩, R.putOw hi hp c, ⟨fun a z => (mm a z).imp id fun q => by subst q; exact ⟨hp, np⟩, fun a z => (oo a z).imp id fun q => by subst q; exact ⟨hp, np⟩, bo' _, bb' _ (by rintro d ⟨⟩), by simp, rfl⟩, fun a z => ?_⟩
    rcases z with z | z | z
    · rcases mm a z with z | z
      · exact .inl z
      · exact .inr (.inr (z ▸ hp))
    · exact .inr (.inl z)
    · exact .inr (.inr z.1)
theorem Nst.stp {σ2 : L2.St} (kp : Kp γ e.ρ σ H H1) (sh : Sh e e1) (n : Nst Z0 Z1 e1 σ e2 σ2) (hz : ∀ a, Z1 a → Z0 a ∨ H a = none) : Stp γ e σ H γ e2 σ2 H1 where
  pre := ⟨[], by simp⟩
  nw := fun _ h => .inl h
  st := kp.st
  th := kp.th
  mu := fun a h => by
    rcases n.mu a h with z | ⟨z, nz⟩
    · exact .inl (sh.mu z)
    · exact .inr ((hz a z).resolve_left nz)
  ow := fun a h => by
    rcases n.ow a h with z | ⟨z, nz⟩
    · exact .inl (sh.own z)
    · exact .inr ((hz a z).resolve_left nz)
  bo := fun i d h => n.bo i d (sh.bo i d h)
  bb := fun i d h => sh.bb i d (n.bb i d h)
  ln := n.ln.trans sh.ln
theorem Nst.trans {σ2 σ3 : L2.St} {Z2 : Addr → Prop} (a : Nst Z0 Z1 e σ e1 σ2) (b : Nst Z0 Z2 e1 σ2 e2 σ3) (h : ∀ x, Z2 x → Z1 x) : Nst Z0 Z1 e σ e2 σ3 where
  mu := fun x z => by
    rcases b.mu x z with z | ⟨z, n⟩
    · exact a.mu x z
    · exact .inr ⟨h x z, n⟩
  ow := fun x z => by
    rcases b.ow x z with z | ⟨z, n⟩
    · exact a.ow x z
    · exact .inr ⟨h x z, n⟩
  bo := fun i d z => by
    obtain ⟨h1, h2⟩ := a.bo i d z
    obtain ⟨h3, h4⟩ := b.bo i d h1
    exact ⟨h3, h4.trans h2⟩
  bb := fun i d z => a.bb i d (b.bb i d z)
  ln := b.ln.trans a.ln
  m := b.m.trans a.m
def noSl : Rs → M Unit := fun r e => match r with
  | .sl _ => none
  | _ => some ((), e)
theorem noSl_eq {r : Rs} {u : Unit} (h : noSl r e = some (u, e1)) : e1 = e ∧ ∀ i, r ≠ .sl i := by
  cases r with
  | sl i => cases h
  | fz d => cases h; exact ⟨rfl, fun i => by rintro ⟨⟩⟩
  | fr d => cases h; exact ⟨rfl, fun i => by rintro ⟨⟩⟩
def parM (i j : Nat) (fa fb : M Rs) : M Fl := bnd fa fun a => bnd (noSl a) fun _ => bnd fb fun b => bnd (asgF i a) fun _ => bnd (asgF j b) fun _ => ret .nx
theorem tS_par {i j : Nat} {fa fb : M Rs} : ∀ D σ H, tS K (parM i j fa fb) D σ H → tPar i j (tCons (tE K fa) (tCons (tE K fb) tNil)) D σ H := by
  rintro D σ H ⟨γ, e, Z, fl, e', R, h, k⟩
  obtain ⟨a, e1, h1, hq1⟩ := bnd_eq h
  obtain ⟨u0, e2, h2, hq2⟩ := bnd_eq hq1
  obtain ⟨b, e3, h3, hq3⟩ := bnd_eq hq2
  obtain ⟨u1, e4, h4, hq4⟩ := bnd_eq hq3
  obtain ⟨u2, e5, h5, hq5⟩ := bnd_eq hq4
  cases hq5
  obtain ⟨rfl, na⟩ := noSl_eq h2
  refine ⟨γ, e, Z, a, e2, R, h1, fun v H1 kp sh P => ?_⟩
  obtain ⟨Z1, h01, hf, R1, A1⟩ := P.one
  refine ⟨γ, e2, Z1, b, e3, R1, h3, fun w H2 kp2 sh2 P2 => ⟨v, w, rfl, ?_⟩⟩
  obtain ⟨Z2, h12, hf2, R2, A2⟩ := P2.one
  have A1' := A1.keep R1 R2 kp2 sh2 h12 hf2
  obtain ⟨Z3, g1, g2, g3, R3, n3, hs3⟩ := asgF_ok h4 (fun x z => h12 x (h01 x z)) R2 A1'
  have nb : ∀ i, b ≠ .sl i := fun l q => by
    subst q
    obtain ⟨_, _, c⟩ := asgF_eq h5
    rcases c with ⟨d, q, _⟩ | ⟨d, q, _⟩ <;> cases q
  have hZ1v : ∀ p, v = .ref p → (∃ d, a = .fr d) → Z1 p := fun p ev ⟨d, ea⟩ => by
    subst ea
    obtain ⟨p', ev', hp, _⟩ := A1
    rw [ev] at ev'; cases ev'; exact hp
  have hb3 : RsOk K γ H2 e4 (σ.set i (some v)) Z Z3 b w := by
    cases b with
    | sl l => exact absurd rfl (nb l)
    | fz d => exact Rp.stay (stay_refl fun x o _ z => hs3 x z) d A2
    | fr d =>
      obtain ⟨p, rfl, hp, np, c⟩ := A2
      refine ⟨p, rfl, ?_, fun z => np (h01 p z), c.stay (stay_refl fun x o _ z => hs3 x z) fun o ho => ho⟩
      refine g3 p hp fun da ea ev => ?_
      exact np (hZ1v p ev ⟨da, ea⟩)
  obtain ⟨Z4, f1, f2, f3, R4, n4, hs4⟩ := asgF_ok h5 g1 R3 hb3
  have hall : ∀ x, Z2 x → Z x ∨ H x = none := fun x z => by
    rcases hf2 x z with z | z
    · exact hf x z
    · exact .inr (kp.none z)
  exact k γ _ H2 (Nst.stp (kp.trans sh kp2) (sh.trans sh2) (Nst.trans (e1 := e4) (σ2 := σ.set i (some v)) n3 n4 g2) hall) (R4.down f1)
end
end DV
end
section
set_option Elab.async false
set_option linter.all false
set_option maxRecDepth 100000
namespace DV
open PySem PySem.Spec PyProof.Rows L2
section
variable {X : Cx} {K : PySem.W.Frag} {γ : List Addr} {e e1 e2 : En} {σ : L2.St} {H H1 H2 : Hp} {Z Z0 Z1 : Addr → Prop}
theorem ds_par {i j : Nat} {x y : Str} {a b : Expr} {fa fb : M Rs} {px py pt pos : Pos} {kt k2 pt2} (ha : PE X a (tE X.K fa)) (hb : PE X b (tE X.K fb)) (hN : X.N.Nodup) (hij : i ≠ j := by decide) (hi : X.N[i]? = some x := by rfl) (hj : X.N[j]? = some y := by rfl) (hc : X.calm = true := by rfl)
    (hx : X.env.scope.names.lookup x = some .local := by rfl) (hy : X.env.scope.names.lookup y = some .local := by rfl) (hw : swappedStores [.Tuple [.Name x px, .Name y py] kt pt] (.Tuple [a, b] k2 pt2) X.env = pure (some [x, y]) := by with_unfolding_all rfl)
    (hs : swapsWithSole [.Tuple [.Name x px, .Name y py] kt pt] (.Tuple [a, b] k2 pt2) pos.line X.env = pure false := by rfl) (h1 : starEach [a, b] X.env = (false, eval a X.env) :: starEach [b] X.env := by rfl) (h2 : starEach [b] X.env = (false, eval b X.env) :: starEach [] X.env := by rfl) :
    PS X (.Assign [.Tuple [.Name x px, .Name y py] kt pt] (.Tuple [a, b] k2 pt2) pos) (tS X.K (parM i j fa fb)) := PS.weak (ps_par hc hN hi hj hij hx hy (pa_cons ha (pa_cons hb pa_nil h2) h1) hw hs) tS_par
/-- three, handed on for good -/
def st3 (i j l : Nat) (ds : List D) : M Fl := match ds with
  | [a, b, c] => bnd (asg i (.fz a)) fun _ => bnd (asg j (.fz b)) fun _ => bnd (asg l (.fz c)) fun _ => ret .nx
  | _ => noM
def par3M (i j l : Nat) (fs : M (List D)) : M Fl := bnd fs (st3 i j l)
theorem tS_par3 {i j l : Nat} {fs : M (List D)} : ∀ D σ H, tS K (par3M i j l fs) D σ H → tPar3 i j l (tF K fs) D σ H := by
  rintro D σ H ⟨γ, e, Z, fl, e', R, h, k⟩
  obtain ⟨ds, e1, h1, h2⟩ := bnd_eq h
  unfold st3 at h2
  split at h2
  · obtain ⟨u1, e2, h3, h4⟩ := bnd_eq h2
    obtain ⟨u2, e3, h5, h6⟩ := bnd_eq h4
    obtain ⟨u3, e4, h7, h8⟩ := bnd_eq h6
    cases h8
    refine ⟨γ, e, Z, _, e1, R, h1, fun vs H1 kp sh ⟨Z1, h01, hf, R1, rl⟩ => ?_⟩
    cases rl with
    | cons r1 rl =>
      cases rl with
      | cons r2 rl =>
        cases rl with
        | cons r3 rl =>
          cases rl
          refine ⟨_, _, _, rfl, ?_⟩
          have R1' := R1.down h01
          have st0 : Stay H1 H1 (Hid γ e1.ρ σ Z1) (Hid γ e1.ρ σ Z) := stay_refl fun a o _ z => z.imp id (Or.imp id (h01 a))
          obtain ⟨R2, s2⟩ := asg_ok (γ := γ) (e := e1) h3 (fun _ z => z) (fun _ z => .inl z) Stp.refl R1' (show RsOk K γ H1 e1 σ Z Z (.fz _) _ from Rp.stay st0 _ r1)
          have st1 := s2.stay (Z := Z) (Z' := Z) fun a z => .inl z
          obtain ⟨R3, s3⟩ := asg_ok (γ := γ) (e := e2) h5 (fun _ z => z) (fun _ z => .inl z) Stp.refl R2 (show RsOk K γ H1 e2 _ Z Z (.fz _) _ from Rp.stay st1 _ (Rp.stay st0 _ r2))
          have st2 := s3.stay (Z := Z) (Z' := Z) fun a z => .inl z
          obtain ⟨R4, s4⟩ := asg_ok (γ := γ) (e := e3) h7 (fun _ z => z) (fun _ z => .inl z) Stp.refl R3 (show RsOk K γ H1 e3 _ Z Z (.fz _) _ from Rp.stay st2 _ (Rp.stay st1 _ (Rp.stay st0 _ r3)))
          exact k γ _ H1 ((((Stp.ev kp sh).trans s2).trans s3).trans s4) R4
  · cases h2
theorem ds_par3 {i j l : Nat} {x y z : Str} {a b c : Expr} {fs : M (List D)} {px py pz pt pos : Pos} {kt k2 pt2} (ha : PA X [a, b, c] (tF X.K fs)) (hN : X.N.Nodup) (hij : i ≠ j := by decide) (hil : i ≠ l := by decide) (hjl : j ≠ l := by decide) (hi : X.N[i]? = some x := by rfl) (hj : X.N[j]? = some y := by rfl) (hl : X.N[l]? = some z := by rfl) (hc : X.calm = true := by rfl)
    (hx : X.env.scope.names.lookup x = some .local := by rfl) (hy : X.env.scope.names.lookup y = some .local := by rfl) (hz : X.env.scope.names.lookup z = some .local := by rfl)
    (hw : swappedStores [.Tuple [.Name x px, .Name y py, .Name z pz] kt pt] (.Tuple [a, b, c] k2 pt2) X.env = pure (some [x, y, z]) := by with_unfolding_all rfl)
    (hs : swapsWithSole [.Tuple [.Name x px, .Name y py, .Name z pz] kt pt] (.Tuple [a, b, c] k2 pt2) pos.line X.env = pure false := by rfl) :
    PS X (.Assign [.Tuple [.Name x px, .Name y py, .Name z pz] kt pt] (.Tuple [a, b, c] k2 pt2) pos) (tS X.K (par3M i j l fs)) := PS.weak (ps_par3 hc hN hi hj hl hij hil hjl hx hy hz ha hw hs) tS_par3

/-! ### [..] * k, of a list just made -/
def repM (fa fb : M Rs) : M Rs := bnd fa fun a => bnd fb fun b => bnd (rdM b) fun y => match a, y with
  | .fr (.list xs), .int k => if xs.length * k.toNat ≤ 100000 ∧ -1000000 ≤ k ∧ k ≤ 1000000 then ret (.fr (.list (repD k.toNat xs))) else noM
  | _, _ => noM
theorem RpL.rep {O : Addr → Prop} {xs : List V} {ds : List D} (r : RpL K H O xs ds) : ∀ n : Nat, RpL K H O (List.replicate n xs).flatten (repD n ds)
  | 0 => .nil
  | n + 1 => by
    show RpL K H O (List.replicate (n + 1) xs).flatten (List.replicate (n + 1) ds).flatten
    rw [List.replicate_succ, List.replicate_succ, List.flatten_cons, List.flatten_cons]
    exact r.append (RpL.rep r n)
theorem tE_rep {fa fb : M Rs} : ∀ σ H Q, tE K (repM fa fb) σ H Q → tOp rRep (tE K fa) (tE K fb) σ H Q := by
  rintro σ H Q ⟨γ, e, Z, res, e', R, h, k⟩
  obtain ⟨a, e1, h1, h2⟩ := bnd_eq h
  obtain ⟨b, e2, h3, h4⟩ := bnd_eq h2
  obtain ⟨y, e3, h5, h6⟩ := bnd_eq h4
  obtain ⟨q5, rfl⟩ := rdM_eq h5
  split at h6
  · rename_i xs n
    split at h6
    · rename_i c
      cases h6
      refine ⟨γ, e, Z, _, e1, R, h1, fun v H1 kp sh P => ?_⟩
      obtain ⟨Z1, h01, hf, R1, A1⟩ := P.one
      refine ⟨γ, e1, Z1, b, _, R1, h3, fun w H2 kp2 sh2 P2 => ?_⟩
      obtain ⟨Z2, h12, hf2, R2, A2⟩ := P2.one
      have A1' := A1.keep R1 R2 kp2 sh2 h12 hf2
      obtain ⟨p, rfl, hp, np, ct⟩ := A1'
      rcases ct with ⟨xv, xd, e5, q, r⟩ | ⟨_, _, e5, _⟩
      · cases e5
        refine ⟨p, n, xv, rfl, (A2.rd R2 q5).int, q, by omega, by omega, by rw [r.length, sizeLine_eq]; omega, fun p2 hp2 => ?_⟩
        obtain ⟨kp3, P3⟩ := (Gr.lst (K := K) (O := Hid γ e'.ρ σ Z2) (Same.refl H2) hp2 (r.rep n.toNat)).pst R2
        exact k _ _ ((kp.trans sh kp2).trans (sh.trans sh2) kp3) (sh.trans sh2) (Pst.next (rs0 := []) (xs0 := []) kp h01 hf (Pst.next (rs0 := []) (xs0 := []) kp2 h12 hf2 P3))
      · cases e5
    · cases h6
  · cases h6
theorem de_rep {a b : Expr} {fa fb : M Rs} {pos : Pos} (ha : PE X a (tE X.K fa)) (hb : PE X b (tE X.K fb)) : PE X (.BinOp a .Mult b pos) (tE X.K (repM fa fb)) := PE.weak (pe_op op_rep ha hb) tE_rep

/-! ### cells -/
def asgP (i : Nat) (r : Rs) : M Unit := fun e => match r with
  | .fr (.list [.int x, .int y]) => if i < e.ρ.length then match e.ρ[i]? with
      | some (some (.bo _)) => none
      | _ => some ((), { ρ := e.ρ.set i (some (.pt e.μ.length)), μ := e.μ ++ [(x, y)] })
      else none
  | _ => none
theorem asgP_eq {i : Nat} {r : Rs} {u : Unit} (h : asgP i r e = some (u, e2)) : ∃ x y, r = .fr (.list [.int x, .int y]) ∧ i < e.ρ.length ∧ (∀ d, e.ρ[i]? ≠ some (some (.bo d))) ∧ e2 = { ρ := e.ρ.set i (some (.pt e.μ.length)), μ := e.μ ++ [(x, y)] } := by
  unfold asgP at h
  split at h
  · split at h
    · rename_i x y hi
      split at h
      · cases h
      · rename_i nb
        cases h
        exact ⟨x, y, rfl, hi, fun d q => nb _ q, rfl⟩
    · cases h
  · cases h
def potM (i : Nat) (f : M Rs) : M Fl := bnd f fun r => bnd (asgP i r) fun _ => ret .nx
theorem tS_pot {i : Nat} {f : M Rs} : ∀ D σ H, tS K (potM i f) D σ H → tAsg (tE K f) (gName i) D σ H := by
  rintro D σ H ⟨γ, e, Z, fl, e', R, h, k⟩
  obtain ⟨r, e1, h1, h2⟩ := bnd_eq h
  obtain ⟨u, e2, h3, h4⟩ := bnd_eq h2
  cases h4
  obtain ⟨x, y, rfl, hi, nb, rfl⟩ := asgP_eq h3
  refine ⟨γ, e, Z, _, e1, R, h1, fun v H1 kp sh P => ?_⟩
  obtain ⟨Z1, h01, hf, R1, A1⟩ := P.one
  obtain ⟨p, rfl, hp, np, ct⟩ := A1
  have hpn : H p = none := (hf p hp).resolve_left np
  rcases ct with ⟨xs, ds, e5, q, rl⟩ | ⟨_, _, e5, _⟩
  case inr => cases e5
  cases e5
  have hq : H1 p = some (.lst [.int x, .int y]) := by
    cases rl with
    | cons a rl =>
      cases rl with
      | cons b rl => cases rl; cases a; cases b; exact q
  have hσ : i < σ.length := by rw [R1.len]; exact hi
  have pg : p ∉ γ := fun z => R1.cz p z hp
  have pm : ∀ (j : Nat) (s : Sl), e1.ρ[j]? = some (some s) → s.isMu = true → σ[j]? ≠ some (some (.ref p)) := fun j s h1 m h2 => (R1.mu j s p h1 m h2).1 hp
  have mm : ∀ a, MutA (e1.ρ.set i (some (Sl.pt e1.μ.length))) (σ.set i (some (.ref p))) a → MutA e1.ρ σ a := fun a ⟨j, s, h1, m, h2⟩ => by
    rcases set_get h1 with ⟨_, e5⟩ | ⟨ne, h1⟩
    · cases e5; cases m
    · rw [List.getElem?_set_ne (Ne.symm ne)] at h2; exact ⟨j, s, h1, m, h2⟩
  have oo : ∀ a, OwnA (e1.ρ.set i (some (Sl.pt e1.μ.length))) (σ.set i (some (.ref p))) a → OwnA e1.ρ σ a := fun a ⟨j, s, h1, h2⟩ => by
    rcases set_get h1 with ⟨_, e5⟩ | ⟨ne, h1⟩
    · cases e5
    · rw [List.getElem?_set_ne (Ne.symm ne)] at h2; exact ⟨j, s, h1, h2⟩
  have st : Stay H1 H1 (Hid γ e1.ρ σ Z1) (Hid (γ ++ [p]) (e1.ρ.set i (some (Sl.pt e1.μ.length))) (σ.set i (some (.ref p))) Z) := stay_refl fun a o _ z => by
    rcases z with z | z | z
    · exact .inl (mm a z)
    · rcases List.mem_append.mp z with z | z
      · exact .inr (.inl z)
      · rw [List.mem_singleton.mp z]; exact .inr (.inr hp)
    · exact .inr (.inr (h01 a z))
  refine k (γ ++ [p]) _ H1 ⟨⟨[p], rfl⟩, fun a ha => ?_, kp.st, kp.th, fun a z => .inl (sh.mu (mm a z)), fun a z => .inl (sh.own (oo a z)), fun j d hj => ?_, fun j d hj => ?_, by simp [sh.ln]⟩
    ⟨by simp [R1.len], fun j s hj => ?_, fun j s a hj m h2 => ?_, fun j d a hj h2 j' s h3 m h4 => ?_, by simp [R1.cl], ?_, fun l a x' y' g1 g2 => ?_, fun a ha z => ?_, fun a z => R1.zt a (h01 a z)⟩
  · rcases List.mem_append.mp ha with z | z
    · exact .inl z
    · rw [List.mem_singleton.mp z]; exact .inr hpn
  · have hj1 := sh.bo j d hj
    have ne : j ≠ i := fun q => nb d (q ▸ hj1)
    exact ⟨by show (e1.ρ.set i _)[j]? = _; rw [List.getElem?_set_ne (Ne.symm ne)]; exact hj1, by rw [List.getElem?_set_ne (Ne.symm ne)]⟩
  · rcases set_get hj with ⟨_, e5⟩ | ⟨_, g⟩
    · cases e5
    · exact sh.bb j d g
  · rcases set_get hj with ⟨q1, e5⟩ | ⟨ne, hj⟩
    · subst q1
      cases e5
      exact ⟨_, List.getElem?_set_self hσ, p, rfl, by rw [← R1.cl, List.getElem?_append_right (Nat.le_refl _), Nat.sub_self]; rfl⟩
    · obtain ⟨w, hw, ok⟩ := R1.slot j s hj
      refine ⟨w, by rw [List.getElem?_set_ne (Ne.symm ne)]; exact hw, ?_⟩
      cases s with
      | fz d => exact Rp.stay st d ok
      | ow d => obtain ⟨a, rfl, c⟩ := ok; exact ⟨a, rfl, c.stay st fun o ho => ho⟩
      | bo d => obtain ⟨a, rfl, c⟩ := ok; exact ⟨a, rfl, c.stay st fun o ho => ho⟩
      | pt l =>
        obtain ⟨a, rfl, c⟩ := ok
        exact ⟨a, rfl, by rw [List.getElem?_append_left (List.getElem?_eq_some_iff.mp c).1]; exact c⟩
  · rcases set_get hj with ⟨_, e5⟩ | ⟨ne, hj⟩
    · cases e5; cases m
    · rw [List.getElem?_set_ne (Ne.symm ne)] at h2
      obtain ⟨g1, g2⟩ := R1.mu j s a hj m h2
      refine ⟨fun z => g1 (h01 a z), fun z => ?_⟩
      rcases List.mem_append.mp z with z | z
      · exact g2 z
      · exact pm j s hj m (List.mem_singleton.mp z ▸ h2)
  · rcases set_get hj with ⟨_, e5⟩ | ⟨ne, hj⟩
    · cases e5
    · rcases set_get h3 with ⟨_, e5⟩ | ⟨ne', h3⟩
      · cases e5; cases m
      · rw [List.getElem?_set_ne (Ne.symm ne)] at h2
        rw [List.getElem?_set_ne (Ne.symm ne')] at h4
        exact R1.own j d a hj h2 j' s h3 m h4
  · rw [List.nodup_append]
    exact ⟨R1.nd, by simp, fun a ha b hb q => pg (List.mem_singleton.mp hb ▸ q ▸ ha)⟩
  · rcases Nat.lt_or_ge l γ.length with c | c
    · rw [List.getElem?_append_left c] at g1
      have c2 : l < e1.μ.length := by rw [← R1.cl]; exact c
      have g2' : (e1.μ ++ [(x, y)])[l]? = some (x', y') := g2
      rw [List.getElem?_append_left c2] at g2'
      exact R1.cell l a x' y' g1 g2'
    · rw [List.getElem?_append_right c] at g1
      have c2 : e1.μ.length ≤ l := by rw [← R1.cl]; exact c
      have g2' : (e1.μ ++ [(x, y)])[l]? = some (x', y') := g2
      rw [List.getElem?_append_right c2] at g2'
      have e0 : l - γ.length = 0 := by
        rcases Nat.eq_zero_or_pos (l - γ.length) with c3 | c3
        · exact c3
        · rw [List.getElem?_eq_none (by simp; omega)] at g1; cases g1
      have e1' : l - e1.μ.length = 0 := by rw [← R1.cl]; exact e0
      rw [e0] at g1
      rw [e1'] at g2'
      cases g1
      cases g2'
      exact hq
  · rcases List.mem_append.mp ha with z1 | z1
    · exact R1.cz a z1 (h01 a z)
    · exact np (List.mem_singleton.mp z1 ▸ z)
theorem ds_pot {i : Nat} {x : Str} {e : Expr} {f : M Rs} {pos pos' : Pos} (he : PE X e (tE X.K f)) (hN : X.N.Nodup) (hi : X.N[i]? = some x := by rfl) (hx : Loc X.env.scope x := by first | exact Or.inl rfl | exact Or.inr rfl)
    (hs : swapsWith e (some (.Name x pos')) pos.line X.env = pure false := by rfl) (hf : X.fn x = true ∨ X.env.scope.names.lookup x = some .local := by first | exact .inl rfl | exact .inr rfl | assumption) :
    PS X (.Assign [.Name x pos'] e pos) (tS X.K (potM i f)) := PS.weak (ps_set (i := i) hN hi hx he hs hf) tS_pot
theorem nodup_at {α : Type} : ∀ {l : List α} {i j : Nat} {x : α}, l.Nodup → l[i]? = some x → l[j]? = some x → i = j
  | [], i, j, x, _, h, _ => by simp at h
  | a :: l, 0, 0, x, _, _, _ => rfl
  | a :: l, 0, j + 1, x, n, h, g => by
    simp only [List.getElem?_cons_zero, Option.some.injEq] at h
    subst h
    exact absurd (List.mem_of_getElem? (by simpa using g)) (List.nodup_cons.mp n).1
  | a :: l, i + 1, 0, x, n, h, g => by
    simp only [List.getElem?_cons_zero, Option.some.injEq] at g
    subst g
    exact absurd (List.mem_of_getElem? (by simpa using h)) (List.nodup_cons.mp n).1
  | a :: l, i + 1, j + 1, x, n, h, g => congrArg (· + 1) (nodup_at (List.nodup_cons.mp n).2 (by simpa using h) (by simpa using g))
/-- a cell's two ints change -/
theorem Rep.cel {k : Nat} {a : Addr} {x y : Int} (R : Rep K γ e σ H Z) (hk : γ[k]? = some a) : Rep K γ { e with μ := e.μ.set k (x, y) } σ (upd H a (.lst [.int x, .int y])) Z ∧ Kp γ e.ρ σ H (upd H a (.lst [.int x, .int y])) ∧ Stay H (upd H a (.lst [.int x, .int y])) (Hid γ e.ρ σ Z) (Hid γ e.ρ σ Z) := by
  have ha : a ∈ γ := List.mem_of_getElem? hk
  have st : Stay H (upd H a (.lst [.int x, .int y])) (Hid γ e.ρ σ Z) (Hid γ e.ρ σ Z) := fun b o hb nb => ⟨by rw [upd_ne (fun (z : b = a) => nb (.inr (.inl (z ▸ ha))))]; exact hb, nb⟩
  refine ⟨⟨R.len, fun j s hj => ?_, R.mu, R.own, by simp [R.cl], R.nd, fun l b x' y' g1 g2 => ?_, R.cz, fun b z => ?_⟩, ⟨fun b o hb _ ng => ?_, fun b o hb => ?_⟩, st⟩
  · obtain ⟨w, hw, ok⟩ := R.slot j s hj
    refine ⟨w, hw, ok.stay st fun b eb m o ho => ?_⟩
    subst eb
    rw [upd_ne (fun (z : b = a) => (R.mu j s b hj m hw).2 (z ▸ ha))]
    exact ho
  · have g2' : (e.μ.set k (x, y))[l]? = some (x', y') := g2
    by_cases q : l = k
    · subst q
      rw [hk] at g1
      cases g1
      have hl : l < e.μ.length := by rw [← R.cl]; exact (List.getElem?_eq_some_iff.mp hk).1
      rw [List.getElem?_set_self hl] at g2'
      cases g2'
      exact upd_same
    · rw [List.getElem?_set_ne (Ne.symm q)] at g2'
      have nb : b ≠ a := fun z => by
        subst z
        exact q (nodup_at R.nd g1 hk)
      rw [upd_ne nb]
      exact R.cell l b x' y' g1 g2'
  · obtain ⟨o, ho⟩ := R.zt b z
    exact ⟨o, by rw [upd_ne (fun (q : b = a) => R.cz a ha (q ▸ z))]; exact ho⟩
  · rw [upd_ne (fun (z : b = a) => ng (z ▸ ha))]; exact hb
  · by_cases q : b = a
    · exact ⟨_, by rw [q]; exact upd_same⟩
    · exact ⟨o, by rw [upd_ne q]; exact hb⟩
/-- pot[c] := v -/
def celM (i c : Nat) (v : Int) : M Unit := fun e => match e.ρ[i]? with
  | some (some (.pt k)) => match e.μ[k]? with
    | some (x, y) => if c = 0 then some ((), { e with μ := e.μ.set k (v, y) }) else if c = 1 then some ((), { e with μ := e.μ.set k (x, v) }) else none
    | none => none
  | _ => none
theorem celM_eq {i c : Nat} {v : Int} {u : Unit} (h : celM i c v e = some (u, e2)) : ∃ k x y, e.ρ[i]? = some (some (.pt k)) ∧ e.μ[k]? = some (x, y) ∧ ((c = 0 ∧ e2 = { e with μ := e.μ.set k (v, y) }) ∨ (c = 1 ∧ e2 = { e with μ := e.μ.set k (x, v) })) := by
  unfold celM at h
  split at h
  · rename_i k hk
    split at h
    · rename_i x y hm
      split at h
      · rename_i hc
        cases h; exact ⟨k, x, y, hk, hm, .inl ⟨hc, rfl⟩⟩
      · split at h
        · rename_i hc
          cases h; exact ⟨k, x, y, hk, hm, .inr ⟨hc, rfl⟩⟩
        · cases h
    · cases h
  · cases h
theorem gSub_cel {i c : Nat} {v : Int} {u : Unit} {Q : L2.St → Hp → Prop} (R : Rep K γ e σ H Z) (h : celM i c v e = some (u, e2)) (k : ∀ H', Rep K γ e2 σ H' Z → Kp γ e.ρ σ H H' → Stay H H' (Hid γ e.ρ σ Z) (Hid γ e2.ρ σ Z) → e2.ρ = e.ρ → Q σ H') :
    gSub (tVar i) (tC (.int (c : Int))) rSetL (.int v) σ H Q := by
  obtain ⟨l, x, y, hi, hm, hc⟩ := celM_eq h
  obtain ⟨w, hw, a, rfl, ha⟩ := R.slot i _ hi
  have hx := R.cell l a x y ha hm
  rcases hc with ⟨rfl, rfl⟩ | ⟨rfl, rfl⟩
  · refine ⟨_, hw, a, _, _, 0, rfl, rfl, hx, rfl, ?_⟩
    obtain ⟨R2, kp, st⟩ := R.cel (x := v) (y := y) ha
    exact k _ R2 kp st rfl
  · refine ⟨_, hw, a, _, _, 1, rfl, rfl, hx, rfl, ?_⟩
    obtain ⟨R2, kp, st⟩ := R.cel (x := x) (y := v) ha
    exact k _ R2 kp st rfl
theorem Sh.of_rho {e e' : En} (h : e'.ρ = e.ρ) : Sh e e' := ⟨fun i s hi m => ⟨s, by rw [← h]; exact hi, m, id⟩, fun i d hi => by rw [h]; exact hi, fun i d hi => by rw [← h]; exact hi, by rw [h]⟩
def stcM (i c : Nat) (f : M Rs) : M Fl := bnd f fun r => bnd (rdM r) fun d => match d with
  | .int v => bnd (celM i c v) fun _ => ret .nx
  | _ => noM
theorem tS_stc {i c : Nat} {f : M Rs} : ∀ D σ H, tS K (stcM i c f) D σ H → tAsg (tE K f) (gSub (tVar i) (tC (.int (c : Int))) rSetL) D σ H := by
  rintro D σ H ⟨γ, e, Z, fl, e', R, h, k⟩
  obtain ⟨r, e1, h1, h2⟩ := bnd_eq h
  obtain ⟨d, e2, h3, h4⟩ := bnd_eq h2
  obtain ⟨q1, rfl⟩ := rdM_eq h3
  split at h4
  · obtain ⟨u, e3, h5, h6⟩ := bnd_eq h4
    cases h6
    refine ⟨γ, e, Z, r, e2, R, h1, fun v H1 kp sh P => ?_⟩
    have R1 := P.rep
    obtain ⟨Z1, h01, hf, R2, A1⟩ := P.one
    have ev := (A1.rd R2 q1).int
    subst ev
    refine gSub_cel R1 h5 fun H' R3 kp3 _ er => ?_
    exact k γ σ H' (Stp.ev (kp.trans sh kp3) (sh.trans (Sh.of_rho er))) R3
  · cases h4
theorem ds_stc {i c : Nat} {x : Str} {p pos pos' pi : Pos} {j : Nat} {e : Expr} {f : M Rs} (he : PE X e (tE X.K f)) (hN : X.N[i]? = some x := by rfl) (hv : Vis X.env.scope x := by first | exact Or.inl rfl | exact Or.inr (Or.inl rfl) | exact Or.inr (Or.inr rfl)) (hd : (x == ("__debug__" : Str)) = false := by decide)
    (hcd : (x == ("__classdict__" : Str)) = false := by decide) (ha : ∀ v, assign (.Subscript (.Name x p) (.Constant (.int (c : Int)) j pi) pos') X.env v = (do
      let ov ← holding [v] (eval (.Name x p) X.env)
      let iv ← holding [v, ov] (eval (.Constant (.int (c : Int)) j pi) X.env)
      standAt pos'
      holding [v, ov, iv] (setItem ov iv v)
      release [v, ov, iv] []) := by intro _; rfl) (hs : swapsWithSole [.Subscript (.Name x p) (.Constant (.int (c : Int)) j pi) pos'] e pos.line X.env = pure false := by rfl) (hw : swappedStores [.Subscript (.Name x p) (.Constant (.int (c : Int)) j pi) pos'] e X.env = pure none := by rfl)
    (h1 : (assignEach [.Subscript (.Name x p) (.Constant (.int (c : Int)) j pi) pos'] X.env).map (·.2) = [assign (.Subscript (.Name x p) (.Constant (.int (c : Int)) j pi) pos') X.env] := by rfl) :
    PS X (.Assign [.Subscript (.Name x p) (.Constant (.int (c : Int)) j pi) pos'] e pos) (tS X.K (stcM i c f)) := PS.weak (ps_asg he (pg_sub (pe_var hN hv hd hcd) pe_int set_list ha) hs hw h1) tS_stc
/-- pot[0], name = e -/
def drwM (i j : Nat) (f : M Rs) : M Fl := bnd f fun r => bnd (als r) fun d => match d with
  | .tuple [.int a, .int b] => bnd (celM i 0 a) fun _ => bnd (asg j (.fz (.int b))) fun _ => ret .nx
  | _ => noM
theorem tS_drw {i j : Nat} {f : M Rs} : ∀ D σ H, tS K (drwM i j f) D σ H → tAsg (tE K f) (gTup K 2 (gCons (gSub (tVar i) (tC (.int ((0 : Nat) : Int))) rSetL) (gCons (gName j) gNil))) D σ H := by
  rintro D σ H ⟨γ, e, Z, fl, e', R, h, k⟩
  obtain ⟨r, e1, h1, h2⟩ := bnd_eq h
  obtain ⟨d, e2, h3, h4⟩ := bnd_eq h2
  split at h4
  · obtain ⟨u, e3, h5, h6⟩ := bnd_eq h4
    obtain ⟨u2, e4, h7, h8⟩ := bnd_eq h6
    cases h8
    refine ⟨γ, e, Z, r, e1, R, h1, fun v H1 kp sh P => ?_⟩
    obtain ⟨Z1, h01, hf, R1, A1⟩ := P.one
    obtain ⟨Z2, h02, h21, R2, rp, sh2⟩ := als_ok h3 h01 R1 A1
    have R2' := R2.down h02
    cases rp with
    | tup q rl =>
      cases rl with
      | cons ra rl =>
        cases rl with
        | cons rb rl =>
          cases rl
          cases ra
          cases rb
          refine ⟨_, _, rfl, q.sq, rfl, _, _, rfl, ?_⟩
          refine gSub_cel R2' h5 fun H' R3 kp3 st3 er => ⟨_, _, rfl, ?_⟩
          obtain ⟨R4, s4⟩ := asg_ok (γ := γ) (e := e3) (H := H') h7 (fun _ z => z) (fun _ z => .inl z) Stp.refl R3 (show RsOk K γ H' e3 σ Z Z (.fz (.int _)) _ from .int _)
          refine ⟨rfl, ?_⟩
          exact k γ _ H' ((Stp.ev ((kp.trans (sh.trans sh2) kp3)) ((sh.trans sh2).trans (Sh.of_rho er))).trans s4) R4
  · cases h4
theorem ds_drw {i j : Nat} {x y : Str} {p pt pos pos' pi py : Pos} {jj : Nat} {kt : Nat} {e : Expr} {f : M Rs} (he : PE X e (tE X.K f)) (hNd : X.N.Nodup) (hN : X.N[i]? = some x := by rfl) (hj : X.N[j]? = some y := by rfl) (hc : X.calm = true := by rfl) (hv : Vis X.env.scope x := by first | exact Or.inl rfl | exact Or.inr (Or.inl rfl) | exact Or.inr (Or.inr rfl)) (hd : (x == ("__debug__" : Str)) = false := by decide)
    (hcd : (x == ("__classdict__" : Str)) = false := by decide) (hy : Loc X.env.scope y := by first | exact Or.inl rfl | exact Or.inr rfl) (hf : X.fn y = true ∨ X.env.scope.names.lookup y = some .local := by first | exact .inl rfl | exact .inr rfl | assumption)
    (ha : ∀ v, assign (.Subscript (.Name x p) (.Constant (.int 0) jj pi) pos') X.env v = (do
      let ov ← holding [v] (eval (.Name x p) X.env)
      let iv ← holding [v, ov] (eval (.Constant (.int 0) jj pi) X.env)
      standAt pos'
      holding [v, ov, iv] (setItem ov iv v)
      release [v, ov, iv] []) := by intro _; rfl)
    (hs1 : (assignEach [.Subscript (.Name x p) (.Constant (.int 0) jj pi) pos', .Name y py] X.env).map (·.2) = assign (.Subscript (.Name x p) (.Constant (.int 0) jj pi) pos') X.env :: (assignEach [.Name y py] X.env).map (·.2) := by rfl) (hs2 : (assignEach [.Name y py] X.env).map (·.2) = assign (.Name y py) X.env :: (assignEach [] X.env).map (·.2) := by rfl)
    (hn : (assignEach [.Subscript (.Name x p) (.Constant (.int 0) jj pi) pos', .Name y py] X.env).length = 2 := by rfl) (hst : (assignEach [.Subscript (.Name x p) (.Constant (.int 0) jj pi) pos', .Name y py] X.env).findIdx? (·.1) = none := by rfl)
    (hs : swapsWithSole [.Tuple [.Subscript (.Name x p) (.Constant (.int 0) jj pi) pos', .Name y py] kt pt] e pos.line X.env = pure false := by rfl) (hw : swappedStores [.Tuple [.Subscript (.Name x p) (.Constant (.int 0) jj pi) pos', .Name y py] kt pt] e X.env = pure none := by rfl)
    (h1 : (assignEach [.Tuple [.Subscript (.Name x p) (.Constant (.int 0) jj pi) pos', .Name y py] kt pt] X.env).map (·.2) = [assign (.Tuple [.Subscript (.Name x p) (.Constant (.int 0) jj pi) pos', .Name y py] kt pt) X.env] := by rfl) :
    PS X (.Assign [.Tuple [.Subscript (.Name x p) (.Constant (.int 0) jj pi) pos', .Name y py] kt pt] e pos) (tS X.K (drwM i j f)) :=
  PS.weak (ps_asg he (pg_tup hc (pgs_cons (pg_sub (pe_var hN hv hd hcd) pe_int set_list ha) (pgs_cons (pg_name hNd hj hy hf) pgs_nil hs2) hs1) hn hst) hs hw h1) tS_drw
end
end DV
end
section
set_option Elab.async false
set_option linter.all false
set_option maxRecDepth 100000
namespace DV
open PySem PySem.Spec PyProof.Rows L2
/-! ### min of a list of data; repr -/
section
variable {X : Cx} {K : PySem.W.Frag}
def rMinDt (K : PySem.W.Frag) : List V → Hp → VK → Prop := fun xs H Q => ∃ (a : Addr) (vs : List V) (x : D) (ds : List D), xs = [.ref a] ∧ SqL K H a vs ∧ DpAll K H vs (x :: ds) ∧ PySem.W.AlikeAll (x :: ds) ∧ PyData.canLayAll0 (x :: ds) = true ∧ PyData.depthAll (x :: ds) ≤ 60 ∧
  ∀ (i : Nat) (v : V), vs[i]? = some v → (x :: ds)[i]? = some (PySem.W.minD x ds) → Q v H
theorem cr_minDt (hc : X.calm = true) (hu : X.A.units + 65 < cLine) : CallR X (.builtin "min") (rMinDt X.K) := by
  intro pins s σ H xs us Q I r h
  obtain ⟨a, vs, x, ds, rfl, sq, dp, al, cl, dep, q⟩ := h
  obtain ⟨u, rfl, rx⟩ := vals1 r
  cases rx
  obtain ⟨its, rv, pl, hz⟩ := I.list sq
  obtain ⟨as, rs⟩ := Dp.readsAll I (x :: ds) _ its dp rv
  refine PySem.W.min_list_data (vs := its.toArray) (I.ok.hd hc) pl.isList (show ReadsAll s.heap its.toArray.toList (x :: ds) as from rs) al (by omega) fun i v h' tk bs hv rd hk => ?_
  have hvi : its[i]? = some v := by rw [← Array.getElem?_toList] at hv; exact hv
  have hil : i < vs.length := by rw [rv.length]; exact (List.getElem?_eq_some_iff.mp hvi).1
  have hw : vs[i]? = some vs[i] := List.getElem?_eq_getElem hil
  obtain ⟨v', hv', rw'⟩ := rv.get hw
  rw [hvi] at hv'
  cases hv'
  refine ⟨_, H, I.kept hk, rw', q i _ hw ?_⟩
  have hmap := SeqAt.readsAll_map (x :: ds) its as cl rs
  have hi : ((x :: ds)[i]?) = some (SeqAt.readOf s.heap v) := by rw [← hmap, List.getElem?_map, hvi]; rfl
  have hin : SeqAt.readOf s.heap v ∈ x :: ds := List.mem_of_getElem? hi
  have hlen : i < its.toArray.size := (Array.getElem?_eq_some_iff.mp hv).1
  obtain ⟨cs, rc, _, hmem, _⟩ := PySem.W.readsAll_atA (vs := its.toArray) (show ReadsAll s.heap its.toArray.toList (x :: ds) as from rs) i v hv
  have canAll : ∀ {l : List D}, PyData.canLayAll0 l = true → ∀ d ∈ l, d.canLay0 = true := fun {l} => by
    induction l with
    | nil => intro _ d hd; cases hd
    | cons y ys ih =>
      intro hl d hd
      simp only [PyData.canLayAll0, Bool.and_eq_true] at hl
      rcases List.mem_cons.mp hd with e | hd
      · rw [e]; exact hl.1
      · exact ih hl.2 d hd
  have hg : (x :: ds).getD i .none = SeqAt.readOf s.heap v := by rw [List.getD_eq_getElem?_getD, hi]; rfl
  have c1 : (SeqAt.readOf s.heap v).canLay0 = true := canAll cl _ hin
  rw [hg] at rc
  have rc' := PySem.W.reads_keeps hk rc
  have minmem : ∀ (l : List D) (y : D), (PySem.W.minD y l = y ∨ PySem.W.minD y l ∈ l) := fun l => by
    induction l with
    | nil => intro y; exact .inl rfl
    | cons z zs ih =>
      intro y
      show (PySem.W.minD (if PySem.W.dataLt z y then z else y) zs = y) ∨ _
      rcases ih (if PySem.W.dataLt z y then z else y) with e | e
      · by_cases c : PySem.W.dataLt z y = true
        · rw [if_pos c] at e
          refine .inr ?_
          show PySem.W.minD (if PySem.W.dataLt z y then z else y) zs ∈ _
          rw [if_pos c, e]; exact List.mem_cons_self ..
        · rw [if_neg c] at e ⊢
          exact .inl e
      · exact .inr (List.mem_cons_of_mem _ e)
  have c2 : (PySem.W.minD x ds).canLay0 = true := by
    refine canAll cl _ ?_
    rcases minmem ds x with e | e
    · rw [e]; exact List.mem_cons_self ..
    · exact List.mem_cons_of_mem _ e
  have e1 := SeqAt.readOf_eq c1 rc'
  have e2 := SeqAt.readOf_eq c2 rd
  rw [hi, ← e2, e1]
def alikeB (xs : List D) : Bool := xs.all fun x => !isNoneD x && xs.all fun y => PySem.W.alike x y
theorem alikeB_ok {xs : List D} (h : alikeB xs = true) : PySem.W.AlikeAll xs := by
  have h1 := List.all_eq_true.mp h
  refine ⟨fun x hx y hy => ?_, fun x hx e => ?_⟩
  · have := h1 x hx
    rw [Bool.and_eq_true] at this
    exact List.all_eq_true.mp this.2 y hy
  · have := h1 x hx
    rw [e, Bool.and_eq_true] at this
    exact absurd this.1 (by decide)
def minG (d : D) : Option Rs := match d with
  | .list (x :: ds) => if alikeB (x :: ds) = true ∧ PyData.canLayAll0 (x :: ds) = true ∧ PyData.depthAll (x :: ds) ≤ 60 then some (.fz (PySem.W.minD x ds)) else none
  | _ => none
theorem o_min : OpN K (rMinDt K) (g1 minG) := OpN.one fun H O x d res Q tr rx q k => by
  unfold minG at q
  split at q
  · split at q
    · rename_i c
      cases q
      obtain ⟨a, xs, rfl, sq, r⟩ := rx.lst
      refine ⟨a, xs, _, _, rfl, sq, r.dp _ c.2.1, alikeB_ok c.1, c.2.1, c.2.2, fun i v hv hd => ?_⟩
      obtain ⟨w, hw, rp⟩ := r.get hd
      rw [hv] at hw
      cases hw
      exact k _ H (.same rp)
    · cases q
  · cases q
def rRepr (K : PySem.W.Frag) : List V → Hp → VK → Prop := fun xs H Q => ∃ (a : Addr) (d : D), xs = [.ref a] ∧ Dp K H (.ref a) d ∧ d.layable0 = true ∧ d.intsShort 13 = true ∧ d.showable = true ∧ Q (.str d.shown) H
theorem cr_repr (hg : X.A.guards = some []) (hu : X.A.units + 70 < cLine) : CallR X (.builtin "repr") (rRepr X.K) := by
  intro pins s σ H xs us Q I r h
  obtain ⟨a, d, rfl, dp, hl, hi, hs, q⟩ := h
  obtain ⟨u, rfl, rx⟩ := vals1 r
  cases rx
  obtain ⟨as, rd⟩ := Dp.reads I d _ _ dp (show RelV (.ref a) (.ref a) from rfl)
  have hl' : (PyData.canLay0 d && decide (PyData.depth d ≤ 64) && decide (PyData.weight d ≤ 2 ^ 20)) = true := hl
  simp only [Bool.and_eq_true, decide_eq_true_eq] at hl'
  have h64 := hl'.1.2
  exact repr_of_reads' rd hs (PyData.noDict_hsm (PyData.hasDict_of_layable hl)) hg (by omega) (fun _ _ e => e) (fun h' u tk hk => ⟨.str d.shown, H, I.kept hk, ⟨_, rfl⟩, q⟩) (by have := shown_le13 hl hi; rw [sizeLine_eq]; omega)
def reprG (d : D) : Option Rs := match d with
  | .list ds => if (PyData.list ds).layable0 = true ∧ (PyData.list ds).intsShort 13 = true ∧ (PyData.list ds).showable = true then strR (PyData.list ds).shown else none
  | .tuple ds => if (PyData.tuple ds).layable0 = true ∧ (PyData.tuple ds).intsShort 13 = true ∧ (PyData.tuple ds).showable = true then strR (PyData.tuple ds).shown else none
  | _ => none
theorem can_of_lay {d : D} (h : d.layable0 = true) : d.canLay0 = true := by
  unfold PyData.layable0 at h
  simp only [Bool.and_eq_true] at h
  exact h.1.1
theorem o_repr : OpN K (rRepr K) (g1 reprG) := OpN.one fun H O x d res Q tr rx q k => by
  unfold reprG at q
  split at q
  · split at q
    · rename_i c
      cases q
      have dp := rx.dp (can_of_lay c.1)
      obtain ⟨a, xs, rfl, sq, r⟩ := rx.lst
      exact ⟨a, _, rfl, dp, c.1, c.2.1, c.2.2, k _ H (.same (.str _))⟩
    · cases q
  · split at q
    · rename_i c
      cases q
      have dp := rx.dp (can_of_lay c.1)
      obtain ⟨a, xs, rfl, sq, r⟩ := rx.tup
      exact ⟨a, _, rfl, dp, c.1, c.2.1, c.2.2, k _ H (.same (.str _))⟩
    · cases q
  · cases q
end
end DV
end
section
set_option Elab.async false
set_option linter.all false
set_option maxRecDepth 100000
set_option maxHeartbeats 4000000
namespace DV
open PySem PySem.Spec PyProof.Rows L2
/-! ### sets of keys (ints, strs): made of a list, sorted -/
abbrev newS (w : World) : Obj := { cls := .type "set", dict := none, data := .set #[] 0 (.fresh 0 0 (!w.params.followText "set-order")) }
def keyE (e : Int × Value) : L2.Key := match e.2 with
  | .int k _ => .inl k
  | .str x _ => .inr x
  | _ => .inl 0
def GoodK (w : World) (e : Int × Value) : Prop := RelV (kV (keyE e)) e.2 ∧ e.1 = keyH w (keyE e)
theorem keyE_of {k : L2.Key} {u : Value} {h : Int} (r : RelV (kV k) u) : keyE (h, u) = k := by
  cases k with
  | inl i => obtain ⟨t, rfl⟩ := r; rfl
  | inr i => obtain ⟨t, rfl⟩ := r; rfl
/-- the set at a has the members of S, at most n -/
def SetM (w : World) (h : Heap) (a : Addr) (S : List L2.Key) (n : Nat) : Prop := ∃ (o : Obj) (es : Array (Int × Value)) (ep : Nat) (t : SetTable), h.get? a = some o ∧ o.ExactSet ∧ o.data = .set es ep t ∧
  ((∀ e ∈ es.toList, GoodK w e) ∧ (es.toList.map keyE).Nodup ∧ (∀ k, k ∈ es.toList.map keyE ↔ k ∈ S)) ∧ (es.size < scanBound ∧ es.size ≤ n) ∧ (t.fits es.size = true ∧ Ris t.place.toList) ∧ (w.params.followText "set-order" = true ∨ t.led = true)
section
variable {P : Program} {w : World} {A : Around} {E : Value → Shared → Prop} {s : Shared} {a : Addr} {S : List L2.Key} {n : Nat}
theorem SetM.at {h h' : Heap} (R : SetM w h a S n) (k : ∀ o, h.get? a = some o → h'.get? a = some o) : SetM w h' a S n := let ⟨o, es, ep, t, ho, r⟩ := R; ⟨o, es, ep, t, k o ho, r⟩
theorem SetM.same {h : Heap} {S' : List L2.Key} (R : SetM w h a S n) (k : ∀ x, x ∈ S ↔ x ∈ S') : SetM w h a S' n :=
  let ⟨o, es, ep, t, h1, h2, h3, ⟨g1, g2, g3⟩, r⟩ := R
  ⟨o, es, ep, t, h1, h2, h3, ⟨g1, g2, fun x => (g3 x).trans (k x)⟩, r⟩
theorem newS_led : w.params.followText "set-order" = true ∨ (SetTable.fresh 0 0 (!w.params.followText "set-order")).led = true := by
  show _ ∨ (!w.params.followText "set-order") = true
  cases w.params.followText "set-order" with
  | true => exact .inl rfl
  | false => exact .inr rfl
theorem setM_new {h : Heap} (ho : h.get? a = some (newS w)) : SetM w h a [] 0 := ⟨_, #[], 0, _, ho, ⟨rfl, rfl, rfl⟩, rfl, ⟨fun e he => by simp at he, by simp, fun k => by simp⟩, ⟨by decide, Nat.le_refl _⟩, ⟨by rfl, List.Pairwise.nil⟩, newS_led⟩
theorem goodK_els {l : List (Int × Value)} (g : ∀ e ∈ l, GoodK w e) : ElemsOf (mixKind P w) l := fun e he => ⟨⟨keyE e, kV_is (g e he).1, (g e he).2⟩, key_scan (g e he).1⟩
theorem goodK_is {e : Int × Value} (g : GoodK w e) {k : L2.Key} (h : (mixKind P w).is k e.2 = true) : keyE e = k := (mixKind P w).inj e.2 _ _ (kV_is g.1) h
/-- behind the store of the new rows -/
theorem setM_tail {say : Bool → Sem Unit} (hg : ∀ (b : Bool) (s₁ : Shared) (Q' : Unit → Shared → Prop), Q' () s₁ → wpAny (model P w) A (say b) Q' E s₁) {o : Obj} {es : Array (Int × Value)} {ep : Nat} {t : SetTable}
    (ho : s.heap.get? a = some o) (hex : o.ExactSet) (hd : o.data = .set es ep t) {rows : Array (Int × Value)} {tb : SetTable} (ok : (∀ e ∈ rows.toList, GoodK w e) ∧ (rows.toList.map keyE).Nodup ∧ ∀ k, k ∈ rows.toList.map keyE ↔ k ∈ S)
    (hb : rows.size < scanBound ∧ rows.size ≤ n) (hf : tb.fits rows.size = true) (hr : Ris tb.place.toList) (hl : w.params.followText "set-order" = true ∨ tb.led = true) {wasDummy : Bool} {R : Option Bool → Shared → Prop}
    (hR : ∀ h', Heap.SameBut a s.heap h' → SetM w h' a S n → R (some true) { s with heap := h' }) :
    wpAny (model P w) A (do
        storeSet a rows tb
        if (!wasDummy && tb.tooFull) = true then do
            say (relayAll tb rows (SetTable.grown rows.size)).2.2
            storeSet a (relayAll tb rows (SetTable.grown rows.size)).1 (relayAll tb rows (SetTable.grown rows.size)).2.1
            pure (some true)
          else pure (some true)) R E s := by
  refine wpAny_bind (wpAny_storeSet_of ho hd ?_ (fits_of_scanBound hb.1))
  have o1 := store_at (es' := rows) (t' := tb) ho hd
  have sb := Heap.SameBut.update s.heap a (Obj.putSet rows tb)
  by_cases c : (!wasDummy && tb.tooFull) = true
  · rw [if_pos c]
    have p1 := relayAll_perm tb rows (SetTable.grown rows.size)
    have p2 := relayAll_fits tb rows (SetTable.grown rows.size)
    have p3 := relayAll_ris tb rows (SetTable.grown rows.size)
    have p4 := relayAll_led tb rows (SetTable.grown rows.size)
    generalize relayAll tb rows (SetTable.grown rows.size) = W at p1 p2 p3 p4 ⊢
    obtain ⟨rows2, tb2, gave⟩ := W
    dsimp only at p1 p2 p3 p4 ⊢
    have hz : rows2.size = rows.size := by
      have := p1.length_eq
      simpa using this
    refine wpAny_bind (hg _ _ _ (wpAny_bind (wpAny_storeSet_of o1 rfl ?_ (fits_of_scanBound (by rw [hz]; exact hb.1)))))
    have o2 := store_at (es' := rows2) (t' := tb2) o1 rfl
    have pk := p1.map keyE
    refine wpAny_pure (hR _ (sb.trans (Heap.SameBut.update _ a _)) ⟨_, rows2, _, tb2, o2, hex, rfl, ⟨fun e he => ok.1 e (p1.mem_iff.mp he), pk.nodup_iff.mpr ok.2.1, fun k => pk.mem_iff.trans (ok.2.2 k)⟩, by rw [hz]; exact hb, ⟨p2, p3⟩, hl.imp id fun z => p4.trans z⟩)
  · rw [if_neg c]
    exact wpAny_pure (hR _ sb ⟨_, rows, _, tb, o1, hex, rfl, ok, hb, ⟨hf, hr⟩, hl⟩)
/-- a key is added -/
theorem setM_add {k : L2.Key} {u : Value} {Q : Bool → Shared → Prop} (R : SetM w s.heap a S n) (ru : RelV (kV k) u) (room : n + 1 < scanBound)
    (hQ : ∀ h' b, Heap.SameBut a s.heap h' → SetM w h' a (S ++ [k]) (n + 1) → Q b { s with heap := h' }) : wpAny (model P w) A (setAddHashed a u ((mixKind P w).hash k)) Q E s := by
  obtain ⟨o, es, ep, t, ho, hex, hd, ⟨g, nd, hm⟩, ⟨hb, hn⟩, ⟨hf, hr⟩, hl⟩ := R
  have hk : (mixKind P w).is k u = true := kV_is ru
  have hel : ElemsOf (mixKind P w) es.toList := goodK_els g
  have say_ok : ∀ (b : Bool) {s₁ : Shared} {Q' : Unit → Shared → Prop}, Q' () s₁ → wpAny (model P w) A (match b with | true => rule "set.scan.the-table-gave-way" | false => pure ()) Q' E s₁ := fun b s₁ Q' q => by
    cases b with
    | true => exact wpAny_rule q
    | false => exact wpAny_pure q
  unfold setAddHashed setAddHashedIn
  refine wpAny_holding (wpAny_bind (wpAny_setState_of ho hd hf ?_))
  dsimp only
  rw [byScan_of (key_scan ru) hb hel]
  simp only [↓reduceIte]
  unfold setAddByScan
  refine wpAny_bind (wpAny_bind (wpAny_rule (wpAny_bind (wpAny_setScan_of hk ho hd hf hel ?_))))
  cases hfi : List.findIdx? (fun e => (mixKind P w).is k e.2) es.toList with
  | some j =>
    dsimp only
    obtain ⟨hj, pj, _⟩ := List.findIdx?_eq_some_iff_getElem.mp hfi
    have ek : keyE es.toList[j] = k := goodK_is (g _ (List.getElem_mem hj)) pj
    have hkS : k ∈ S := (hm k).mp (List.mem_map.mpr ⟨_, List.getElem_mem hj, ek⟩)
    refine wpAny_pure (wpAny_pure (hQ s.heap _ (Heap.SameBut.refl a s.heap) ⟨o, es, ep, t, ho, hex, hd, ⟨g, nd, fun x => (hm x).trans ?_⟩, ⟨hb, by omega⟩, ⟨hf, hr⟩, hl⟩))
    rw [List.mem_append, List.mem_singleton]
    exact ⟨.inl, fun z => z.elim id fun e => e ▸ hkS⟩
  | none =>
    dsimp only
    have hnk : k ∉ es.toList.map keyE := fun z => by
      obtain ⟨e, he, q⟩ := List.mem_map.mp z
      have c := List.findIdx?_eq_none_iff.mp hfi e he
      have c2 : (mixKind P w).is k e.2 = true := q ▸ kV_is (g e he).1
      rw [c2] at c
      cases c
    have q1 := layNew_perm t es ((mixKind P w).hash k) u
    have q2 := layNew_fits t es ((mixKind P w).hash k) u
    have q3 := layNew_ris t es ((mixKind P w).hash k) u hr
    have q4 := layNew_led t es ((mixKind P w).hash k) u
    generalize layNew t es ((mixKind P w).hash k) u = W at q1 q2 q3 q4 ⊢
    obtain ⟨rows, tb, wasDummy, gave⟩ := W
    dsimp only at q1 q2 q3 q4 ⊢
    rw [Array.toList_push] at q1
    have pc : rows.toList.Perm (((mixKind P w).hash k, u) :: es.toList) := q1.trans (List.perm_append_singleton _ _)
    have pk : (rows.toList.map keyE).Perm (k :: es.toList.map keyE) := by
      have := pc.map keyE
      rwa [List.map_cons, keyE_of ru] at this
    have hsz : rows.size = es.size + 1 := by
      have := pc.length_eq
      simpa using this
    have ok : (∀ e ∈ rows.toList, GoodK w e) ∧ (rows.toList.map keyE).Nodup ∧ ∀ x, x ∈ rows.toList.map keyE ↔ x ∈ S ++ [k] := by
      refine ⟨fun e he => ?_, pk.nodup_iff.mpr (List.nodup_cons.mpr ⟨hnk, nd⟩), fun x => ?_⟩
      · rcases List.mem_cons.mp (pc.mem_iff.mp he) with z | z
        · rw [z]; exact ⟨by rw [keyE_of ru]; exact ru, by rw [keyE_of ru]; rfl⟩
        · exact g e z
      · rw [pk.mem_iff, List.mem_cons, List.mem_append, List.mem_singleton, hm x]
        exact Or.comm
    have hbb : rows.size < scanBound ∧ rows.size ≤ n + 1 := ⟨by omega, by omega⟩
    have hled : w.params.followText "set-order" = true ∨ tb.led = true := hl.imp id fun z => q4.trans z
    refine wpAny_bind (say_ok _ ?_)
    split
    · refine wpAny_bind ?_
      rw [hashByValue_scannable 8 (key_scan ru)]
      refine wpAny_pure (setM_tail (fun b s₁ Q' q => say_ok b q) ho hex hd ok hbb ?_ ?_ ?_ fun h' sb r => ?_)
      · first | (split <;> first | exact q2 | exact SetTable.fits_plain_off q2) | exact q2
      · first | (split <;> exact q3) | exact q3
      · first | (split <;> exact hled) | exact hled
      · dsimp only; exact wpAny_pure (hQ h' _ sb r)
    · refine wpAny_bind (wpAny_pure ?_)
      simp only [↓reduceIte]
      refine setM_tail (fun b s₁ Q' q => say_ok b q) ho hex hd ok hbb q2 q3 hled fun h' sb r => ?_
      dsimp only; exact wpAny_pure (hQ h' _ sb r)
/-- the loop of set(..) -/
theorem setM_loop {I : Addr} {fp wr : List Addr} {G : Array GenState → Array GenState → Prop} {m : Nat} {Pv : Nat → Value → Prop} {St : Nat → Shared → Prop} {R : Result → Shared → Prop} (W : WalksS P w A.in1 I fp wr G m Pv St) (D : Addr) (hD : D ∉ fp) (ks : List L2.Key) (hm : m = ks.length) (hb : ks.length + 1 < scanBound)
    (hval : ∀ i v, Pv i v → ∃ k, ks[i]? = some k ∧ RelV (kV k) v) : ∀ (left i : Nat) (s : Shared), m - i = left → i ≤ m → St i s → SetM w s.heap D (ks.take i) i → (∀ s', Moved (D :: wr) G s s' → SetM w s'.heap D ks m → R (.ok (.ret .none)) s') →
      codeAny (model P w) A (.builtin "set.update.loop" ⟨[.ref D, .ref I], []⟩) R s := by
  have hDw : D ∉ wr := fun h => hD (W.sub _ h)
  have up : ∀ b ∈ wr, b ∈ D :: wr := fun b h => List.mem_cons_of_mem _ h
  intro left
  induction left with
  | zero =>
    intro i s e1 e2 st R0 hR
    obtain rfl : i = m := by omega
    refine codeAny_builtin F.entry_set_update_loop ?_
    rw [Around.under_plainId F.plain_set_update_loop _]
    show wpAny _ A.in1 (pyNext (.ref I) >>= _) _ _ s
    refine wpAny_bind (W.done s _ _ st fun s' mv => ?_)
    show wpAny _ A.in1 (PySem.ret Value.none) _ _ s'
    rw [List.take_of_length_le (by omega)] at R0
    exact wpAny_pure (hR s' (mv.mono up) (R0.at fun o e => mv.heap D o hDw e))
  | succ left ih =>
    intro i s e1 e2 st R0 hR
    refine codeAny_builtin F.entry_set_update_loop ?_
    rw [Around.under_plainId F.plain_set_update_loop _]
    show wpAny _ A.in1 (pyNext (.ref I) >>= _) _ _ s
    refine wpAny_bind (W.item i s _ _ (by omega) st fun v s1 hp st1 mv => ?_)
    obtain ⟨k, hk, rk⟩ := hval i v hp
    show wpAny _ A.in1 (holding [v] (setAdd D v) >>= _) _ _ s1
    refine wpAny_bind (wpAny_holding ?_)
    unfold setAdd
    refine wpAny_holding (wpAny_bind ((mixKind P w).pyHash (kV_is rk) ?_))
    refine setM_add (s := { s1 with toks := s1.toks + 1 }) (R0.at fun o e => mv.heap D o hDw e) rk (by omega) fun h' b sb R1 => ?_
    have e3 : ks.take i ++ [k] = ks.take (i + 1) := by rw [List.take_add_one, hk]; rfl
    rw [e3] at R1
    refine wpAny_pure ⟨plainId_quiet F.plain_set_update_loop _, ih (i + 1) _ (by omega) (by omega) (W.frame _ s1 _ _ st1 (Nat.le_succ _) fun c hc o e => ?_) R1 fun s2 mv2 R2 => ?_⟩
    · exact (sb.2 c fun z => hD (z ▸ hc)).trans e
    · refine hR s2 (Moved.trans W.gtrans ((mv.mono up).then_heap (Nat.le_succ _) fun c o hc e => ?_) mv2) R2
      exact (sb.2 c fun z => hc (by rw [z]; exact List.mem_cons_self)).trans e
/-- set(l), l a list of keys -/
theorem setM_of {l : Addr} {items : Array Value} (ks : List L2.Key) {Q : Value → Shared → Prop} (hh : A.handled = none) (hl : s.heap.IsList l items) (hlen : items.size = ks.length) (hval : ∀ (i : Nat) (v : Value), items[i]? = some v → ∃ k, ks[i]? = some k ∧ RelV (kV k) v) (hb : ks.length + 1 < scanBound)
    (h : ∀ (h' : Heap) (tk : Nat), SetM w h' s.heap.objs.size ks ks.length → (∀ b o, s.heap.get? b = some o → h'.get? b = some o) → Q (.ref s.heap.objs.size) { s with heap := h', toks := tk }) :
    wpAny (model P w) A (call (.type "set") [.ref l]) Q E s := by
  obtain ⟨c, tl, hmro⟩ := F.called_set.mro
  have hmade := F.called_set.made
  have hsub := F.called_set.sub
  refine wpAny_call (codeAny_of_tree ?_)
  show wpAny _ _ (callAny (.type "set") _) _ _ _
  refine wpAny_pure ⟨Code.quiet_builtin _ (by decide +kernel), codeAny_builtin F.entry_type_call ?_⟩
  rw [Around.under_plain (weight_type_call_type "set" [.ref l] []) rfl]
  have f1 := F.called_set.notType
  have f2 := F.called_set.canCreate
  have f3 := F.typeCall_set_1 (.ref l)
  repeat (any_goals (first | assumption | wp_step))
  refine codeAny_mono (code_set_led1 (.ref l) (E := E) (Q₁ := fun r s1 => r = .ref s.heap.objs.size ∧ s1 = { s with heap := s.heap.push (newS w) }) ⟨rfl, rfl⟩) fun r s1 hr => ?_
  cases r with
  | error e => exact hr
  | ok fl =>
    cases fl with
    | ret obj =>
      obtain ⟨rfl, rfl⟩ := hr
      have hD : (s.heap.push (newS w)).get? s.heap.objs.size = some (newS w) := Heap.get?_push_size _ rfl
      have hT : Shared.TypeIs { s with heap := s.heap.push (newS w) } (.ref s.heap.objs.size) "set" := ⟨_, hD, rfl⟩
      have f4 := F.called_set.init.lookup
      have f5 := F.called_set.init.bind (.ref s.heap.objs.size)
      repeat (any_goals (first | assumption | wp_step))
      refine codeAny_mono (codeAny_call_builtin (R := wants (fun r s2 => r = .none ∧ ∃ h' tk, s2 = { s with heap := h', toks := tk } ∧ SetM w h' s.heap.objs.size ks ks.length ∧ (∀ b o, s.heap.get? b = some o → h'.get? b = some o)) E) F.called_set.init.plain F.entry_set_init (check_set_init_1 hT ?_)) fun r2 s2 hr2 => ?_
      · obtain ⟨ol, hol, hcl, nl, hdl⟩ := hl
        obtain ⟨ocls, odict, odata, oslots⟩ := ol
        simp only at hcl hdl
        subst hcl hdl
        have hol2 : (s.heap.push (newS w)).get? l = some { cls := .type "list", dict := odict, data := .seq items nl, slots := oslots } := Heap.get?_push_of_some _ hol
        have g1 := F.sub_list_set
        have g2 := F.sub_list_frozenset
        have g3 : (Value.type "list" == Value.type "dict") = false := by decide
        have hl2 : (s.heap.push (newS w)).IsList l items := ⟨_, hol2, rfl, nl, rfl⟩
        unfold Builtin.«set.__init__» noKeywords Builtin.Frozenset.updateFrom
        generalize hPI : pyIter = PI
        wp_walk
        subst hPI
        refine wpAny_pyIter_list hl2 (wpAny_bind (wpAny_runValue ?_))
        have lt : l < s.heap.objs.size := Heap.lt_size hol
        have sz : (s.heap.push (newS w)).objs.size = s.heap.objs.size + 1 := Heap.size_push ..
        have h3 : A.in1.in1.in1.handled = none := by simp [hh]
        have ne : l ≠ (s.heap.push (newS w)).objs.size := by rw [sz]; exact Nat.ne_of_lt (Nat.lt_succ_of_lt lt)
        have nf : s.heap.objs.size ∉ [(s.heap.push (newS w)).objs.size, l] := by
          rw [sz]
          simp only [List.mem_cons, List.not_mem_nil, or_false, not_or]
          exact ⟨Nat.ne_of_lt (Nat.lt_succ_self _), Nat.ne_of_gt lt⟩
        refine setM_loop ((Walks.list h3 _ l ne items).toS) s.heap.objs.size nf ks hlen hb hval (items.size - 0) 0 _ (by omega) (Nat.zero_le _) ⟨⟨_, Heap.get?_push_size _ rfl, rfl, rfl⟩, (hl2.push _)⟩ ?_ ?_
        · exact setM_new (show _ = some (newS w) from Heap.get?_push_of_some _ hD)
        · intro s3 mv R3
          obtain ⟨h3, gg, dd, tt, oo⟩ := s3
          obtain rfl : gg = s.gens := mv.gens
          obtain rfl : dd = s.drawn := mv.drawn
          obtain rfl : oo = s.os := mv.os
          show wpAny _ _ _ _ _ _
          refine wpAny_pure ?_
          show wpAny _ _ (PySem.ret Value.none) _ _ _
          rw [hlen] at R3
          refine wpAny_pure ⟨rfl, h3, tt, rfl, R3, fun b o e => ?_⟩
          have lb : b < s.heap.objs.size := Heap.lt_size e
          refine mv.heap b o ?_ (Heap.get?_push_of_some _ (Heap.get?_push_of_some _ e))
          simp only [List.mem_cons, List.not_mem_nil, or_false, not_or]
          exact ⟨Nat.ne_of_lt lb, by rw [sz]; exact Nat.ne_of_lt (Nat.lt_succ_of_lt lb)⟩
      · cases r2 with
        | error e => exact hr2
        | ok fl2 =>
          cases fl2 with
          | ret r =>
            obtain ⟨rfl, h', tk, rfl, R2, k2⟩ := hr2
            repeat (any_goals (first | assumption | wp_step))
            exact h _ _ R2 k2
          | _ => exact hr2.elim
    | _ => exact hr.elim
end
end DV
end
section
set_option Elab.async false
set_option linter.all false
set_option maxRecDepth 100000
namespace DV
open PySem PySem.Spec PyProof.Rows L2
/-! ### sorted(set(l)), l a list of strs -/
def ltS (x y : Str) : Bool := ltCps x.cps.toList y.cps.toList
def insS (x : Str) : List Str → List Str
  | [] => [x]
  | y :: r => if ltS x y = true then x :: y :: r else if ltS y x = true then y :: insS x r else y :: r
def sset (xs : List Str) : List Str := xs.foldr insS []
theorem ltS_iff {x y : Str} : ltS x y = true ↔ x.cps.toList < y.cps.toList := by unfold ltS; rw [ltCps_eq, decide_eq_true_eq]
theorem str_eq {x y : Str} (h : x.cps.toList = y.cps.toList) : x = y := PySem.W.str_of_cps h
theorem ltS_irr (x : Str) : ltS x x = false := by
  rw [Bool.eq_false_iff]
  exact fun h => List.lt_irrefl _ (ltS_iff.mp h)
theorem ltS_trans {x y z : Str} (a : ltS x y = true) (b : ltS y z = true) : ltS x z = true := ltS_iff.mpr (List.lt_trans (ltS_iff.mp a) (ltS_iff.mp b))
theorem ltS_asym {x y : Str} (a : ltS x y = true) : ltS y x = false := by
  rw [Bool.eq_false_iff]
  exact fun b => List.lt_irrefl _ (List.lt_trans (ltS_iff.mp a) (ltS_iff.mp b))
theorem ltS_tri {x y : Str} (a : ltS x y = false) (b : ltS y x = false) : x = y := by
  have h1 : ¬ x.cps.toList < y.cps.toList := fun h => by rw [ltS_iff.mpr h] at a; cases a
  have h2 : ¬ y.cps.toList < x.cps.toList := fun h => by rw [ltS_iff.mpr h] at b; cases b
  exact str_eq (List.le_antisymm h2 h1)
/-- strictly rising -/
abbrev Up (l : List Str) : Prop := l.Pairwise fun x y => ltS x y = true
theorem mem_insS (x z : Str) : ∀ l : List Str, z ∈ insS x l ↔ z = x ∨ z ∈ l
  | [] => by simp [insS]
  | y :: r => by
    unfold insS
    split
    · simp
    · split
      · rw [List.mem_cons, mem_insS x z r, List.mem_cons]
        exact ⟨fun h => h.elim (fun h => .inr (.inl h)) fun h => h.imp id .inr, fun h => h.elim (fun h => .inr (.inl h)) fun h => h.imp id .inr⟩
      · rename_i h1 h2
        have e : x = y := ltS_tri (by simpa using h1) (by simpa using h2)
        subst e
        simp
theorem up_insS (x : Str) : ∀ l : List Str, Up l → Up (insS x l)
  | [], _ => by simp [insS, Up]
  | y :: r, h => by
    obtain ⟨h1, h2⟩ := List.pairwise_cons.mp h
    unfold insS
    split
    · rename_i c
      refine List.pairwise_cons.mpr ⟨fun z hz => ?_, h⟩
      rcases List.mem_cons.mp hz with e | hz
      · rw [e]; exact c
      · exact ltS_trans c (h1 z hz)
    · split
      · rename_i c
        refine List.pairwise_cons.mpr ⟨fun z hz => ?_, up_insS x r h2⟩
        rcases (mem_insS x z r).mp hz with e | hz
        · rw [e]; exact c
        · exact h1 z hz
      · exact h
theorem mem_sset (z : Str) : ∀ xs : List Str, z ∈ sset xs ↔ z ∈ xs
  | [] => by simp [sset]
  | x :: r => by
    show z ∈ insS x (sset r) ↔ _
    rw [mem_insS, mem_sset z r, List.mem_cons]
theorem up_sset : ∀ xs : List Str, Up (sset xs)
  | [] => List.Pairwise.nil
  | x :: r => up_insS x _ (up_sset r)
theorem up_eq : ∀ {a b : List Str}, Up a → Up b → (∀ z, z ∈ a ↔ z ∈ b) → a = b
  | [], [], _, _, _ => rfl
  | [], y :: b, _, _, h => absurd ((h y).mpr (List.mem_cons_self ..)) (by simp)
  | x :: a, [], _, _, h => absurd ((h x).mp (List.mem_cons_self ..)) (by simp)
  | x :: a, y :: b, ha, hb, h => by
    obtain ⟨a1, a2⟩ := List.pairwise_cons.mp ha
    obtain ⟨b1, b2⟩ := List.pairwise_cons.mp hb
    have e : x = y := by
      rcases List.mem_cons.mp ((h x).mp (List.mem_cons_self ..)) with e | hx
      · exact e
      · rcases List.mem_cons.mp ((h y).mpr (List.mem_cons_self ..)) with e | hy
        · exact e.symm
        · have := ltS_asym (b1 x hx)
          rw [a1 y hy] at this; cases this
    subst e
    rw [up_eq a2 b2 fun z => ?_]
    constructor
    · intro hz
      rcases List.mem_cons.mp ((h z).mp (List.mem_cons_of_mem _ hz)) with e | hz'
      · subst e
        have := a1 z hz
        rw [ltS_irr] at this; cases this
      · exact hz'
    · intro hz
      rcases List.mem_cons.mp ((h z).mpr (List.mem_cons_of_mem _ hz)) with e | hz'
      · subst e
        have := b1 z hz
        rw [ltS_irr] at this; cases this
      · exact hz'
theorem rising_up : ∀ (p : Str) (l : List Str), risingS p l = true → (p :: l).Nodup → Up (p :: l)
  | p, [], _, _ => by simp [Up]
  | p, x :: r, h, n => by
    have h' : (!ltCps x.cps.toList p.cps.toList && risingS x r) = true := h
    rw [Bool.and_eq_true, Bool.not_eq_true'] at h'
    obtain ⟨n1, n2⟩ := List.nodup_cons.mp n
    have u := rising_up x r h'.2 n2
    have lt : ltS p x = true := by
      cases c : ltS p x with
      | true => rfl
      | false => exact absurd (ltS_tri c h'.1) (fun e => n1 (e ▸ List.mem_cons_self ..))
    refine List.pairwise_cons.mpr ⟨fun z hz => ?_, u⟩
    rcases List.mem_cons.mp hz with e | hz
    · rw [e]; exact lt
    · exact ltS_trans lt ((List.pairwise_cons.mp u).1 z hz)
theorem sorted_up : ∀ {l : List Str}, sortedS l = true → l.Nodup → Up l
  | [], _, _ => List.Pairwise.nil
  | x :: r, h, n => rising_up x r h n
def keyS : L2.Key → Str
  | .inr x => x
  | .inl _ => ⟨#[]⟩
section
variable {P : Program} {w : World} {A : Around} {E : Value → Shared → Prop} {s : Shared} {a : Addr} {n : Nat}
theorem strs_each : ∀ (vs : List Value) (xs : List Str), All2 (fun v x => ∃ t, v = Value.str x t) vs xs → StrsAre vs xs
  | _, _, .nil => .nil
  | _, _, .cons h t => by
    obtain ⟨u, rfl⟩ := h
    exact .cons _ u (strs_each _ _ t)
theorem strs_of_good {l : List (Int × Value)} {xs : List Str} (g : ∀ e ∈ l, GoodK w e) (m : ∀ e ∈ l, ∃ x, keyE e = .inr x) : StrsAre (l.map (·.2)) (l.map fun e => keyS (keyE e)) := by
  induction l with
  | nil => exact .nil
  | cons e r ih =>
    obtain ⟨x, hx⟩ := m e (List.mem_cons_self ..)
    obtain ⟨g1, _⟩ := g e (List.mem_cons_self ..)
    rw [hx] at g1
    obtain ⟨t, ht⟩ := g1
    rw [List.map_cons, List.map_cons, ht, hx]
    exact .cons x t (ih (fun e he => g e (List.mem_cons_of_mem _ he)) fun e he => m e (List.mem_cons_of_mem _ he))
/-- sorted(s), s a set of strs -/
theorem setM_sorted {xs : List Str} {Q : Value → Shared → Prop} (R : SetM w s.heap a (xs.map Sum.inr) n) (hh : A.handled = none) (h64 : n < 64)
    (hQ : ∀ s' p (out : Array Value) (c : Nat), (∀ b o, s.heap.get? b = some o → s'.heap.get? b = some o) → s'.gens = s.gens → s'.os = s.os → s.heap.objs.size ≤ p → s'.heap.get? p = some (seqObj "list" out c) → StrsAre out.toList (sset xs) → Q (.ref p) s') :
    wpAny (model P w) A (call (.builtin "sorted") [.ref a]) Q E s := by
  obtain ⟨o, es, ep, t, ho, hex, hd, ⟨g, nd, hm⟩, ⟨hb, hn⟩, ⟨hf, hr⟩, hl⟩ := R
  have isStr : ∀ e ∈ es.toList, ∃ x, keyE e = .inr x := fun e he => by
    obtain ⟨x, _, e2⟩ := List.mem_map.mp ((hm (keyE e)).mp (List.mem_map.mpr ⟨e, he, rfl⟩))
    exact ⟨x, e2.symm⟩
  refine Calls.call_function_entry kind_sorted plain_sorted entry_sorted (args_sorted1 _) ?_
  unfold Builtin.«sorted»
  refine wpAny_bind (m := checkCount "sorted" 1 1 _) (wpAny_pure ?_)
  refine wpAny_bind (collect_set (A := A.in1) hh ⟨o, ho, hex.1, hd⟩ hf hb hr hl fun s1 vs k1 hz g1 o1 pm => ?_)
  have S0 := strs_of_good (xs := xs) g isStr
  have S1 : ∃ zs, StrsAre vs zs ∧ zs.Perm (es.toList.map fun e => keyS (keyE e)) := by
    have hall : ∀ v ∈ vs, ∃ x t, v = Value.str x t := fun v hv => by
      obtain ⟨e, he, q⟩ := List.mem_map.mp (pm.mem_iff.mp hv)
      obtain ⟨x, hx⟩ := isStr e he
      obtain ⟨g2, _⟩ := g e he
      rw [hx] at g2
      obtain ⟨u, hu⟩ := g2
      exact ⟨x, u, q ▸ hu⟩
    have each : ∀ l : List Value, (∀ v ∈ l, ∃ x t, v = Value.str x t) → StrsAre l (l.map strOf) := fun l => by
      induction l with
      | nil => exact fun _ => .nil
      | cons v r ih =>
        intro h
        obtain ⟨x, t, rfl⟩ := h v (List.mem_cons_self ..)
        exact .cons x t (ih fun u hu => h u (List.mem_cons_of_mem _ hu))
    refine ⟨vs.map strOf, each vs hall, ?_⟩
    have q := pm.map strOf
    rw [List.map_map] at q
    refine q.trans (List.Perm.of_eq (List.map_congr_left fun e he => ?_))
    obtain ⟨x, hx⟩ := isStr e he
    obtain ⟨g2, _⟩ := g e he
    rw [hx] at g2 ⊢
    obtain ⟨u, hu⟩ := g2
    show strOf e.2 = keyS (.inr x)
    rw [hu]; rfl
  obtain ⟨zs, S1, pz⟩ := S1
  have hvl : vs.length ≤ n := by
    have := pm.length_eq
    rw [List.length_map] at this
    rw [this, Array.length_toList]
    exact hn
  refine wpAny_bind (wpAny_newList ?_ (by rw [sizeLine_eq]; omega))
  have oL : (s1.heap.push (seqObj "list" vs.toArray 0)).get? s1.heap.objs.size = some (seqObj "list" vs.toArray 0) := Heap.get?_push_size _ rfl
  refine wpAny_bind (wpAny_holding (wpAny_call_entry PyProof.Rows.slot_list_sort ⟨_, oL, rfl⟩ PyProof.Rows.entry_list_sort
    (list_sort_treeK strKind_oneLt (s := { s1 with heap := s1.heap.push (seqObj "list" vs.toArray 0) }) oL S1.keysOf (fun v₁ v₂ rest e => keyKind_strs (by rw [← e]; exact S1)) (by omega) fun st' hp hs => ⟨_, rfl, ?_⟩) (PyProof.Rows.args_list_sort _)))
  obtain ⟨ys, y1, y2, y3⟩ := sorted_out_str S1 hp hs
  obtain ⟨c, hc⟩ := PyProof.Rows.sortedHeap_at (vs := vs) (out := (arrOf st').map (·.2)) oL
  have py := y2.trans pz
  have ndS : (es.toList.map fun e => keyS (keyE e)).Nodup := by
    have e2 : es.toList.map keyE = (es.toList.map fun e => keyS (keyE e)).map Sum.inr := by
      rw [List.map_map]
      refine List.map_congr_left fun e he => ?_
      obtain ⟨x, hx⟩ := isStr e he
      show keyE e = Sum.inr (keyS (keyE e))
      rw [hx]; rfl
    rw [e2] at nd
    exact List.Pairwise.of_map _ (fun _ _ hne e => hne (congrArg _ e)) nd
  have ey : ys = sset xs := by
    refine up_eq (sorted_up y3 (py.nodup_iff.mpr ndS)) (up_sset xs) fun z => ?_
    rw [py.mem_iff, mem_sset]
    constructor
    · intro h
      obtain ⟨e, he, q⟩ := List.mem_map.mp h
      obtain ⟨x, hx, e3⟩ := List.mem_map.mp ((hm (keyE e)).mp (List.mem_map.mpr ⟨e, he, rfl⟩))
      rw [← q, ← e3]; exact hx
    · intro h
      obtain ⟨e, he, q⟩ := List.mem_map.mp ((hm (.inr z)).mpr (List.mem_map.mpr ⟨z, h, rfl⟩))
      exact List.mem_map.mpr ⟨e, he, by rw [q]; rfl⟩
  rw [ey] at y1
  refine wpAny_pure ⟨_, rfl, hQ _ s1.heap.objs.size _ c (fun b u e => ?_) g1 o1 hz hc y1⟩
  have q := k1 b u e
  have lt := Heap.lt_size q
  show (sortedHeap (s1.heap.push (seqObj "list" vs.toArray 0)) s1.heap.objs.size vs ((arrOf st').map (·.2))).get? b = some u
  rw [PyProof.Rows.sortedHeap_old (Nat.ne_of_lt lt) (by rw [size_push']; exact Nat.lt_succ_of_lt lt)]
  exact Heap.get?_push_of_some _ q
end
/-- the set as an object -/
def SetMO (w : World) (a : Addr) (S : List L2.Key) (n : Nat) : HO := .ext fun h => SetM w h a S n
section
variable {X : Cx} {K : PySem.W.Frag}
theorem setMO_new {P : Program} {w : World} {H : Hp} {h : Heap} {a : Addr} {S : List L2.Key} {n : Nat} (R : SetM w h a S n) : ObjOk P w H h a (SetMO w a S n) :=
  let ⟨o, _, _, _, ho, _⟩ := R
  ⟨R, ⟨o, ho⟩, fun _ _ p k => p.at k⟩
def rSetOf (K : PySem.W.Frag) (w : World) : List V → Hp → VK → Prop := fun vs H Q => ∃ (a : Addr) (xs : List Str), vs = [.ref a] ∧ SqL K H a (xs.map V.str) ∧ xs.length < 63 ∧ ∀ p, H p = none → Q (.ref p) (upd H p (SetMO w p (xs.map Sum.inr) xs.length))
theorem cr_setOf (hc : X.calm = true) : CallR X (.type "set") (rSetOf X.K X.w) := by
  intro pins s σ H vs us Q I r h
  obtain ⟨a, xs, rfl, sq, hl, q⟩ := h
  obtain ⟨u, rfl, rx⟩ := vals1 r
  cases rx
  obtain ⟨its, rv, pl, hz⟩ := I.list sq
  have hlen := rv.length
  rw [List.length_map] at hlen
  refine setM_of (xs.map Sum.inr) (I.ok.hd hc) pl.isList (by simp [hlen]) (fun i v hv => ?_) (by rw [List.length_map]; exact Nat.lt_of_lt_of_le (Nat.succ_lt_succ hl) (by decide)) fun h' tk R k => ?_
  · have hvi : its[i]? = some v := by rw [← Array.getElem?_toList] at hv; exact hv
    have hi : i < xs.length := by rw [hlen]; exact (List.getElem?_eq_some_iff.mp hvi).1
    have hx : (xs.map V.str)[i]? = some (.str xs[i]) := by rw [List.getElem?_map, List.getElem?_eq_getElem hi]; rfl
    obtain ⟨v', hv', rw'⟩ := rv.get hx
    rw [hvi] at hv'
    cases hv'
    exact ⟨.inr xs[i], by rw [List.getElem?_map, List.getElem?_eq_getElem hi]; rfl, rw'⟩
  · rw [List.length_map] at R
    exact ⟨.ref _, upd H s.heap.objs.size (SetMO X.w s.heap.objs.size (xs.map Sum.inr) xs.length), I.laid (t' := tk) k (Nat.le_refl _) (setMO_new R), rfl, q _ (I.hok.fresh (Nat.le_refl _))⟩
def rSorM (w : World) : List V → Hp → VK → Prop := fun vs H Q => ∃ (a : Addr) (xs : List Str) (n : Nat), vs = [.ref a] ∧ H a = some (SetMO w a (xs.map Sum.inr) n) ∧ n < 64 ∧ (sset xs).length ≤ sizeLine ∧ ∀ p, H p = none → Q (.ref p) (upd H p (.lst ((sset xs).map V.str)))
theorem cr_sorM (hc : X.calm = true) : CallR X (.builtin "sorted") (rSorM X.w) := by
  intro pins s σ H vs us Q I r h
  obtain ⟨a, xs, n, rfl, ha, hn, hz, q⟩ := h
  obtain ⟨u, rfl, rx⟩ := vals1 r
  cases rx
  obtain ⟨R, _, _⟩ := I.hok a _ ha
  refine setM_sorted R (I.ok.hd hc) hn fun s' p out c k g o le hp hS => ?_
  have hn0 : H p = none := I.hok.fresh le
  have es : s' = { s with heap := s'.heap, gens := s'.gens, drawn := s'.drawn, toks := s'.toks } := by
    cases s'; cases s; cases o; rfl
  have J : Inv X pins σ (upd H p (.lst ((sset xs).map V.str))) { s with heap := s'.heap, gens := s'.gens, drawn := s'.drawn, toks := s'.toks } :=
    I.call (ch := []) (Un.laid k le hn0) (I.hok.laid k le ⟨by rw [List.length_map]; exact hz, out.toList, c, vals_of_strs hS, by rw [Array.toArray_toList]; exact hp⟩) (by rw [g]; exact I.bare) fun _ z => nomatch z
  rw [es]
  exact ⟨.ref p, _, J, rfl, q p hn0⟩
def strL : List D → Option (List Str)
  | [] => some []
  | .str b :: r => (strL r).map (b :: ·)
  | _ => none
theorem strL_eq : ∀ {ds : List D} {bs : List Str}, strL ds = some bs → ds = bs.map .str
  | [], bs, h => by cases h; rfl
  | .str b :: r, bs, h => by
    obtain ⟨cs, hc, rfl⟩ := Option.map_eq_some_iff.mp (show (strL r).map (b :: ·) = some bs from h)
    rw [List.map_cons, ← strL_eq hc]
  | .none :: r, bs, h => by cases h
  | .int _ :: r, bs, h => by cases h
  | .bool _ :: r, bs, h => by cases h
  | .list _ :: r, bs, h => by cases h
  | .tuple _ :: r, bs, h => by cases h
  | .dict _ :: r, bs, h => by cases h
theorem len_insS (x : Str) : ∀ l : List Str, (insS x l).length ≤ l.length + 1
  | [] => Nat.le_refl _
  | y :: r => by
    unfold insS
    split
    · exact Nat.le_refl _
    · split
      · have := len_insS x r
        simp only [List.length_cons]
        omega
      · exact Nat.le_succ _
theorem len_sset : ∀ xs : List Str, (sset xs).length ≤ xs.length
  | [] => Nat.le_refl _
  | x :: r => by
    have := len_insS x (sset r)
    have h2 := len_sset r
    show (insS x (sset r)).length ≤ _
    simp only [List.length_cons]
    omega
theorem rp_strs {H : Hp} {O : Addr → Prop} : ∀ xs : List Str, RpL K H O (xs.map V.str) (xs.map .str)
  | [] => .nil
  | x :: r => .cons (.str x) (rp_strs r)
def ssetG (d : D) : Option Rs := match d with
  | .list ds => (strL ds).bind fun xs => if xs.length < 63 then some (.fr (.list ((sset xs).map .str))) else none
  | _ => none
theorem de_sset {f : M Rs} {p p2 pos pos2 : Pos} {e : Expr} (he : PE X e (tE X.K f)) (hm : X.mg "sorted" = none) (hm2 : X.mg "set" = none) (hg : Gl X "sorted" := by rfl) (hg2 : Gl X "set" := by rfl) (hc : X.calm = true := by rfl)
    (h1 : starEach [e] X.env = (false, eval e X.env) :: starEach [] X.env := by rfl) (h2 : starEach [.Call (.Name "set" p2) [e] [] pos2] X.env = (false, eval (.Call (.Name "set" p2) [e] [] pos2) X.env) :: starEach [] X.env := by rfl)
    (h3 : (backTo pos2 (starEach [] X.env)).any (·.1) = false := by rfl) (h4 : (backTo pos (starEach [] X.env)).any (·.1) = false := by rfl) : PE X (.Call (.Name "sorted" p) [.Call (.Name "set" p2) [e] [] pos2] [] pos) (tE X.K (op1 ssetG f)) :=
  PE.weak (pe_callB (cr_sorM hc) hg hm boot_sorted (pa_cons (pe_callTy (cr_setOf hc) hg2 hm2 boot_set (pa_cons he pa_nil h1) (by decide) (by decide) h1 h3) pa_nil h2) (by decide) (by decide) h2 h4) (by
  rintro σ H Q ⟨γ, e, Z, res, e', R, h, k⟩
  obtain ⟨ra, e1, h1, ha⟩ := bnd_eq h
  obtain ⟨d, e2, h2, hb⟩ := bnd_eq ha
  obtain ⟨q1, rfl⟩ := rdM_eq h2
  obtain ⟨q2, rfl⟩ := opt_eq hb
  refine ⟨γ, e, Z, ra, e', R, h1, fun x H1 kp sh P => ?_⟩
  obtain ⟨Z1, h01, hf, R1, A1⟩ := P.one
  unfold ssetG at q2
  split at q2
  · obtain ⟨xs, hx, q3⟩ := Option.bind_eq_some_iff.mp q2
    split at q3
    · rename_i hl
      cases q3
      have := strL_eq hx
      subst this
      obtain ⟨a, vs, rfl, sq, r⟩ := (A1.rd R1 q1).lst
      have := r.strs
      subst this
      refine ⟨a, xs, rfl, sq, hl, fun p1 hp1 => ?_⟩
      refine ⟨p1, xs, xs.length, rfl, upd_same, by omega, by have := len_sset xs; rw [sizeLine_eq]; omega, fun p2 hp2 => ?_⟩
      obtain ⟨kp2, P2⟩ := (Gr.lst (K := X.K) (O := Hid γ e'.ρ σ Z1) (same_upd hp1) hp2 (rp_strs (sset xs))).pst R1
      exact k _ _ (kp.trans sh kp2) sh (Pst.next (rs0 := []) (xs0 := []) kp h01 hf P2)
    · cases q3
  · cases q2)
end
end DV
end
section
set_option Elab.async false
set_option linter.all false
set_option maxRecDepth 100000
namespace DV
open PySem PySem.Spec PyProof.Rows L2
/-! ### the law itself, called by the judge: there no repr is under way -/
/-- a def of one parameter, called from without -/
def LawOk (P : Program) (w : World) (K : PySem.W.Frag) (mg : Str → Option Value) (base : Heap) (fa : Addr) (fd : FuncData) (x : Str) (F : Fn) : Prop :=
  ∀ (s : Shared) (H : Hp) (u : Value) (v : V) (Q : VK), Env0 P w K mg base callerA [] s H → BindsTo s fd ⟨[u], []⟩ [(x, u)] → RelV v u → spD K 1 F [v] H Q (fun _ _ _ => False) →
    codeAny (model P w) callerA (.call (.ref fa) ⟨[u], []⟩) (fun r s' => ∃ y, r = .ok (.ret y) ∧ CE [] P w H s Q y s') s
theorem law_ok {P : Program} {w : World} {K : PySem.W.Frag} {mg : Str → Option Value} {base : Heap} {x p : Str} {st : Stmt} {f : Addr} {fd : FuncData} {N : List Str} {k : Nat} {body : M Fl} (F : FnP K x st f fd) (S : FnScope N [p] (defScope st)) (hr : Room (k + 1) callerA)
    (h : ∀ (cdv : Value) (s : Shared) (H : Hp) (E : XK), Room k (callerA.deeper (envOfC x (defScope st) s.heap.objs.size f cdv)) → PSs (cxOf CX0 P w K mg base N x (defScope st) f cdv callerA [] s H E).nox (defBody st) (tS K body)) : LawOk P w K mg base f fd p (fnOf 1 N.length body) := by
  obtain ⟨oc, od, dV, kV, doc, pm, an, cdv, ct, osl, rfl, lk, hcd, _, _⟩ := F.ex
  intro s H u v Q e0 hb r hsp
  have KS : K.In s.heap := e0.mod.kin.keeps fun b o e => (e0.bs b o e).1
  have lim : s.heap.NoLimit := e0.mod.nolimit.keeps fun b o e => (e0.bs b o e).1
  have kinds : ∀ y ∈ [(p, u)], (defScope st).names.lookup y.1 = some .local ∨ ((defScope st).names.lookup y.1 = some .cell ∧ ((cellsFrom (s.heap.objs.size + 1) (defScope st).names []).lookup y.1).isSome = true) := fun y hy => by
    obtain rfl : y = (p, u) := List.mem_singleton.mp hy
    exact (S.par p (List.mem_singleton.mpr rfl)).imp id fun q => ⟨q, PySem.W.cellsFrom_some _ _ _ (.inl q)⟩
  refine codeAny_call_function hr.depth (KS _ _ lk) rfl S.co S.gen rfl (PySem.W.codeRec_of KS hcd) (hb _ _ _ _ (wpAny_newFunctionEnv_cells S.kind kinds fun env he s1 y => ?_))
  subst he
  refine ⟨lim.keeps y.toInCall.keep, codeAny_func ?_⟩
  have I : Inv (cxOf CX0 P w K mg base N x (defScope st) f cdv callerA [] s H fun _ _ _ => False) [] (start N [v]) H s1 := inv_start S hr.hd e0 rfl (.cons r .nil) y
  refine wpAny_mono ((h cdv s H (fun _ _ _ => False) (hr.deeper _)).run [] s1 (start N [v]) H _ (I.wish _) (fn_body hsp)) (fun fl s' hs0 => ?_) fun e s' hs => False.elim hs
  have hs := hs0.unwish
  cases fl with
  | ret y => obtain ⟨w', σ', H', J, rv, q⟩ := hs; exact ⟨y, rfl, w', H', J.os, J.bare, J.base, J.hok, rv, q⟩
  | next => obtain ⟨σ', H', J, q⟩ := hs; exact ⟨.none, rfl, .non, H', J.os, J.bare, J.base, J.hok, rfl, q⟩
  | brk => obtain ⟨_, _, _, q⟩ := hs; exact False.elim q
  | cont => obtain ⟨_, _, _, q⟩ := hs; exact False.elim q

theorem law_end {P : Program} {w : World} {K : PySem.W.Frag} {mg mb : Str → Option Value} {fa a : Addr} {fd : FuncData} {x : Str} {F : Fn} {s1 : Shared} {vs : List Value} {ns : List Int}
    (KX : K.In s1.heap) (hns : s1.heap.Ns mainGlobals mg) (hb : s1.heap.Ns builtinsNs mb) (hbb : ∀ x : Str, x ≠ "__name__" → mb x = bootBuiltins x) (hlim : s1.heap.NoLimit) (hg : s1.gens = #[])
    (ha : s1.heap.get? a = some { cls := .type "list", data := .seq vs.toArray }) (hi : IntsAre vs ns) (hl : ns.length ≤ sizeLine) (G : ∀ base : Heap, K.In base → base.Ns mainGlobals mg → LawOk P w K mg base fa fd x F)
    (hbind : ∀ (s : Shared) (u : Value), BindsTo s fd ⟨[u], []⟩ [(x, u)]) (hF : F [.fz (.list (ns.map .int))] [] = some (.fz (.bool true), [])) :
    codeAny (model P w) callerA (.call (.ref fa) ⟨[.ref a], []⟩) (fun r s' => r = .ok (.ret (.bool true)) ∧ OldK s1.heap s'.heap ∧ s'.os = s1.os ∧ AllBare s'.gens) s1 := by
  have rv := vals_ints hi
  have lenV := hi.length
  -- the script tracked (or one of the module's own)
  have main : ∀ H : Hp, Only H → SqL K H a (ns.map V.int) → HOk P w H s1.heap → (∀ b, H b ≠ none → b = a) → (H a ≠ none → K.lookup a = none) →
      codeAny (model P w) callerA (.call (.ref fa) ⟨[.ref a], []⟩) (fun r s' => r = .ok (.ret (.bool true)) ∧ OldK s1.heap s'.heap ∧ s'.os = s1.os ∧ AllBare s'.gens) s1 := by
    intro H only sq hok hA hK
    have free : ∀ {b : Addr}, b ≠ a → H b = none := fun {b} n => by
      cases q : H b with
      | none => rfl
      | some u => exact absurd (hA b (by rw [q]; simp)) n
    have inB : ∀ {b : Addr} {o : Obj}, s1.heap.get? b = some o → H b = none → (hidT s1.heap H).get? b = some o := fun e n => hidT_get e n
    have nsB : ∀ {b : Addr} {m : Str → Option Value}, s1.heap.Ns b m → (hidT s1.heap H).Ns b m := fun {b m} ⟨o, es, ep, e, d, r⟩ => by
      refine ⟨o, es, ep, inB e (free fun z => ?_), d, r⟩
      rw [z, ha] at e
      cases e
      cases d
    have kB : K.In (hidT s1.heap H) := fun b o e => inB (KX b o e) (by
      cases q : H b with
      | none => rfl
      | some u =>
        have z := hA b (by rw [q]; simp)
        rw [z] at e q
        rw [hK (by rw [q]; simp)] at e
        cases e)
    have md : Mod K mg (hidT s1.heap H) := ⟨kB, nsB hns, ⟨mb, nsB hb, hbb⟩, let ⟨mc, h1, h2⟩ := hlim; ⟨mc, nsB h1, h2⟩⟩
    have en : Env0 P w K mg (hidT s1.heap H) callerA [] s1 H := ⟨rfl, md, fun b o e => of_hidT e, Nat.le_of_eq (hidT_size _ _), trivial, fun b z => absurd (show b ∈ ([] : List Addr) from z) (by simp), hok, .of_eq hg⟩
    have lo : SqLo K H (fun _ => False) a (ns.map V.int) := sq.imp (fun q => ⟨q, id⟩) id
    have rpI : ∀ l : List Int, RpL K H (Hid [] [some (Sl.fz (.list (ns.map .int)))] [some (.ref a)] fun _ => False) (l.map V.int) (l.map .int) := fun l => by
      induction l with
      | nil => exact .nil
      | cons i r ih => exact .cons (.int i) ih
    have nh : ∀ b, ¬ Hid [] [some (Sl.fz (.list (ns.map .int)))] [some (.ref a)] (fun _ => False) b := fun b z => by
      rcases z with ⟨i, s, h1, m, _⟩ | z | z
      · cases i with
        | zero => simp at h1; subst h1; cases m
        | succ i => simp at h1
      · simp at z
      · exact z
    have R0 : Rep K [] ⟨[some (Sl.fz (.list (ns.map .int)))], []⟩ [some (.ref a)] H fun _ => False := by
      refine ⟨rfl, fun i s h => ?_, fun i s b h m => ?_, fun i d b h => ?_, rfl, List.nodup_nil, fun k b x y h => by simp at h, fun b hb => by simp at hb, fun b z => z.elim⟩
      · cases i with
        | zero =>
          simp at h
          subst h
          exact ⟨_, rfl, .lst (sq.imp (fun q => ⟨q, nh a⟩) id) (rpI ns)⟩
        | succ i => simp at h
      · cases i with
        | zero => simp at h; subst h; cases m
        | succ i => simp at h
      · cases i with
        | zero => simp at h
        | succ i => simp at h
    refine codeAny_mono (G _ kB (nsB hns) s1 H (.ref a) (.ref a) (fun v _ => v = .bl true) en (hbind s1 (.ref a)) rfl ⟨[], [.fz (.list (ns.map .int))], [], fun _ => False, .fz (.bool true), [], R0, rfl, rfl, hF, fun v H' kp P2 => ?_⟩) fun r s' h => ?_
    · obtain ⟨Z1, _, _, _, A1⟩ := P2.one
      cases A1
      rfl
    · obtain ⟨y, rfl, v, H', os, bare, un, hok', ry, q⟩ := h
      subst q
      obtain rfl : y = Value.bool true := ry
      refine ⟨rfl, OldK.of_keep fun b o e => ?_, os, bare⟩
      cases q : H b with
      | none => exact un.keep b o e q (by intro z; exact absurd (show b ∈ ([] : List Addr) from z) (by simp)) (by simp)
      | some t =>
        rcases only b with z | ⟨ob, zs, z⟩
        · rw [q] at z; cases z
        · obtain ⟨e1, _⟩ := hok b _ z
          obtain ⟨e2, _⟩ := hok' b _ (un.frzs b ob _ z)
          rw [e] at e1
          cases e1
          exact e2
  cases hk : K.lookup a with
  | some o =>
    have e := KX a o hk
    rw [ha] at e
    cases e
    exact main (fun _ => none) (fun _ => .inl rfl) (.inr ⟨_, vs.toArray, _, hk, rfl, rfl, rfl, by rw [List.size_toArray, lenV]; exact hl, by simpa using rv⟩) (fun b u z => by cases z) (fun b z => absurd rfl z) fun z => absurd rfl z
  | none =>
    let H0 : Hp := fun b => if b = a then some (.frz { cls := .type "list", data := .seq vs.toArray } (.lst (ns.map V.int))) else none
    have at0 : H0 a = some (.frz { cls := .type "list", data := .seq vs.toArray } (.lst (ns.map V.int))) := if_pos rfl
    have off : ∀ {b : Addr}, b ≠ a → H0 b = none := fun n => if_neg n
    refine main H0 (fun b => ?_) (.inl (.inr ⟨_, at0⟩)) (fun b u z => ?_) (fun b z => ?_) fun _ => hk
    · by_cases n : b = a
      · rw [n]; exact .inr ⟨_, _, at0⟩
      · exact .inl (off n)
    · by_cases n : b = a
      · subst n
        rw [at0] at z
        cases z
        exact ⟨ha, by rw [List.length_map]; exact hl, vs, _, rv, ha⟩
      · rw [off n] at z; cases z
    · by_cases n : b = a
      · exact n
      · exact absurd (off n) z
/-- a law of one def, over a head by facts -/
theorem law_walk {l : PySem.W.OpenLaw} {n : Nat} {q : Program} {loose : List Str} {XP : (Str → Option Value) → Heap → Prop} {YP : World → Heap → Prop} {d : DefRec} {x : Str} (hn : l.most = some n) (hn2 : n ≤ sizeLine) (hdf : d.params.defaults = [])
    (F : ∀ (w : World) (mg : Str → Option Value) (fa : Addr) (h : Heap), YP w h → h.Ns mainGlobals mg → mg d.name = some (.ref fa) → ∃ (K : PySem.W.Frag) (fd : FuncData) (F : Fn), K.In h ∧ (∀ (s : Shared) (u : Value), BindsTo s fd ⟨[u], []⟩ [(x, u)]) ∧
        (∀ ns : List Int, ns.length ≤ n → F [.fz (.list (ns.map .int))] [] = some (.fz (.bool true), [])) ∧ ∀ base : Heap, K.In base → base.Ns mainGlobals mg → LawOk l.prog w K mg base fa fd x F) :
    PySem.W.WalkO q loose XP YP l.row.toRowW d [] (fun f vs => PySem.call f vs) := by
  refine Att.attach_call hn hdf fun w s₀ s₁ mg mb fa o pm cd doc a vs ns G Y ho hd hcd hmg hobj hints hlen hg => ?_
  obtain ⟨K, fd, F0, KX, hb, hsp, hF⟩ := F w mg fa _ Y G.T.g hmg
  exact law_end KX G.T.g G.T.b G.T.builtins G.T.nolimit hg hobj hints (Nat.le_trans hlen hn2) hF hb (hsp ns hlen)
end DV
end
section
set_option Elab.async false
set_option linter.all false
set_option maxRecDepth 100000
namespace DV
open PySem PySem.Spec PyProof.Rows L2
section
variable {X : Cx} {K : PySem.W.Frag} {a b c : Expr} {pos : Pos}
/-! ### a op b op c -/
def chnM (g g' : D → D → Option Rs) (fa fb fc : M Rs) : M Rs := bnd fa fun x => bnd fb fun y => bnd (rdM x) fun dx => bnd (rdM y) fun dy => bnd (opt (g dx dy)) fun r => bnd (tst1 r) fun t =>
  if t = true then bnd fc fun z => bnd (rdM y) fun dy => bnd (rdM z) fun dz => opt (g' dy dz) else ret (.fz (.bool false))
theorem tE_chn {r r' : R2} {g g' : D → D → Option Rs} {fa fb fc : M Rs} (o : Op2 K r g) (o' : Op2 K r' g') : ∀ σ H Q, tE K (chnM g g' fa fb fc) σ H Q → tChain r r' (tE K fa) (tE K fb) (tE K fc) σ H Q := by
  rintro σ H Q ⟨γ, e, Z, res, e', R, h, k⟩
  obtain ⟨x, e1, h1, h2⟩ := bnd_eq h
  obtain ⟨y, e2, h3, h4⟩ := bnd_eq h2
  obtain ⟨dx, e3, h5, h6⟩ := bnd_eq h4
  obtain ⟨dy, e4, h7, h8⟩ := bnd_eq h6
  obtain ⟨r1, e5, h9, h10⟩ := bnd_eq h8
  obtain ⟨t, e6, h11, h12⟩ := bnd_eq h10
  obtain ⟨q5, rfl⟩ := rdM_eq h5
  obtain ⟨q7, rfl⟩ := rdM_eq h7
  obtain ⟨q9, rfl⟩ := opt_eq h9
  obtain ⟨rfl, rfl⟩ := tst1_eq h11
  refine ⟨γ, e, Z, x, e1, R, h1, fun v H1 kp sh P => ?_⟩
  obtain ⟨Z1, h01, hf, R1, A1⟩ := P.one
  refine ⟨γ, e1, Z1, y, e6, R1, h3, fun w H2 kp2 sh2 P2 => ?_⟩
  obtain ⟨Z2, h12', hf2, R2, A2⟩ := P2.one
  have A1' := A1.keep R1 R2 kp2 sh2 h12' hf2
  have kpA := kp.trans sh kp2
  have shA := sh.trans sh2
  have h02 : ∀ a, Z a → Z2 a := fun a z => h12' a (h01 a z)
  have hf02 : ∀ a, Z2 a → Z a ∨ H a = none := fun a z => by
    rcases hf2 a z with z | z
    · exact hf a z
    · exact .inr (kp.none z)
  refine o H2 _ v w dx dy _ _ (fun a ha => Hid.tr R2 ha) (A1'.rd R2 q5) (A2.rd R2 q7) q9 fun u H3 gr => ?_
  obtain ⟨kp3, P3⟩ := gr.pst R2
  obtain ⟨Z3, h23, hf3, R3, A3⟩ := P3.one
  have eu : u = .bl t := by cases A3; rfl
  refine ⟨t, eu, ?_⟩
  have kpB := kpA.trans shA kp3
  cases t with
  | false =>
    rw [if_neg Bool.false_ne_true] at h12 ⊢
    cases h12
    exact k _ H3 kpB shA ⟨Z3, fun a z => h23 a (h02 a z), fun a z => (hf3 a z).elim (hf02 a) fun z => .inr (kpA.none z), R3, .cons (.bl false) .nil⟩
  | true =>
    simp only [if_true] at h12
    refine iteT ?_
    obtain ⟨z, e7, h13, h14⟩ := bnd_eq h12
    obtain ⟨dy', e8, h15, h16⟩ := bnd_eq h14
    obtain ⟨dz, e9, h17, h18⟩ := bnd_eq h16
    obtain ⟨q15, rfl⟩ := rdM_eq h15
    obtain ⟨q17, rfl⟩ := rdM_eq h17
    obtain ⟨q18, rfl⟩ := opt_eq h18
    have A2' := A2.keep R2 R3 kp3 (Sh.refl _) h23 hf3
    refine ⟨γ, e6, Z3, z, _, R3, h13, fun s H4 kp4 sh4 P4 => ?_⟩
    obtain ⟨Z4, h34, hf4, R4, A4⟩ := P4.one
    have A2'' := A2'.keep R3 R4 kp4 sh4 h34 hf4
    refine o' H4 _ w s dy' dz res _ (fun a ha => Hid.tr R4 ha) (A2''.rd R4 q15) (A4.rd R4 q17) q18 fun u2 H5 gr2 => ?_
    obtain ⟨kp5, P5⟩ := gr2.pst R4
    have h03 : ∀ a, Z a → Z3 a := fun a z => h23 a (h02 a z)
    have hf03 : ∀ a, Z3 a → Z a ∨ H a = none := fun a z => (hf3 a z).elim (hf02 a) fun z => .inr (kpA.none z)
    exact k u2 H5 ((kpB.trans shA kp4).trans (shA.trans sh4) kp5) (shA.trans sh4) (Pst.next (rs0 := []) (xs0 := []) kpB h03 hf03 (Pst.next (rs0 := []) (xs0 := []) kp4 h34 hf4 P5))
theorem de_chn {op op' : CmpOp} {r r' : R2} {g g' : D → D → Option Rs} {fa fb fc : M Rs} (o : Op2 X.K r g) (ho : OpR X (compareOp op) r) (o' : Op2 X.K r' g') (ho' : OpR X (compareOp op') r') (ha : PE X a (tE X.K fa)) (hb : PE X b (tE X.K fb)) (hc : PE X c (tE X.K fc))
    (hm : lastMarks [op, op'] [b, c] = false := by with_unfolding_all rfl) : PE X (.Compare a [op, op'] [b, c] pos) (tE X.K (chnM g g' fa fb fc)) := PE.weak (pe_chain ho ho' ha hb hc hm) (tE_chn o o')
theorem dt_chn {op op' : CmpOp} {r r' : R2} {g g' : D → D → Option Rs} {fa fb fc : M Rs} (o : Op2 X.K r g) (ho : OpR X (compareOp op) r) (o' : Op2 X.K r' g') (ho' : OpR X (compareOp op') r') (ha : PE X a (tE X.K fa)) (hb : PE X b (tE X.K fb)) (hc : PE X c (tE X.K fc))
    (hm : lastMarks [op, op'] [b, c] = false := by with_unfolding_all rfl) : PT X (.Compare a [op, op'] [b, c] pos) (tT X.K (tstM (chnM g g' fa fb fc))) := PT.weak (pt_chain ho ho' ha hb hc hm) fun σ H Q h => tE_chn o o' σ H _ (tT_tst σ H Q h)

/-! ### a, b = x, y where a name is held in a cell: by way of a tuple -/
theorem tS_parG {i j : Nat} {fa fb : M Rs} : ∀ D σ H, tS K (parM i j fa fb) D σ H → tAsg (tTup (tCons (tE K fa) (tCons (tE K fb) tNil))) (gTup K 2 (gCons (gName i) (gCons (gName j) gNil))) D σ H := by
  rintro D σ H ⟨γ, e, Z, fl, e', R, h, k⟩
  obtain ⟨ra, e1, h1, hq1⟩ := bnd_eq h
  obtain ⟨u0, e2, h2, hq2⟩ := bnd_eq hq1
  obtain ⟨rb, e3, h3, hq3⟩ := bnd_eq hq2
  obtain ⟨u1, e4, h4, hq4⟩ := bnd_eq hq3
  obtain ⟨u2, e5, h5, hq5⟩ := bnd_eq hq4
  cases hq5
  obtain ⟨rfl, na⟩ := noSl_eq h2
  refine ⟨γ, e, Z, ra, e2, R, h1, fun v H1 kp sh P => ?_⟩
  obtain ⟨Z1, h01, hf, R1, A1⟩ := P.one
  refine ⟨γ, e2, Z1, rb, e3, R1, h3, fun w H2 kp2 sh2 P2 => ⟨by show 2 ≤ sizeLine; decide, fun t ht => ⟨t, [v, w], rfl, .of upd_same, rfl, ?_⟩⟩⟩
  refine ⟨v, [w], rfl, w, [], rfl, rfl, ?_⟩
  obtain ⟨Z2, h12, hf2, R2, A2⟩ := P2.one
  have A1' := A1.keep R1 R2 kp2 sh2 h12 hf2
  -- the tuple is laid beside
  have sm : Same H2 (upd H2 t (.tup [v, w])) := same_upd ht
  have R2t : Rep K γ e3 σ (upd H2 t (.tup [v, w])) Z2 := R2.grow sm fun a z => .inl z
  have kpt : Kp γ e3.ρ σ H2 (upd H2 t (.tup [v, w])) := Kp.of_same sm
  have A1t := A1'.keep R2 R2t kpt (Sh.refl _) (fun _ z => z) (fun _ z => .inl z)
  have A2t := A2.keep R2 R2t kpt (Sh.refl _) (fun _ z => z) (fun _ z => .inl z)
  obtain ⟨Z3, g1, g2, g3, R3, n3, hs3⟩ := asgF_ok h4 (fun x z => h12 x (h01 x z)) R2t A1t
  have nb : ∀ i, rb ≠ .sl i := fun l q => by
    subst q
    obtain ⟨_, _, c⟩ := asgF_eq h5
    rcases c with ⟨d, q, _⟩ | ⟨d, q, _⟩ <;> cases q
  have hb3 : RsOk K γ (upd H2 t (.tup [v, w])) e4 (σ.set i (some v)) Z Z3 rb w := by
    cases rb with
    | sl l => exact absurd rfl (nb l)
    | fz d => exact Rp.stay (stay_refl fun x o _ z => hs3 x z) d A2t
    | fr d =>
      obtain ⟨p, rfl, hp, np, c⟩ := A2t
      refine ⟨p, rfl, g3 p hp fun da ea ev => ?_, fun z => np (h01 p z), c.stay (stay_refl fun x o _ z => hs3 x z) fun o ho => ho⟩
      subst ea
      obtain ⟨p', ev', hp', _⟩ := A1
      rw [ev] at ev'
      cases ev'
      exact np hp'
  obtain ⟨Z4, f1, f2, f3, R4, n4, hs4⟩ := asgF_ok h5 g1 R3 hb3
  have hall : ∀ x, Z2 x → Z x ∨ H x = none := fun x z => by
    rcases hf2 x z with z | z
    · exact hf x z
    · exact .inr (kp.none z)
  exact k γ _ _ (Nst.stp ((kp.trans sh kp2).trans (sh.trans sh2) kpt) (sh.trans sh2) (Nst.trans (e1 := e4) (σ2 := σ.set i (some v)) n3 n4 g2) hall) (R4.down f1)
theorem ds_parG {i j : Nat} {x y : Str} {fa fb : M Rs} {px py pt pos : Pos} {kt k2 pt2} (ha : PE X a (tE X.K fa)) (hb : PE X b (tE X.K fb)) (hN : X.N.Nodup) (hi : X.N[i]? = some x := by rfl) (hj : X.N[j]? = some y := by rfl) (hc : X.calm = true := by rfl)
    (hx : Loc X.env.scope x := by first | exact Or.inl rfl | exact Or.inr rfl) (hy : Loc X.env.scope y := by first | exact Or.inl rfl | exact Or.inr rfl)
    (hfx : X.fn x = true ∨ X.env.scope.names.lookup x = some .local := by first | exact .inl rfl | exact .inr rfl | assumption) (hfy : X.fn y = true ∨ X.env.scope.names.lookup y = some .local := by first | exact .inl rfl | exact .inr rfl | assumption)
    (hw : swappedStores [.Tuple [.Name x px, .Name y py] kt pt] (.Tuple [a, b] k2 pt2) X.env = pure none := by with_unfolding_all rfl)
    (hs : swapsWithSole [.Tuple [.Name x px, .Name y py] kt pt] (.Tuple [a, b] k2 pt2) pos.line X.env = pure false := by rfl) (h1 : starEach [a, b] X.env = (false, eval a X.env) :: starEach [b] X.env := by rfl) (h2 : starEach [b] X.env = (false, eval b X.env) :: starEach [] X.env := by rfl)
    (hs1 : (assignEach [.Name x px, .Name y py] X.env).map (·.2) = assign (.Name x px) X.env :: (assignEach [.Name y py] X.env).map (·.2) := by rfl) (hs2 : (assignEach [.Name y py] X.env).map (·.2) = assign (.Name y py) X.env :: (assignEach [] X.env).map (·.2) := by rfl)
    (hn : (assignEach [.Name x px, .Name y py] X.env).length = 2 := by rfl) (hst : (assignEach [.Name x px, .Name y py] X.env).findIdx? (·.1) = none := by rfl)
    (h3 : (assignEach [.Tuple [.Name x px, .Name y py] kt pt] X.env).map (·.2) = [assign (.Tuple [.Name x px, .Name y py] kt pt) X.env] := by rfl) :
    PS X (.Assign [.Tuple [.Name x px, .Name y py] kt pt] (.Tuple [a, b] k2 pt2) pos) (tS X.K (parM i j fa fb)) :=
  PS.weak (ps_asg (pe_tup (pa_cons ha (pa_cons hb pa_nil h2) h1)) (pg_tup hc (pgs_cons (pg_name hN hi hx hfx) (pgs_cons (pg_name hN hj hy hfy) pgs_nil hs2) hs1) hn hst) hs hw h3) tS_parG
end
/-- a def that never ends well keeps any promise -/
theorem fn_none {P : Program} {w : World} {K : PySem.W.Frag} {mg : Str → Option Value} {base : Heap} {k np : Nat} {f : Addr} {fd : FuncData} {ps : List Str} (hl : ps.length = np) : FnOk P w K mg base CX0 k f fd ps (spD K np fun _ _ => none) :=
  ⟨fun vs H Q E h => (spD_len h).trans hl.symm, fun A outer s H args us vs Q E _ _ _ _ h => by obtain ⟨_, _, _, _, _, _, _, _, _, q, _⟩ := h; cases q⟩
theorem Arity.no (np : Nat) : Arity (fun _ _ => none) np := fun _ _ _ h => by cases h
theorem hu_of {k : Nat} {A : Around} (r : Room k A) : A.units + 65 < cLine := by have := r.un; omega
theorem hu70_of {k : Nat} {A : Around} (r : Room k A) : A.units + 70 < cLine := by have := r.un; omega
theorem hu64_of {k : Nat} {A : Around} (r : Room k A) : A.units + 64 < cLine := by have := r.un; omega
end DV
end
section
set_option Elab.async false
set_option linter.all false
set_option maxRecDepth 100000
namespace DV
open PySem PySem.Spec PyProof.Rows L2
def rng1M (fs : M (List Rs)) : Src := bnd fs fun rs => if rs.length = 1 then rngS (ret rs) else noM
def rng2M (fs : M (List Rs)) : Src := bnd fs fun rs => if rs.length = 2 then rngS (ret rs) else noM
end DV
end
section
set_option Elab.async false
set_option linter.all false
set_option maxRecDepth 100000
namespace DV
open PySem PySem.Spec PyProof.Rows L2
/-! ### the words run: each applied to an environment -/
section
variable {α β : Type} (e : En)
@[simp] theorem ret_ap (a : α) : DV.ret a e = some (a, e) := rfl
@[simp] theorem bnd_ap (f : M α) (g : α → M β) : bnd f g e = match f e with
  | some (a, e') => g a e'
  | none => none := rfl
@[simp] theorem opt_some (a : α) : opt (some a) e = some (a, e) := rfl
@[simp] theorem noM_ap : (noM : M α) e = none := rfl
@[simp] theorem slM_ap (i : Nat) : slM i e = match e.ρ[i]? with
  | some (some (.fz d)) => some (.fz d, e)
  | some (some _) => some (.sl i, e)
  | _ => none := rfl
@[simp] theorem fzM_ap (d : D) : fzM d e = some (.fz d, e) := rfl
@[simp] theorem rdv_fz (d : D) : rdv e (.fz d) = some d := rfl
@[simp] theorem rdv_fr (d : D) : rdv e (.fr d) = some d := rfl
@[simp] theorem rdv_sl (i : Nat) : rdv e (.sl i) = match e.ρ[i]? with
  | some (some s) => rdS e s
  | _ => none := rfl
@[simp] theorem rdS_fz (d : D) : rdS e (.fz d) = some d := rfl
@[simp] theorem rdS_ow (d : D) : rdS e (.ow d) = some d := rfl
@[simp] theorem rdS_bo (d : D) : rdS e (.bo d) = some d := rfl
@[simp] theorem rdS_pt (k : Nat) : rdS e (.pt k) = match e.μ[k]? with
  | some (x, y) => some (.list [.int x, .int y])
  | none => none := rfl
@[simp] theorem rdM_ap (r : Rs) : rdM r e = (rdv e r).map fun d => (d, e) := rfl
@[simp] theorem rdAll_nil : rdAll e [] = some [] := rfl
@[simp] theorem rdAll_cons (r : Rs) (rs : List Rs) : rdAll e (r :: rs) = match rdv e r, rdAll e rs with
  | some d, some ds => some (d :: ds)
  | _, _ => none := rfl
@[simp] theorem als_fz (d : D) : als (.fz d) e = some (d, e) := rfl
@[simp] theorem als_fr (d : D) : als (.fr d) e = some (d, e) := rfl
@[simp] theorem als_sl (i : Nat) : als (.sl i) e = match e.ρ[i]? with
  | some (some (.fz d)) => some (d, e)
  | some (some (.ow d)) => some (d, { e with ρ := e.ρ.set i (some (.fz d)) })
  | _ => none := rfl
@[simp] theorem op1_ap (g : D → Option Rs) (fa : M Rs) : op1 g fa e = bnd fa (fun a => bnd (rdM a) fun x => opt (g x)) e := rfl
@[simp] theorem op2_ap (g : D → D → Option Rs) (fa fb : M Rs) : op2 g fa fb e = bnd fa (fun a => bnd fb fun b => bnd (rdM a) fun x => bnd (rdM b) fun y => opt (g x y)) e := rfl
def opNr (g : List D → Option Rs) (as : List Rs) : M Rs := fun e => (rdAll e as).bind fun ds => (g ds).map fun r => (r, e)
@[simp] theorem opN_ap (g : List D → Option Rs) (fs : M (List Rs)) : opN g fs e = bnd fs (opNr g) e := by
  unfold opN bnd opNr
  split
  · rename_i a e1 h
    show (match rdAll e1 a with
      | some ds => Option.map (fun r => (r, e1)) (g ds)
      | none => none) = _
    cases rdAll e1 a <;> rfl
  · rfl
@[simp] theorem opNr_ap (g : List D → Option Rs) (as : List Rs) : opNr g as e = (rdAll e as).bind fun ds => (g ds).map fun r => (r, e) := rfl
@[simp] theorem consM_ap (fa : M Rs) (fs : M (List Rs)) : consM fa fs e = bnd fa (fun a => bnd fs fun as => DV.ret (a :: as)) e := rfl
@[simp] theorem consF_ap (fa : M Rs) (fs : M (List D)) : consF fa fs e = bnd fa (fun a => bnd (als a) fun d => bnd fs fun ds => DV.ret (d :: ds)) e := rfl
@[simp] theorem tupM_ap (fs : M (List D)) : tupM fs e = bnd fs (fun ds => if ds.length ≤ 1000 then DV.ret (.fz (.tuple ds)) else noM) e := rfl
@[simp] theorem lstM_ap (fs : M (List D)) : lstM fs e = bnd fs (fun ds => if ds.length ≤ 1000 then DV.ret (.fr (.list ds)) else noM) e := rfl
@[simp] theorem seqM_ap (f g : M Fl) : seqM f g e = match f e with
  | some (.nx, e1) => g e1
  | o => o := rfl
@[simp] theorem iteM_ap (c : M Bool) (f g : M α) : iteM c f g e = bnd c (fun b => if b = true then f else g) e := rfl
@[simp] theorem drpM_ap (f : M Rs) : drpM f e = bnd f (fun _ => DV.ret .nx) e := rfl
@[simp] theorem asg_ap (i : Nat) (r : Rs) : asg i r e = match e.ρ[i]? with
  | none => none
  | some (some (.bo _)) => none
  | _ => asg1 i r e := rfl
@[simp] theorem asg1_fz (i : Nat) (d : D) : asg1 i (.fz d) e = some ((), e.st i (some (.fz d))) := rfl
@[simp] theorem asg1_fr (i : Nat) (d : D) : asg1 i (.fr d) e = some ((), e.st i (some (.ow d))) := rfl
@[simp] theorem asg1_sl (i j : Nat) : asg1 i (.sl j) e = match e.ρ[j]? with
  | some (some (.ow d)) => some ((), (e.st j none).st i (some (.ow d)))
  | _ => none := rfl
@[simp] theorem setM_ap (i : Nat) (f : M Rs) : setM i f e = bnd f (fun r => bnd (asg i r) fun _ => DV.ret .nx) e := rfl
@[simp] theorem rtn_fz (d : D) : rtn (.fz d) e = some (.rt (.fz d), e) := rfl
@[simp] theorem rtn_fr (d : D) : rtn (.fr d) e = some (.rt (.fr d), e) := rfl
@[simp] theorem rtn_sl (i : Nat) : rtn (.sl i) e = match e.ρ[i]? with
  | some (some (.ow d)) => some (.rt (.fr d), e.st i none)
  | _ => none := rfl
@[simp] theorem retM_ap (f : M Rs) : retM f e = bnd f rtn e := rfl
@[simp] theorem argS_fz (d : D) : argS e (.fz d) = some (.fz d) := rfl
@[simp] theorem argS_fr (d : D) : argS e (.fr d) = some (.fz d) := rfl
@[simp] theorem argS_sl (i : Nat) : argS e (.sl i) = match e.ρ[i]? with
  | some (some (.fz d)) => some (.fz d)
  | some (some (.ow d)) => some (.bo d)
  | some (some (.bo d)) => some (.bo d)
  | some (some (.pt k)) => some (.pt k)
  | _ => none := rfl
@[simp] theorem argAll_nil : argAll e [] = some [] := rfl
@[simp] theorem argAll_cons (r : Rs) (rs : List Rs) : argAll e (r :: rs) = match argS e r, argAll e rs with
  | some s, some ss => some (s :: ss)
  | _, _ => none := rfl
/-- what a call leaves -/
def cal (F : Fn) (ss : List Sl) (e : En) : Option (Rs × En) := match F ss e.μ with
  | some (.fz d, μ') => some (.fz d, { e with μ := μ' })
  | some (.fr d, μ') => some (.fr d, { e with μ := μ' })
  | _ => none
def calR (F : Fn) (rs : List Rs) : M Rs := fun e => (argAll e rs).bind fun ss => cal F ss e
@[simp] theorem calR_ap (F : Fn) (rs : List Rs) : calR F rs e = (argAll e rs).bind fun ss => cal F ss e := rfl
@[simp] theorem callM_ap (F : Fn) (fs : M (List Rs)) : callM F fs e = bnd fs (calR F) e := by
  unfold callM bnd calR cal
  split
  · rename_i a e1 h
    show (match argAll e1 a with
      | some ss => (match F ss e1.μ with
        | some (Rs.fz d, μ1) => some (Rs.fz d, ({ ρ := e1.ρ, μ := μ1 } : En))
        | some (Rs.fr d, μ1) => some (Rs.fr d, ({ ρ := e1.ρ, μ := μ1 } : En))
        | x => none)
      | none => none) = _
    cases argAll e1 a <;> rfl
  · rfl
theorem cal_fz {F : Fn} {ss : List Sl} {e : En} {d : D} {μ' : List (Int × Int)} (h : F ss e.μ = some (.fz d, μ')) : cal F ss e = some (.fz d, { e with μ := μ' }) := by unfold cal; rw [h]
theorem cal_fr {F : Fn} {ss : List Sl} {e : En} {d : D} {μ' : List (Int × Int)} (h : F ss e.μ = some (.fr d, μ')) : cal F ss e = some (.fr d, { e with μ := μ' }) := by unfold cal; rw [h]
@[simp] theorem callKM_ap (n m : Nat) (ix : List Nat) (F : Fn) (fs fk : M (List Rs)) : callKM n m ix F fs fk e = bnd (bnd fs fun rs => bnd fk fun ks => if rs.length = n ∧ ks.length = m then DV.ret (pick ix (rs ++ ks)) else noM) (calR F) e := callM_ap e F _
@[simp] theorem tst1_bool (b : Bool) : tst1 (.fz (.bool b)) e = some (b, e) := rfl
@[simp] theorem tstM_ap (f : M Rs) : tstM f e = bnd f tst1 e := rfl
@[simp] theorem andM_ap (a b : M Bool) : andM a b e = iteM a b (DV.ret false) e := rfl
@[simp] theorem orM_ap (a b : M Bool) : orM a b e = iteM a (DV.ret true) b e := rfl
@[simp] theorem notM_ap (a : M Bool) : notM a e = bnd a (fun b => DV.ret !b) e := rfl
@[simp] theorem blM_ap (a : M Bool) : blM a e = bnd a (fun b => DV.ret (.fz (.bool b))) e := rfl
@[simp] theorem andV_ap (f g : M Rs) : andV f g e = bnd (tstM f) (fun b => if b = true then g else DV.ret (.fz (.bool false))) e := rfl
@[simp] theorem orV_ap (f g : M Rs) : orV f g e = bnd (tstM f) (fun b => if b = true then DV.ret (.fz (.bool true)) else g) e := rfl
@[simp] theorem part1_int (i : Int) : part1 (.int i) e = some (some i, e) := rfl
@[simp] theorem partM_ap (f : M Rs) : partM f e = bnd f (fun r => bnd (rdM r) part1) e := rfl
@[simp] theorem tgN_ap (i : Nat) (d : D) : tgN i d e = asg i (.fz d) e := rfl
@[simp] theorem tgNil_ap : tgNil [] e = some ((), e) := rfl
@[simp] theorem tgCons_ap (t : D → M Unit) (ts : List D → M Unit) (d : D) (ds : List D) : tgCons t ts (d :: ds) e = bnd (t d) (fun _ => ts ds) e := rfl
@[simp] theorem tgT_ap (n : Nat) (ts : List D → M Unit) (ds : List D) : tgT n ts (.tuple ds) e = (if ds.length = n then ts ds else noM) e := rfl
@[simp] theorem asgM_ap (f : M Rs) (tg : D → M Unit) : asgM f tg e = bnd f (fun r => bnd (als r) fun d => bnd (tg d) fun _ => DV.ret .nx) e := rfl
@[simp] theorem rcvM_ap (T : String) (i : Nat) : rcvM T i e = match e.ρ[i]? with
  | some (some (.ow d)) => if isTy T d = true then some ((), e) else none
  | _ => none := rfl
@[simp] theorem chgM_ap (i : Nat) (g : D → List D → Option (D × D)) (ds : List D) : chgM i g ds e = match e.ρ[i]? with
  | some (some (.ow d)) => (g d ds).map fun p => (.fz p.1, e.st i (some (.ow p.2)))
  | _ => none := rfl
@[simp] theorem mtM_ap (T : String) (i : Nat) (g : D → List D → Option (D × D)) (fs : M (List D)) : mtM T i g fs e = bnd (rcvM T i) (fun _ => bnd fs (chgM i g)) e := rfl
@[simp] theorem fnOf_ap (np n : Nat) (b : M Fl) (ss : List Sl) (μ : List (Int × Int)) : fnOf np n b ss μ = if ss.length = np ∧ ss.all (fun s => !s.isOw) = true then fnOut μ.length (b ⟨ss.map some ++ List.replicate (n - np) none, μ⟩) else none := rfl
@[simp] theorem isOw_fz (d : D) : (Sl.fz d).isOw = false := rfl
@[simp] theorem isOw_bo (d : D) : (Sl.bo d).isOw = false := rfl
@[simp] theorem isOw_pt (k : Nat) : (Sl.pt k).isOw = false := rfl
@[simp] theorem fnOut_fz (m : Nat) (d : D) : fnOut m (some (.rt (.fz d), e)) = some (.fz d, e.μ.take m) := rfl
@[simp] theorem fnOut_fr (m : Nat) (d : D) : fnOut m (some (.rt (.fr d), e)) = some (.fr d, e.μ.take m) := rfl
@[simp] theorem fnOut_nx (m : Nat) : fnOut m (some (.nx, e)) = some (.fz .none, e.μ.take m) := rfl
@[simp] theorem isTy_list (ds : List D) : isTy "list" (.list ds) = true := rfl
@[simp] theorem isTy_dict (kvs : List (D × D)) : isTy "dict" (.dict kvs) = true := rfl
@[simp] theorem boolR_eq (b : Bool) : boolR b = some (.fz (.bool b)) := rfl
@[simp] theorem intR_eq (b : Int) : intR b = some (.fz (.int b)) := rfl
@[simp] theorem strR_eq (b : Str) : strR b = some (.fz (.str b)) := rfl
@[simp] theorem g1_one (g : D → Option Rs) (d : D) : g1 g [d] = g d := rfl
@[simp] theorem g2_two (g : D → D → Option Rs) (d c : D) : g2 g [d, c] = g d c := rfl
end
end DV
end
section
set_option Elab.async false
set_option linter.all false
set_option maxRecDepth 100000
namespace DV
open PySem PySem.Spec PyProof.Rows L2
/-! ### loops run -/
section
/-- one turn of a comprehension -/
def lcW (own : List Nat) (t : D → M Unit) (c : M Bool) (el : M Rs) (d : D) : M (Option D) := fun e => (bnd (t d) (fun _ => bnd c fun b => if b = true then bnd el fun r => bnd (als r) fun y => DV.ret (some y) else DV.ret none) e).map fun p => (p.1, wipeE own p.2)
@[simp] theorem lcW_ap (own : List Nat) (t : D → M Unit) (c : M Bool) (el : M Rs) (d : D) (e : En) : lcW own t c el d e = (bnd (t d) (fun _ => bnd c fun b => if b = true then bnd el fun r => bnd (als r) fun y => DV.ret (some y) else DV.ret none) e).map fun p => (p.1, wipeE own p.2) := rfl
def lcR (own : List Nat) (t : D → M Unit) (c : M Bool) (el : M Rs) (p : List D × Option Nat) : M Rs := fun e =>
  if lockable p.2 e = true ∧ plainO own (lock1 p.2 e) = true then (lcL own t c el p.1 (wipeE own (lock1 p.2 e))).map fun q => (.fr (.list q.1), unlock1 p.2 { q.2 with ρ := backR (lock1 p.2 e).ρ q.2.ρ own }) else none
@[simp] theorem lcM_ap (own : List Nat) (src : Src) (t : D → M Unit) (c : M Bool) (el : M Rs) (e : En) : lcM own src t c el e = bnd src (lcR own t c el) e := by
  unfold lcM bnd lcR
  split
  · rename_i a e1 h
    show (if lockable a.2 e1 = true ∧ plainO own (lock1 a.2 e1) = true then (match lcL own t c el a.1 (wipeE own (lock1 a.2 e1)) with
      | some (xs, e') => some (Rs.fr (.list xs), unlock1 a.2 ({ e' with ρ := backR (lock1 a.2 e1).ρ e'.ρ own } : En))
      | none => none) else none) = _
    split
    · cases lcL own t c el a.1 (wipeE own (lock1 a.2 e1)) <;> rfl
    · rfl
  · rfl
variable {own : List Nat} {t : D → M Unit} {c : M Bool} {el : M Rs}
theorem lcL_cons {d : D} {ds : List D} {e : En} : lcL own t c el (d :: ds) e = (lcW own t c el d e).bind fun p => match p.1 with
    | some y => (lcL own t c el ds p.2).map fun q => (y :: q.1, q.2)
    | none => lcL own t c el ds p.2 := by
  show bnd (t d) _ e = _
  simp only [lcW_ap, bnd_ap]
  cases t d e with
  | none => rfl
  | some p =>
    obtain ⟨u, e1⟩ := p
    simp only
    cases c e1 with
    | none => rfl
    | some p =>
      obtain ⟨b, e2⟩ := p
      simp only
      cases b with
      | false => rfl
      | true =>
        simp only [if_true, bnd_ap]
        cases el e2 with
        | none => rfl
        | some p =>
          obtain ⟨r, e3⟩ := p
          simp only
          cases als r e3 with
          | none => rfl
          | some p =>
            obtain ⟨y, e4⟩ := p
            simp only [ret_ap, Option.map_some, Option.bind_some]
            cases lcL own t c el ds (wipeE own e4) <;> rfl
/-- nothing changes: the items are those that g gives -/
theorem lcL_pure (g : D → Option D) {e : En} : ∀ ds : List D, (∀ d ∈ ds, lcW own t c el d e = some (g d, e)) → lcL own t c el ds e = some (ds.filterMap g, e)
  | [], _ => rfl
  | d :: ds, h => by
    rw [lcL_cons, h d (List.mem_cons_self ..)]
    have ih := lcL_pure g ds fun x hx => h x (List.mem_cons_of_mem _ hx)
    simp only [Option.bind_some, List.filterMap_cons]
    cases g d with
    | none => exact ih
    | some y => simp only; rw [ih]; rfl
/-- the cells change -/
theorem lcL_rel {ρw : List (Option Sl)} (Ok : List (Int × Int) → Prop) (Pd : D → D → Prop) : ∀ (ds : List D) (μ : List (Int × Int)), Ok μ → (∀ d ∈ ds, ∀ μ, Ok μ → ∃ o μ', lcW own t c el d ⟨ρw, μ⟩ = some (some o, ⟨ρw, μ'⟩) ∧ Ok μ' ∧ Pd d o) →
    ∃ xs μ', lcL own t c el ds ⟨ρw, μ⟩ = some (xs, ⟨ρw, μ'⟩) ∧ Ok μ' ∧ All2 Pd ds xs
  | [], μ, ok, _ => ⟨[], μ, rfl, ok, .nil⟩
  | d :: ds, μ, ok, h => by
    obtain ⟨o, μ1, h1, ok1, p1⟩ := h d (List.mem_cons_self ..) μ ok
    obtain ⟨xs, μ2, h2, ok2, p2⟩ := lcL_rel Ok Pd ds μ1 ok1 fun x hx => h x (List.mem_cons_of_mem _ hx)
    exact ⟨o :: xs, μ2, by rw [lcL_cons, h1]; simp only [Option.bind_some]; rw [h2]; rfl, ok2, .cons p1 p2⟩
theorem backR_wipe {ρ : List (Option Sl)} : ∀ own : List Nat, backR ρ (wipeR ρ own) own = ρ := fun own => by
  refine List.ext_getElem? fun j => ?_
  by_cases h : j ∈ own
  · have key : ∀ (ρ' : List (Option Sl)) (vs : List Nat), ρ'.length = ρ.length → j ∈ vs → (backR ρ ρ' vs)[j]? = ρ[j]? := fun ρ' vs hl => by
      induction vs with
      | nil => intro h; cases h
      | cons v vs ih =>
        intro h
        unfold backR
        cases hv : ρ[v]? with
        | none =>
          simp only
          by_cases e : j = v
          · subst e
            rw [hv, List.getElem?_eq_none]
            rw [backR_len, hl]
            exact List.getElem?_eq_none_iff.mp hv
          · exact ih ((List.mem_cons.mp h).resolve_left e)
        | some s =>
          simp only
          by_cases e : j = v
          · subst e
            rw [List.getElem?_set_self (by rw [backR_len, hl]; exact (List.getElem?_eq_some_iff.mp hv).1), hv]
          · rw [List.getElem?_set_ne (Ne.symm e)]
            exact ih ((List.mem_cons.mp h).resolve_left e)
    exact key _ own (wipeR_len ρ own) h
  · rw [backR_out h, wipeR_out h]
theorem unlock_lock {lk : Option Nat} {ρ : List (Option Sl)} {μ μ' : List (Int × Int)} (h : lockable lk ⟨ρ, μ⟩ = true) : unlock1 lk ⟨(lock1 lk ⟨ρ, μ⟩).ρ, μ'⟩ = ⟨ρ, μ'⟩ := by
  rcases lock_cases h with rfl | ⟨i, d, rfl, hi, el⟩
  · rfl
  · rw [el]
    have hl := (List.getElem?_eq_some_iff.mp hi).1
    have eu : unlock1 (some i) (⟨(ρ.set i (some (.bo d))), μ'⟩ : En) = (⟨ρ.set i (some (.bo d)), μ'⟩ : En).st i (some (.ow d)) := by
      unfold unlock1
      simp only
      rw [List.getElem?_set_self hl]
    refine eu.trans ?_
    show (⟨(ρ.set i (some (.bo d))).set i (some (.ow d)), μ'⟩ : En) = _
    rw [List.set_set]
    congr 1
    refine List.ext_getElem? fun j => ?_
    by_cases e : j = i
    · subst e; rw [List.getElem?_set_self hl]; exact hi.symm
    · rw [List.getElem?_set_ne (Ne.symm e)]
theorem lock_mu {lk : Option Nat} {e : En} : (lock1 lk e).μ = e.μ := by
  unfold lock1
  split
  · rfl
  · split <;> rfl
theorem lcR_pure (g : D → Option D) {ds : List D} {lk : Option Nat} {ρ : List (Option Sl)} {μ : List (Int × Int)} (hl : lockable lk ⟨ρ, μ⟩ = true) (hp : plainO own (lock1 lk ⟨ρ, μ⟩) = true)
    (hb : ∀ d ∈ ds, lcW own t c el d (wipeE own (lock1 lk ⟨ρ, μ⟩)) = some (g d, wipeE own (lock1 lk ⟨ρ, μ⟩))) : lcR own t c el (ds, lk) ⟨ρ, μ⟩ = some (.fr (.list (ds.filterMap g)), ⟨ρ, μ⟩) := by
  unfold lcR
  rw [if_pos ⟨hl, hp⟩, lcL_pure g ds hb]
  simp only [Option.map_some]
  rw [backR_wipe]
  have e : (lock1 lk ⟨ρ, μ⟩).μ = μ := lock_mu
  have e2 := unlock_lock (μ' := (lock1 lk ⟨ρ, μ⟩).μ) hl
  rw [e] at e2
  refine congrArg some (Prod.ext rfl ?_)
  show unlock1 lk ⟨(lock1 lk ⟨ρ, μ⟩).ρ, (lock1 lk ⟨ρ, μ⟩).μ⟩ = _
  rw [e]
  exact e2
theorem lcR_map (f : D → D) {ds : List D} {lk : Option Nat} {ρ : List (Option Sl)} {μ : List (Int × Int)} (hl : lockable lk ⟨ρ, μ⟩ = true) (hp : plainO own (lock1 lk ⟨ρ, μ⟩) = true)
    (hb : ∀ d ∈ ds, lcW own t c el d (wipeE own (lock1 lk ⟨ρ, μ⟩)) = some (some (f d), wipeE own (lock1 lk ⟨ρ, μ⟩))) : lcR own t c el (ds, lk) ⟨ρ, μ⟩ = some (.fr (.list (ds.map f)), ⟨ρ, μ⟩) := by
  rw [lcR_pure (fun d => some (f d)) hl hp hb]
  have : ds.filterMap (fun d => some (f d)) = ds.map f := by
    induction ds with
    | nil => rfl
    | cons d ds ih => rw [List.filterMap_cons, List.map_cons, ih fun x hx => hb x (List.mem_cons_of_mem _ hx)]
  rw [this]
theorem lcR_rel (Ok : List (Int × Int) → Prop) (Pd : D → D → Prop) {ds : List D} {ρ : List (Option Sl)} {μ : List (Int × Int)} (hp : plainO own ⟨ρ, μ⟩ = true) (ok : Ok μ)
    (hb : ∀ d ∈ ds, ∀ μ, Ok μ → ∃ o μ', lcW own t c el d ⟨wipeR ρ own, μ⟩ = some (some o, ⟨wipeR ρ own, μ'⟩) ∧ Ok μ' ∧ Pd d o) : ∃ xs μ', lcR own t c el (ds, none) ⟨ρ, μ⟩ = some (.fr (.list xs), ⟨ρ, μ'⟩) ∧ Ok μ' ∧ All2 Pd ds xs := by
  obtain ⟨xs, μ', h1, ok1, p1⟩ := lcL_rel Ok Pd ds μ ok hb
  refine ⟨xs, μ', ?_, ok1, p1⟩
  unfold lcR
  rw [if_pos ⟨rfl, hp⟩]
  show (lcL own t c el ds ⟨wipeR ρ own, μ⟩).map _ = _
  rw [h1]
  simp only [Option.map_some]
  show some (Rs.fr (.list xs), (⟨backR ρ (wipeR ρ own) own, μ'⟩ : En)) = _
  rw [backR_wipe]
/-! for -/
def forR (t : D → M Unit) (b : M Fl) (p : List D × Option Nat) : M Fl := fun e => if lockable p.2 e = true then (forL t b p.1 (lock1 p.2 e)).map fun q => (q.1, unlock1 p.2 q.2) else none
@[simp] theorem forS_ap (src : Src) (t : D → M Unit) (b : M Fl) (e : En) : forS src t b e = bnd src (forR t b) e := by
  unfold forS bnd forR
  split
  · rename_i a e1 h
    show (if lockable a.2 e1 = true then (match forL t b a.1 (lock1 a.2 e1) with
      | some (fl, e') => some (fl, unlock1 a.2 e')
      | none => none) else none) = _
    split
    · cases forL t b a.1 (lock1 a.2 e1) <;> rfl
    · rfl
  · rfl
theorem forR_ap (t : D → M Unit) (b : M Fl) (p : List D × Option Nat) (e : En) : forR t b p e = if lockable p.2 e = true then (forL t b p.1 (lock1 p.2 e)).map fun q => (q.1, unlock1 p.2 q.2) else none := rfl
theorem forR_none {b : M Fl} {ds : List D} {e : En} : forR t b (ds, none) e = forL t b ds e := by
  show (if true = true then (forL t b ds e).map (fun q => (q.1, q.2)) else none) = _
  rw [if_pos rfl]
  cases forL t b ds e <;> rfl
theorem forL_nil {b : M Fl} {e : En} : forL t b [] e = some (.nx, e) := rfl
/-- a turn that goes on -/
theorem forL_next {b : M Fl} {d : D} {ds : List D} {e e2 : En} (h : bnd (t d) (fun _ => b) e = some (.nx, e2)) : forL t b (d :: ds) e = forL t b ds e2 := by
  obtain ⟨u, e1, h1, h2⟩ := bnd_eq h
  show (match t d e with
    | some (_, e1) => match b e1 with
      | some (.nx, e2) => forL t b ds e2
      | some (.ct, e2) => forL t b ds e2
      | some (.bk, e2) => some (.nx, e2)
      | some (.rt r, e2) => some (.rt r, e2)
      | none => none
    | none => none) = _
  rw [h1]
  simp only
  rw [h2]
/-- an invariant by what is left -/
theorem forL_inv {b : M Fl} (I : List D → En → Prop) : ∀ (ds : List D) (e : En), I ds e → (∀ d ds e, I (d :: ds) e → ∃ e2, bnd (t d) (fun _ => b) e = some (.nx, e2) ∧ I ds e2) → ∃ e2, forL t b ds e = some (.nx, e2) ∧ I [] e2
  | [], e, h, _ => ⟨e, rfl, h⟩
  | d :: ds, e, h, k => by
    obtain ⟨e1, h1, h2⟩ := k d ds e h
    obtain ⟨e2, h3, h4⟩ := forL_inv I ds e1 h2 k
    exact ⟨e2, by rw [forL_next h1]; exact h3, h4⟩
end
@[simp] theorem st_mk (ρ : List (Option Sl)) (μ : List (Int × Int)) (i : Nat) (s : Option Sl) : (⟨ρ, μ⟩ : En).st i s = ⟨ρ.set i s, μ⟩ := rfl
section
variable (e : En)
@[simp] theorem seqS1_fzl (ds : List D) : seqS1 (.fz (.list ds)) e = some ((ds, none), e) := rfl
@[simp] theorem seqS1_fzt (ds : List D) : seqS1 (.fz (.tuple ds)) e = some ((ds, none), e) := rfl
@[simp] theorem seqS1_str (x : Str) : seqS1 (.fz (.str x)) e = if x.length ≤ 1000 then some ((signs x, none), e) else none := rfl
@[simp] theorem seqS1_fr (ds : List D) : seqS1 (.fr (.list ds)) e = some ((ds, none), e) := rfl
@[simp] theorem seqS1_sl (i : Nat) : seqS1 (.sl i) e = match e.ρ[i]? with
    | some (some (.ow (.list ds))) => some ((ds, some i), e)
    | some (some (.bo (.list ds))) => some ((ds, none), e)
    | _ => none := rfl
@[simp] theorem seqS_ap (f : M Rs) : seqS f e = bnd f seqS1 e := rfl
theorem rng1_ap (fs : M (List Rs)) (e1 : En) (rs : List Rs) (j : Int) (h : fs e = some (rs, e1)) (hl : rs.length = 1) (hj : rdAll e1 rs = some [.int j]) (h0 : 0 ≤ j) (h1 : j ≤ 1000000) : rng1M fs e = some ((rngL 0 j.toNat, none), e1) := by
  unfold rng1M rngS
  simp only [bnd_ap, h, hl, if_true, ret_ap, hj]
  rw [if_pos ⟨by omega, h1⟩]
@[simp] theorem noSl_fz (d : D) : noSl (.fz d) e = some ((), e) := rfl
@[simp] theorem noSl_fr (d : D) : noSl (.fr d) e = some ((), e) := rfl
@[simp] theorem parM_ap (i j : Nat) (fa fb : M Rs) : parM i j fa fb e = bnd fa (fun a => bnd (noSl a) fun _ => bnd fb fun b => bnd (asgF i a) fun _ => bnd (asgF j b) fun _ => DV.ret .nx) e := rfl
@[simp] theorem asgF_ap (i : Nat) (r : Rs) : asgF i r e = match e.ρ[i]? with
  | none => none
  | some (some (.bo _)) => none
  | _ => match r with
    | .fz d => some ((), e.st i (some (.fz d)))
    | .fr d => some ((), e.st i (some (.ow d)))
    | .sl _ => none := rfl
@[simp] theorem slcM_ap (fa : M Rs) (fl fh : M (Option Int)) : slcM fa fl fh e = bnd fa (fun a => bnd fl fun lo => bnd fh fun hi => bnd (rdM a) fun x => opt (slG x lo hi)) e := rfl
@[simp] theorem extM_fr (i : Nat) (f : M Rs) : extM i f e = bnd (rcvM "list" i) (fun _ => bnd f fun r => fun e => match r, e.ρ[i]? with
  | .fr (.list ys), some (some (.ow (.list xs))) => if xs.length + ys.length ≤ 100000 then some (.fz .none, e.st i (some (.ow (.list (xs ++ ys))))) else none
  | _, _ => none) e := rfl
@[simp] theorem putM_ap (i : Nat) (fk fv : M Rs) : putM i fk fv e = bnd fv (fun r => bnd (als r) fun v => bnd (rcvM "dict" i) fun _ => bnd fk fun rk => bnd (rdM rk) fun kd => fun e => match e.ρ[i]?, dKey kd with
  | some (some (.ow (.dict kvs))), some k => if kvs.length < 100000 then some (.nx, e.st i (some (.ow (.dict (putD k v kvs))))) else none
  | _, _ => none) e := rfl
@[simp] theorem par3M_ap (i j l : Nat) (fs : M (List D)) : par3M i j l fs e = bnd fs (st3 i j l) e := rfl
@[simp] theorem st3_ap (i j l : Nat) (a b c : D) : st3 i j l [a, b, c] e = bnd (asg i (.fz a)) (fun _ => bnd (asg j (.fz b)) fun _ => bnd (asg l (.fz c)) fun _ => DV.ret .nx) e := rfl
@[simp] theorem repM_ap (fa fb : M Rs) : repM fa fb e = bnd fa (fun a => bnd fb fun b => bnd (rdM b) fun y => match a, y with
  | .fr (.list xs), .int k => if xs.length * k.toNat ≤ 100000 ∧ -1000000 ≤ k ∧ k ≤ 1000000 then DV.ret (.fr (.list (repD k.toNat xs))) else noM
  | _, _ => noM) e := rfl
@[simp] theorem potM_ap (i : Nat) (f : M Rs) : potM i f e = bnd f (fun r => bnd (asgP i r) fun _ => DV.ret .nx) e := rfl
@[simp] theorem asgP_ap (i : Nat) (x y : Int) : asgP i (.fr (.list [.int x, .int y])) e = if i < e.ρ.length then match e.ρ[i]? with
      | some (some (.bo _)) => none
      | _ => some ((), { ρ := e.ρ.set i (some (.pt e.μ.length)), μ := e.μ ++ [(x, y)] })
      else none := rfl
@[simp] theorem celM_ap (i c : Nat) (v : Int) : celM i c v e = match e.ρ[i]? with
  | some (some (.pt k)) => match e.μ[k]? with
    | some (x, y) => if c = 0 then some ((), { e with μ := e.μ.set k (v, y) }) else if c = 1 then some ((), { e with μ := e.μ.set k (x, v) }) else none
    | none => none
  | _ => none := rfl
def stcR (i c : Nat) (d : D) : M Fl := match d with
  | .int v => bnd (celM i c v) fun _ => DV.ret .nx
  | _ => noM
@[simp] theorem stcM_ap (i c : Nat) (f : M Rs) : stcM i c f e = bnd f (fun r => bnd (rdM r) (stcR i c)) e := rfl
@[simp] theorem stcR_int (i c : Nat) (v : Int) : stcR i c (.int v) e = bnd (celM i c v) (fun _ => DV.ret .nx) e := rfl
def drwR (i j : Nat) (d : D) : M Fl := match d with
  | .tuple [.int a, .int b] => bnd (celM i 0 a) fun _ => bnd (asg j (.fz (.int b))) fun _ => DV.ret .nx
  | _ => noM
@[simp] theorem drwM_ap (i j : Nat) (f : M Rs) : drwM i j f e = bnd f (fun r => bnd (als r) (drwR i j)) e := rfl
@[simp] theorem drwR_two (i j : Nat) (a b : Int) : drwR i j (.tuple [.int a, .int b]) e = bnd (celM i 0 a) (fun _ => bnd (asg j (.fz (.int b))) fun _ => DV.ret .nx) e := rfl
@[simp] theorem chnM_ap (g g' : D → D → Option Rs) (fa fb fc : M Rs) : chnM g g' fa fb fc e = bnd fa (fun x => bnd fb fun y => bnd (rdM x) fun dx => bnd (rdM y) fun dy => bnd (opt (g dx dy)) fun r => bnd (tst1 r) fun t =>
  if t = true then bnd fc fun z => bnd (rdM y) fun dy => bnd (rdM z) fun dz => opt (g' dy dz) else DV.ret (.fz (.bool false))) e := rfl
end
end DV
end
section
set_option Elab.async false
set_option linter.all false
set_option maxRecDepth 100000
set_option maxHeartbeats 0
namespace K63
open PySem PySem.Spec PyProof.Rows L2 DV
def top (i : Nat) : Stmt := PySem.Challenge.pw_markedrows_k63_whole_forms.main.body.getD i (.Pass ⟨0, 0, 0, 0⟩)
abbrev s_u_law_pot : Stmt := top 39
abbrev N_u_law_pot : List Str := ["script", "k", "cell"]
theorem sc_u_law_pot : FnScope N_u_law_pot ["script", "k"] (defScope s_u_law_pot) := ⟨rfl, rfl, rfl, by decide +kernel, rfl, by decide +kernel, by decide +kernel⟩
abbrev s_u_law_draw : Stmt := top 40
abbrev N_u_law_draw : List Str := ["pot", "size", "digit"]
theorem sc_u_law_draw : FnScope N_u_law_draw ["pot", "size"] (defScope s_u_law_draw) := ⟨rfl, rfl, rfl, by decide +kernel, rfl, by decide +kernel, by decide +kernel⟩
abbrev s_u_law_pick : Stmt := top 41
abbrev N_u_law_pick : List Str := ["pot", "some"]
theorem sc_u_law_pick : FnScope N_u_law_pick ["pot", "some"] (defScope s_u_law_pick) := ⟨rfl, rfl, rfl, by decide +kernel, rfl, by decide +kernel, by decide +kernel⟩
abbrev s_u_law_terms : Stmt := top 42
abbrev N_u_law_terms : List Str := ["pot", "many", "names", "values", "place"]
theorem sc_u_law_terms : FnScope N_u_law_terms ["pot", "many", "names", "values"] (defScope s_u_law_terms) := ⟨rfl, rfl, rfl, by decide +kernel, rfl, by decide +kernel, by decide +kernel⟩
abbrev s_u_law_question : Stmt := top 43
abbrev N_u_law_question : List Str := ["pot", "most", "long", "names", "values", "atoms", "turn", "table", "many", "there", "terms", "head", "place", "term"]
theorem sc_u_law_question : FnScope N_u_law_question ["pot", "most", "long"] (defScope s_u_law_question) := ⟨rfl, rfl, rfl, by decide +kernel, rfl, by decide +kernel, by decide +kernel⟩
abbrev s_u_law_sequences : Stmt := top 49
abbrev N_u_law_sequences : List Str := ["items", "found", "turn", "late", "told", "left", "at"]
theorem sc_u_law_sequences : FnScope N_u_law_sequences ["items"] (defScope s_u_law_sequences) := ⟨rfl, rfl, rfl, by decide +kernel, rfl, by decide +kernel, by decide +kernel⟩
abbrev s_u_law_is_name : Stmt := top 44
abbrev N_u_law_is_name : List Str := ["term"]
theorem sc_u_law_is_name : FnScope N_u_law_is_name ["term"] (defScope s_u_law_is_name) := ⟨rfl, rfl, rfl, by decide +kernel, rfl, by decide +kernel, by decide +kernel⟩
abbrev s_u_law_led : Stmt := top 46
abbrev N_u_law_led : List Str := ["terms", "led", "term"]
theorem sc_u_law_led : FnScope N_u_law_led ["terms", "led"] (defScope s_u_law_led) := ⟨rfl, rfl, rfl, by decide +kernel, rfl, by decide +kernel, by decide +kernel⟩
abbrev s_u_law_spelled : Stmt := top 50
abbrev N_u_law_spelled : List Str := ["head", "atoms", "led", "terms", "table", "some", "term"]
theorem sc_u_law_spelled : FnScope N_u_law_spelled ["head", "atoms"] (defScope s_u_law_spelled) := ⟨rfl, rfl, rfl, by decide +kernel, rfl, by decide +kernel, by decide +kernel⟩
abbrev s_u_law_term_key : Stmt := top 47
abbrev N_u_law_term_key : List Str := ["term"]
theorem sc_u_law_term_key : FnScope N_u_law_term_key ["term"] (defScope s_u_law_term_key) := ⟨rfl, rfl, rfl, by decide +kernel, rfl, by decide +kernel, by decide +kernel⟩
abbrev s_u_law_atom_key : Stmt := top 48
abbrev N_u_law_atom_key : List Str := ["atom", "term"]
theorem sc_u_law_atom_key : FnScope N_u_law_atom_key ["atom"] (defScope s_u_law_atom_key) := ⟨rfl, rfl, rfl, by decide +kernel, rfl, by decide +kernel, by decide +kernel⟩
abbrev s_u_law_shape : Stmt := top 51
abbrev N_u_law_shape : List Str := ["question", "found", "least", "one", "told", "atom"]
theorem sc_u_law_shape : FnScope N_u_law_shape ["question"] (defScope s_u_law_shape) := ⟨rfl, rfl, rfl, by decide +kernel, rfl, by decide +kernel, by decide +kernel⟩
abbrev s_u_law_names : Stmt := top 45
abbrev N_u_law_names : List Str := ["question", "found", "table", "terms", "term"]
theorem sc_u_law_names : FnScope N_u_law_names ["question"] (defScope s_u_law_names) := ⟨rfl, rfl, rfl, by decide +kernel, rfl, by decide +kernel, by decide +kernel⟩
abbrev s_u_law_other : Stmt := top 52
abbrev N_u_law_other : List Str := ["pot", "question", "names", "left", "new", "name", "atoms", "rest", "turn", "table", "terms"]
theorem sc_u_law_other : FnScope N_u_law_other ["pot", "question"] (defScope s_u_law_other) := ⟨rfl, rfl, rfl, by decide +kernel, rfl, by decide +kernel, by decide +kernel⟩
abbrev s_u_law_changed : Stmt := top 53
abbrev N_u_law_changed : List Str := ["pot", "question", "names", "at", "table", "terms", "place", "late", "found", "there", "term"]
theorem sc_u_law_changed : FnScope N_u_law_changed ["pot", "question"] (defScope s_u_law_changed) := ⟨rfl, rfl, rfl, by decide +kernel, rfl, by decide +kernel, by decide +kernel⟩
abbrev s_is_name : Stmt := top 12
abbrev N_is_name : List Str := ["value", "sign"]
theorem sc_is_name : FnScope N_is_name ["value"] (defScope s_is_name) := ⟨rfl, rfl, rfl, by decide +kernel, rfl, by decide +kernel, by decide +kernel⟩
abbrev s_with_terms : Stmt := top 33
abbrev N_with_terms : List Str := ["led", "terms", "found", "term"]
theorem sc_with_terms : FnScope N_with_terms ["led", "terms"] (defScope s_with_terms) := ⟨rfl, rfl, rfl, by decide +kernel, rfl, by decide +kernel, by decide +kernel⟩
abbrev s_led_terms : Stmt := top 27
abbrev N_led_terms : List Str := ["terms", "led", "term"]
theorem sc_led_terms : FnScope N_led_terms ["terms", "led"] (defScope s_led_terms) := ⟨rfl, rfl, rfl, by decide +kernel, rfl, by decide +kernel, by decide +kernel⟩
abbrev s_is_integer : Stmt := top 10
abbrev N_is_integer : List Str := ["value"]
theorem sc_is_integer : FnScope N_is_integer ["value"] (defScope s_is_integer) := ⟨rfl, rfl, rfl, by decide +kernel, rfl, by decide +kernel, by decide +kernel⟩
abbrev s_value_key : Stmt := top 16
abbrev N_value_key : List Str := ["value"]
theorem sc_value_key : FnScope N_value_key ["value"] (defScope s_value_key) := ⟨rfl, rfl, rfl, by decide +kernel, rfl, by decide +kernel, by decide +kernel⟩
abbrev s_term_key : Stmt := top 31
abbrev N_term_key : List Str := ["term"]
theorem sc_term_key : FnScope N_term_key ["term"] (defScope s_term_key) := ⟨rfl, rfl, rfl, by decide +kernel, rfl, by decide +kernel, by decide +kernel⟩
abbrev s_atom_key : Stmt := top 32
abbrev N_atom_key : List Str := ["atom", "term"]
theorem sc_atom_key : FnScope N_atom_key ["atom"] (defScope s_atom_key) := ⟨rfl, rfl, rfl, by decide +kernel, rfl, by decide +kernel, by decide +kernel⟩
abbrev s_least_from : Stmt := top 34
abbrev N_least_from : List Str := ["told", "left", "led", "nexts", "atom", "more", "first", "found", "spelled", "rest", "late", "one"]
theorem sc_least_from : FnScope N_least_from ["told", "left", "led"] (defScope s_least_from) := ⟨rfl, rfl, rfl, by decide +kernel, rfl, by decide +kernel, by decide +kernel⟩
abbrev s_form_in : Stmt := top 35
abbrev N_form_in : List Str := ["question", "led"]
theorem sc_form_in : FnScope N_form_in ["question"] (defScope s_form_in) := ⟨rfl, rfl, rfl, by decide +kernel, rfl, by decide +kernel, by decide +kernel⟩
abbrev s_is_row : Stmt := top 11
abbrev N_is_row : List Str := ["value", "many"]
theorem sc_is_row : FnScope N_is_row ["value", "many"] (defScope s_is_row) := ⟨rfl, rfl, rfl, by decide +kernel, rfl, by decide +kernel, by decide +kernel⟩
abbrev s_is_word : Stmt := top 13
abbrev N_is_word : List Str := ["value", "sign"]
theorem sc_is_word : FnScope N_is_word ["value"] (defScope s_is_word) := ⟨rfl, rfl, rfl, by decide +kernel, rfl, by decide +kernel, by decide +kernel⟩
abbrev s_is_value : Stmt := top 14
abbrev N_is_value : List Str := ["value"]
theorem sc_is_value : FnScope N_is_value ["value"] (defScope s_is_value) := ⟨rfl, rfl, rfl, by decide +kernel, rfl, by decide +kernel, by decide +kernel⟩
abbrev s_is_term : Stmt := top 15
abbrev N_is_term : List Str := ["value"]
theorem sc_is_term : FnScope N_is_term ["value"] (defScope s_is_term) := ⟨rfl, rfl, rfl, by decide +kernel, rfl, by decide +kernel, by decide +kernel⟩
abbrev s_is_terms : Stmt := top 22
abbrev N_is_terms : List Str := ["value", "least", "most", "term"]
theorem sc_is_terms : FnScope N_is_terms ["value", "least", "most"] (defScope s_is_terms) := ⟨rfl, rfl, rfl, by decide +kernel, rfl, by decide +kernel, by decide +kernel⟩
abbrev s_is_atom : Stmt := top 23
abbrev N_is_atom : List Str := ["value"]
theorem sc_is_atom : FnScope N_is_atom ["value"] (defScope s_is_atom) := ⟨rfl, rfl, rfl, by decide +kernel, rfl, by decide +kernel, by decide +kernel⟩
abbrev s_names_in : Stmt := top 25
abbrev N_names_in : List Str := ["atoms", "found", "table", "terms", "term"]
theorem sc_names_in : FnScope N_names_in ["atoms"] (defScope s_names_in) := ⟨rfl, rfl, rfl, by decide +kernel, rfl, by decide +kernel, by decide +kernel⟩
abbrev s_unlike_table : Stmt := top 24
abbrev N_unlike_table : List Str := ["atoms", "many", "found", "table", "terms"]
theorem sc_unlike_table : FnScope N_unlike_table ["atoms"] (defScope s_unlike_table) := ⟨rfl, rfl, rfl, by decide +kernel, rfl, by decide +kernel, by decide +kernel⟩
abbrev s_is_question_of : Stmt := top 26
abbrev N_is_question_of : List Str := ["value", "names", "atom", "term"]
theorem sc_is_question_of : FnScope N_is_question_of ["value"] (defScope s_is_question_of) := ⟨rfl, rfl, rfl, by decide +kernel, rfl, by decide +kernel, by decide +kernel⟩
abbrev s_want_question : Stmt := top 28
abbrev N_want_question : List Str := ["value"]
theorem sc_want_question : FnScope N_want_question ["value"] (defScope s_want_question) := ⟨rfl, rfl, rfl, by decide +kernel, rfl, by decide +kernel, by decide +kernel⟩
abbrev s_form_of : Stmt := top 36
abbrev N_form_of : List Str := ["question"]
theorem sc_form_of : FnScope N_form_of ["question"] (defScope s_form_of) := ⟨rfl, rfl, rfl, by decide +kernel, rfl, by decide +kernel, by decide +kernel⟩
abbrev s_are_one_form : Stmt := top 37
abbrev N_are_one_form : List Str := ["question", "other_question"]
theorem sc_are_one_form : FnScope N_are_one_form ["question", "other_question"] (defScope s_are_one_form) := ⟨rfl, rfl, rfl, by decide +kernel, rfl, by decide +kernel, by decide +kernel⟩
abbrev s_law : Stmt := top 54
abbrev N_law : List Str := ["script", "pot", "turn", "question", "due", "other", "late", "like", "told"]
theorem sc_law : FnScope N_law ["script"] (defScope s_law) := ⟨rfl, rfl, rfl, by decide +kernel, rfl, by decide +kernel, by decide +kernel⟩
/-! what they do -/
def B_u_law_pot : M Fl :=
    (seqM (setM 2 (iteM (tstM (op2 ltG (slM 1) (opN (g1 lenG) (consM (slM 0) (ret []))))) (opN (g1 absG) (consM (op2 ixG (slM 0) (slM 1)) (ret []))) (op2 addG (op2 mulG (fzM (.int 13513)) (slM 1)) (fzM (.int 14303)))))
    (retM (lstM (consF (opN (g2 maxG) (consM (fzM (.int 0)) (consM (op2 subG (slM 2) (op2 (intG powF) (fzM (.int 10)) (fzM (.int 18)))) (ret [])))) (consF (op2 addG (op2 (intG modF) (opN (g1 int1G) (consM (op2 addG (op2 addG (op2 mulG (op2 (intG modF) (opN (g1 int1G) (consM (slM 2) (ret []))) (fzM (.int 2147483549))) (fzM (.int 13003))) (op2 mulG (fzM (.int 13411)) (slM 1))) (fzM (.int 907))) (ret []))) (fzM (.int 2147483563))) (fzM (.int 1))) (ret []))))))
def F_u_law_pot : Fn := fnOf 2 3 B_u_law_pot
theorem ar_u_law_pot : Arity F_u_law_pot 2 := Arity.of _ _ _
def B_u_law_draw : M Fl :=
    (seqM (iteM (tstM (op2 gtG (op2 ixG (slM 0) (fzM (.int 0))) (fzM (.int 0)))) (seqM (drwM 0 2 (opN (g2 divmodG) (consM (op2 ixG (slM 0) (fzM (.int 0))) (consM (slM 1) (ret [])))))
    (retM (slM 2))) (ret .nx))
    (seqM (stcM 0 1 (op2 (intG modF) (opN (g1 int1G) (consM (op2 addG (op2 mulG (op2 ixG (slM 0) (fzM (.int 1))) (fzM (.int 40692))) (fzM (.int 13411))) (ret []))) (fzM (.int 2147483399))))
    (retM (op2 (intG modF) (opN (g1 int1G) (consM (op2 (intG fdivF) (op2 (intG modF) (opN (g1 int1G) (consM (op2 mulG (op2 ixG (slM 0) (fzM (.int 1))) (op2 ixG (slM 0) (fzM (.int 1)))) (ret []))) (fzM (.int 2147483323))) (fzM (.int 19))) (ret []))) (slM 1)))))
def F_u_law_draw : Fn := fnOf 2 3 B_u_law_draw
theorem ar_u_law_draw : Arity F_u_law_draw 2 := Arity.of _ _ _
def B_u_law_pick : M Fl :=
    (retM (op2 ixG (slM 1) (callM F_u_law_draw (consM (slM 0) (consM (opN (g1 lenG) (consM (slM 1) (ret []))) (ret []))))))
def F_u_law_pick : Fn := fnOf 2 2 B_u_law_pick
theorem ar_u_law_pick : Arity F_u_law_pick 2 := Arity.of _ _ _
def C_u_law_terms_1 : M Rs :=
    (iteM (orM (tstM (op2 gtG (callM F_u_law_draw (consM (slM 0) (consM (fzM (.int 6)) (ret [])))) (fzM (.int 0)))) (tstM (op2 eqG (slM 3) (lstM (ret []))))) (callM F_u_law_pick (consM (slM 0) (consM (slM 2) (ret [])))) (callM F_u_law_pick (consM (slM 0) (consM (slM 3) (ret [])))))
def B_u_law_terms : M Fl :=
    (retM (opN (g1 tupleG) (consM (lcM [4] (rng1M (consM (slM 1) (ret []))) (tgN 4) (ret true) C_u_law_terms_1) (ret []))))
def F_u_law_terms : Fn := fnOf 4 5 B_u_law_terms
theorem ar_u_law_terms : Arity F_u_law_terms 4 := Arity.of _ _ _
def L_u_law_question_1 : M Fl :=
    (seqM (asgM (callM F_u_law_pick (consM (slM 0) (consM (lstM (consF (tupM (consF (fzM (.str "R")) (consF (fzM (.int 2)) (ret [])))) (consF (tupM (consF (fzM (.str "R")) (consF (fzM (.int 2)) (ret [])))) (consF (tupM (consF (fzM (.str "S")) (consF (fzM (.int 1)) (ret [])))) (consF (tupM (consF (fzM (.str "T")) (consF (fzM (.int 3)) (ret [])))) (ret [])))))) (ret [])))) (tgT 2 (tgCons (tgN 7) (tgCons (tgN 8) tgNil))))
    (drpM (mtM "list" 5 appG (consF (iteM (andM (tstM (op2 neG (slM 5) (lstM (ret [])))) (tstM (op2 eqG (callM F_u_law_draw (consM (slM 0) (consM (fzM (.int 9)) (ret [])))) (fzM (.int 0))))) (callM F_u_law_pick (consM (slM 0) (consM (slM 5) (ret [])))) (tupM (consF (slM 7) (consF (callM F_u_law_terms (consM (slM 0) (consM (slM 8) (consM (slM 3) (consM (slM 4) (ret [])))))) (ret []))))) (ret [])))))
def C_u_law_question_1 : M Rs :=
    (slM 13)
def L_u_law_question_2 : M Fl :=
    (drpM (extM 9 (lcM [13] (seqS (slM 10)) (tgN 13) (tstM (op2 inG (slM 13) (slM 3))) C_u_law_question_1)))
def C_u_law_question_2 : M Rs :=
    (iteM (andM (tstM (op2 neG (slM 9) (lstM (ret [])))) (tstM (op2 gtG (callM F_u_law_draw (consM (slM 0) (consM (fzM (.int 7)) (ret [])))) (fzM (.int 0))))) (callM F_u_law_pick (consM (slM 0) (consM (slM 9) (ret [])))) (callM F_u_law_pick (consM (slM 0) (consM (slM 4) (ret [])))))
def B_u_law_question : M Fl :=
    (seqM (parM 3 4 (slcM (lstM (consF (fzM (.str "x")) (consF (fzM (.str "y")) (consF (fzM (.str "z")) (consF (fzM (.str "u")) (ret [])))))) (ret none) (partM (op2 addG (fzM (.int 2)) (callM F_u_law_draw (consM (slM 0) (consM (fzM (.int 3)) (ret []))))))) (lstM (consF (fzM (.int 1)) (consF (fzM (.int 2)) (consF (fzM (.str "Red")) (ret []))))))
    (seqM (setM 5 (lstM (ret [])))
    (seqM (forS (rng1M (consM (op2 addG (fzM (.int 1)) (callM F_u_law_draw (consM (slM 0) (consM (slM 1) (ret []))))) (ret []))) (tgN 6) L_u_law_question_1)
    (seqM (setM 9 (lstM (ret [])))
    (seqM (forS (seqS (slM 5)) (tgT 2 (tgCons (tgN 7) (tgCons (tgN 10) tgNil))) L_u_law_question_2)
    (seqM (setM 9 (op1 ssetG (slM 9)))
    (seqM (setM 11 (opN (g1 tupleG) (consM (lcM [12] (rng1M (consM (slM 2) (ret []))) (tgN 12) (ret true) C_u_law_question_2) (ret []))))
    (retM (tupM (consF (fzM (.str "ask")) (consF (slM 11) (consF (opN (g1 tupleG) (consM (slM 5) (ret []))) (ret [])))))))))))))
def F_u_law_question : Fn := fnOf 3 14 B_u_law_question
theorem ar_u_law_question : Arity F_u_law_question 3 := Arity.of _ _ _
def C_u_law_sequences_1 : M Rs :=
    (tupM (consF (op2 addG (slM 4) (lstM (consF (op2 ixG (slM 5) (slM 6)) (ret [])))) (consF (op2 addG (slcM (slM 5) (ret none) (partM (slM 6))) (slcM (slM 5) (partM (op2 addG (slM 6) (fzM (.int 1)))) (ret none))) (ret []))))
def L_u_law_sequences_1 : M Fl :=
    (drpM (extM 3 (lcM [6] (rng1M (consM (opN (g1 lenG) (consM (slM 5) (ret []))) (ret []))) (tgN 6) (ret true) C_u_law_sequences_1)))
def L_u_law_sequences_2 : M Fl :=
    (seqM (setM 3 (lstM (ret [])))
    (seqM (forS (seqS (slM 1)) (tgT 2 (tgCons (tgN 4) (tgCons (tgN 5) tgNil))) L_u_law_sequences_1)
    (setM 1 (slM 3))))
def C_u_law_sequences_2 : M Rs :=
    (slM 4)
def B_u_law_sequences : M Fl :=
    (seqM (setM 1 (lstM (consF (tupM (consF (lstM (ret [])) (consF (opN (g1 listG) (consM (slM 0) (ret []))) (ret [])))) (ret []))))
    (seqM (forS (rng1M (consM (opN (g1 lenG) (consM (slM 0) (ret []))) (ret []))) (tgN 2) L_u_law_sequences_2)
    (retM (lcM [4, 5] (seqS (slM 1)) (tgT 2 (tgCons (tgN 4) (tgCons (tgN 5) tgNil))) (ret true) C_u_law_sequences_2))))
def F_u_law_sequences : Fn := fnOf 1 7 B_u_law_sequences
theorem ar_u_law_sequences : Arity F_u_law_sequences 1 := Arity.of _ _ _
def B_u_law_is_name : M Fl :=
    (retM (andV (op1 (isiG "str") (slM 0)) (op2 inG (op2 ixG (slM 0) (fzM (.int 0))) (fzM (.str "abcdefghijklmnopqrstuvwxyz")))))
def F_u_law_is_name : Fn := fnOf 1 1 B_u_law_is_name
theorem ar_u_law_is_name : Arity F_u_law_is_name 1 := Arity.of _ _ _
def C_u_law_led_1 : M Rs :=
    (iteM (tstM (callM F_u_law_is_name (consM (slM 2) (ret [])))) (op2 ixG (slM 1) (slM 2)) (slM 2))
def B_u_law_led : M Fl :=
    (retM (opN (g1 tupleG) (consM (lcM [2] (seqS (slM 0)) (tgN 2) (ret true) C_u_law_led_1) (ret []))))
def F_u_law_led : Fn := fnOf 2 3 B_u_law_led
theorem ar_u_law_led : Arity F_u_law_led 2 := Arity.of _ _ _
def L_u_law_spelled_1 : M Fl :=
    (drpM (extM 3 (opN (g1 listG) (consM (slM 5) (ret [])))))
def L_u_law_spelled_2 : M Fl :=
    (iteM (andM (tstM (callM F_u_law_is_name (consM (slM 6) (ret [])))) (tstM (op2 notInG (slM 6) (slM 2)))) (putM 2 (slM 6) (op2 ixG (fzM (.str "abcdefghijklmnopqrstuvwxyz")) (opN (g1 lenG) (consM (slM 2) (ret []))))) (ret .nx))
def C_u_law_spelled_1 : M Rs :=
    (tupM (consF (slM 4) (consF (callM F_u_law_led (consM (slM 5) (consM (slM 2) (ret [])))) (ret []))))
def B_u_law_spelled : M Fl :=
    (seqM (setM 2 (ret (.fr (.dict []))))
    (seqM (setM 3 (opN (g1 listG) (consM (slM 0) (ret []))))
    (seqM (forS (seqS (slM 1)) (tgT 2 (tgCons (tgN 4) (tgCons (tgN 5) tgNil))) L_u_law_spelled_1)
    (seqM (forS (seqS (slM 3)) (tgN 6) L_u_law_spelled_2)
    (retM (tupM (consF (fzM (.str "ask")) (consF (callM F_u_law_led (consM (slM 0) (consM (slM 2) (ret [])))) (consF (opN (g1 tupleG) (consM (lcM [4, 5] (seqS (slM 1)) (tgT 2 (tgCons (tgN 4) (tgCons (tgN 5) tgNil))) (ret true) C_u_law_spelled_1) (ret []))) (ret []))))))))))
def F_u_law_spelled : Fn := fnOf 2 7 B_u_law_spelled
theorem ar_u_law_spelled : Arity F_u_law_spelled 2 := Arity.of _ _ _
def B_u_law_term_key : M Fl :=
    (retM (iteM (tstM (callM F_u_law_is_name (consM (slM 0) (ret [])))) (tupM (consF (fzM (.int 2)) (consF (fzM (.int 0)) (consF (slM 0) (ret []))))) (iteM (tstM (op1 (isiG "str") (slM 0))) (tupM (consF (fzM (.int 1)) (consF (fzM (.int 0)) (consF (slM 0) (ret []))))) (tupM (consF (fzM (.int 0)) (consF (slM 0) (consF (fzM (.str "")) (ret []))))))))
def F_u_law_term_key : Fn := fnOf 1 1 B_u_law_term_key
theorem ar_u_law_term_key : Arity F_u_law_term_key 1 := Arity.of _ _ _
def C_u_law_atom_key_1 : M Rs :=
    (callM F_u_law_term_key (consM (slM 1) (ret [])))
def B_u_law_atom_key : M Fl :=
    (retM (tupM (consF (op2 ixG (slM 0) (fzM (.int 0))) (consF (lcM [1] (seqS (op2 ixG (slM 0) (fzM (.int 1)))) (tgN 1) (ret true) C_u_law_atom_key_1) (ret [])))))
def F_u_law_atom_key : Fn := fnOf 1 2 B_u_law_atom_key
theorem ar_u_law_atom_key : Arity F_u_law_atom_key 1 := Arity.of _ _ _
def C_u_law_shape_1 : M Rs :=
    (callM F_u_law_spelled (consM (op2 ixG (slM 0) (fzM (.int 1))) (consM (slM 4) (ret []))))
def C_u_law_shape_2 : M Rs :=
    (callM F_u_law_atom_key (consM (slM 5) (ret [])))
def C_u_law_shape_3 : M Rs :=
    (callM F_u_law_atom_key (consM (slM 5) (ret [])))
def L_u_law_shape_1 : M Fl :=
    (iteM (tstM (op2 ltG (lcM [5] (seqS (op2 ixG (slM 3) (fzM (.int 2)))) (tgN 5) (ret true) C_u_law_shape_2) (lcM [5] (seqS (op2 ixG (slM 2) (fzM (.int 2)))) (tgN 5) (ret true) C_u_law_shape_3))) (setM 2 (slM 3)) (ret .nx))
def B_u_law_shape : M Fl :=
    (seqM (setM 1 (lcM [4] (seqS (callM F_u_law_sequences (consM (op2 ixG (slM 0) (fzM (.int 2))) (ret [])))) (tgN 4) (ret true) C_u_law_shape_1))
    (seqM (setM 2 (op2 ixG (slM 1) (fzM (.int 0))))
    (seqM (forS (seqS (slM 1)) (tgN 3) L_u_law_shape_1)
    (retM (slM 2)))))
def F_u_law_shape : Fn := fnOf 1 6 B_u_law_shape
theorem ar_u_law_shape : Arity F_u_law_shape 1 := Arity.of _ _ _
def C_u_law_names_1 : M Rs :=
    (slM 4)
def L_u_law_names_1 : M Fl :=
    (drpM (extM 1 (lcM [4] (seqS (slM 3)) (tgN 4) (tstM (callM F_u_law_is_name (consM (slM 4) (ret [])))) C_u_law_names_1)))
def B_u_law_names : M Fl :=
    (seqM (setM 1 (lstM (ret [])))
    (seqM (forS (seqS (op2 ixG (slM 0) (fzM (.int 2)))) (tgT 2 (tgCons (tgN 2) (tgCons (tgN 3) tgNil))) L_u_law_names_1)
    (retM (op1 ssetG (slM 1)))))
def F_u_law_names : Fn := fnOf 1 5 B_u_law_names
theorem ar_u_law_names : Arity F_u_law_names 1 := Arity.of _ _ _
def L_u_law_other_1 : M Fl :=
    (putM 4 (slM 5) (mtM "list" 3 popG (consF (callM F_u_law_draw (consM (slM 0) (consM (opN (g1 lenG) (consM (slM 3) (ret []))) (ret [])))) (ret []))))
def L_u_law_other_2 : M Fl :=
    (drpM (mtM "list" 6 appG (consF (mtM "list" 7 popG (consF (callM F_u_law_draw (consM (slM 0) (consM (opN (g1 lenG) (consM (slM 7) (ret []))) (ret [])))) (ret []))) (ret []))))
def C_u_law_other_1 : M Rs :=
    (tupM (consF (slM 9) (consF (callM F_u_law_led (consM (slM 10) (consM (slM 4) (ret [])))) (ret []))))
def B_u_law_other : M Fl :=
    (seqM (setM 2 (callM F_u_law_names (consM (slM 1) (ret []))))
    (seqM (parM 3 4 (lstM (consF (fzM (.str "q")) (consF (fzM (.str "ab")) (consF (fzM (.str "z")) (consF (fzM (.str "x")) (consF (fzM (.str "yy")) (consF (fzM (.str "c")) (ret [])))))))) (ret (.fr (.dict []))))
    (seqM (forS (seqS (slM 2)) (tgN 5) L_u_law_other_1)
    (seqM (parM 6 7 (lstM (ret [])) (opN (g1 listG) (consM (op2 ixG (slM 1) (fzM (.int 2))) (ret []))))
    (seqM (forS (rng1M (consM (opN (g1 lenG) (consM (op2 ixG (slM 1) (fzM (.int 2))) (ret []))) (ret []))) (tgN 8) L_u_law_other_2)
    (retM (tupM (consF (fzM (.str "ask")) (consF (callM F_u_law_led (consM (op2 ixG (slM 1) (fzM (.int 1))) (consM (slM 4) (ret [])))) (consF (opN (g1 tupleG) (consM (lcM [9, 10] (seqS (slM 6)) (tgT 2 (tgCons (tgN 9) (tgCons (tgN 10) tgNil))) (ret true) C_u_law_other_1) (ret []))) (ret [])))))))))))
def F_u_law_other : Fn := fnOf 2 11 B_u_law_other
theorem ar_u_law_other : Arity F_u_law_other 2 := Arity.of _ _ _
def C_u_law_changed_1 : M Rs :=
    (slM 10)
def B_u_law_changed : M Fl :=
    (seqM (setM 2 (callM F_u_law_names (consM (slM 1) (ret []))))
    (seqM (setM 3 (callM F_u_law_draw (consM (slM 0) (consM (opN (g1 lenG) (consM (op2 ixG (slM 1) (fzM (.int 2))) (ret []))) (ret [])))))
    (seqM (asgM (op2 ixG (op2 ixG (slM 1) (fzM (.int 2))) (slM 3)) (tgT 2 (tgCons (tgN 4) (tgCons (tgN 5) tgNil))))
    (seqM (setM 6 (callM F_u_law_draw (consM (slM 0) (consM (opN (g1 lenG) (consM (slM 5) (ret []))) (ret [])))))
    (seqM (setM 7 (op2 addG (op2 addG (slcM (slM 5) (ret none) (partM (slM 6))) (tupM (consF (callM F_u_law_pick (consM (slM 0) (consM (op2 addG (slM 2) (lstM (consF (fzM (.int 1)) (consF (fzM (.str "Red")) (ret []))))) (ret [])))) (ret [])))) (slcM (slM 5) (partM (op2 addG (slM 6) (fzM (.int 1)))) (ret none))))
    (seqM (setM 8 (tupM (consF (fzM (.str "ask")) (consF (op2 ixG (slM 1) (fzM (.int 1))) (consF (op2 addG (op2 addG (slcM (op2 ixG (slM 1) (fzM (.int 2))) (ret none) (partM (slM 3))) (tupM (consF (tupM (consF (slM 4) (consF (slM 7) (ret [])))) (ret [])))) (slcM (op2 ixG (slM 1) (fzM (.int 2))) (partM (op2 addG (slM 3) (fzM (.int 1)))) (ret none))) (ret []))))))
    (seqM (setM 9 (callM F_u_law_names (consM (slM 8) (ret []))))
    (retM (iteM (tstM (op2 eqG (lcM [10] (seqS (op2 ixG (slM 1) (fzM (.int 1)))) (tgN 10) (andM (tstM (callM F_u_law_is_name (consM (slM 10) (ret [])))) (tstM (op2 notInG (slM 10) (slM 9)))) C_u_law_changed_1) (lstM (ret [])))) (slM 8) (slM 1))))))))))
def F_u_law_changed : Fn := fnOf 2 11 B_u_law_changed
theorem ar_u_law_changed : Arity F_u_law_changed 2 := Arity.of _ _ _
def C_is_name_1 : M Rs :=
    (op2 inG (slM 1) (fzM (.str "abcdefghijklmnopqrstuvwxyz")))
def B_is_name : M Fl :=
    (seqM (iteM (orM (notM (tstM (op1 (isiG "str") (slM 0)))) (notM (tstM (chnM leG leG (fzM (.int 1)) (opN (g1 lenG) (consM (slM 0) (ret []))) (fzM (.int 8)))))) (retM (fzM (.bool false))) (ret .nx))
    (retM (opN (g1 allG) (consM (lcM [1] (seqS (slM 0)) (tgN 1) (ret true) C_is_name_1) (ret [])))))
def F_is_name : Fn := fnOf 1 2 B_is_name
theorem ar_is_name : Arity F_is_name 1 := Arity.of _ _ _
def L_with_terms_1 : M Fl :=
    (iteM (andM (tstM (callM F_is_name (consM (slM 3) (ret [])))) (tstM (op2 notInG (slM 3) (slM 2)))) (putM 2 (slM 3) (op2 ixG (fzM (.str "abcdefghijklmnopqrstuvwxyz")) (opN (g1 lenG) (consM (slM 2) (ret []))))) (ret .nx))
def B_with_terms : M Fl :=
    (seqM (setM 2 (opN (g1 dictG) (consM (slM 0) (ret []))))
    (seqM (forS (seqS (slM 1)) (tgN 3) L_with_terms_1)
    (retM (slM 2))))
def F_with_terms : Fn := fnOf 2 4 B_with_terms
theorem ar_with_terms : Arity F_with_terms 2 := Arity.of _ _ _
def C_led_terms_1 : M Rs :=
    (iteM (tstM (callM F_is_name (consM (slM 2) (ret [])))) (op2 ixG (slM 1) (slM 2)) (slM 2))
def B_led_terms : M Fl :=
    (retM (opN (g1 tupleG) (consM (lcM [2] (seqS (slM 0)) (tgN 2) (ret true) C_led_terms_1) (ret []))))
def F_led_terms : Fn := fnOf 2 3 B_led_terms
theorem ar_led_terms : Arity F_led_terms 2 := Arity.of _ _ _
def B_is_integer : M Fl :=
    (retM (andV (op1 (isiG "int") (slM 0)) (blM (notM (tstM (op1 (isiG "bool") (slM 0)))))))
def F_is_integer : Fn := fnOf 1 1 B_is_integer
theorem ar_is_integer : Arity F_is_integer 1 := Arity.of _ _ _
def B_value_key : M Fl :=
    (retM (iteM (tstM (callM F_is_integer (consM (slM 0) (ret [])))) (tupM (consF (fzM (.int 0)) (consF (slM 0) (consF (fzM (.str "")) (ret []))))) (tupM (consF (fzM (.int 1)) (consF (fzM (.int 0)) (consF (slM 0) (ret [])))))))
def F_value_key : Fn := fnOf 1 1 B_value_key
theorem ar_value_key : Arity F_value_key 1 := Arity.of _ _ _
def B_term_key : M Fl :=
    (retM (iteM (tstM (callM F_is_name (consM (slM 0) (ret [])))) (tupM (consF (fzM (.int 2)) (consF (fzM (.int 0)) (consF (slM 0) (ret []))))) (callM F_value_key (consM (slM 0) (ret [])))))
def F_term_key : Fn := fnOf 1 1 B_term_key
theorem ar_term_key : Arity F_term_key 1 := Arity.of _ _ _
def C_atom_key_1 : M Rs :=
    (callM F_term_key (consM (slM 1) (ret [])))
def B_atom_key : M Fl :=
    (retM (tupM (consF (op2 ixG (slM 0) (fzM (.int 0))) (consF (lcM [1] (seqS (op2 ixG (slM 0) (fzM (.int 1)))) (tgN 1) (ret true) C_atom_key_1) (ret [])))))
def F_atom_key : Fn := fnOf 1 2 B_atom_key
theorem ar_atom_key : Arity F_atom_key 1 := Arity.of _ _ _
def L_least_from_1 (F : Fn) : M Fl :=
    (seqM (setM 5 (callM F_with_terms (consM (slM 2) (consM (op2 ixG (slM 4) (fzM (.int 1))) (ret [])))))
    (drpM (mtM "list" 3 appG (consF (tupM (consF (tupM (consF (op2 ixG (slM 4) (fzM (.int 0))) (consF (callM F_led_terms (consM (op2 ixG (slM 4) (fzM (.int 1))) (consM (slM 5) (ret [])))) (ret [])))) (consF (slM 4) (consF (slM 5) (ret []))))) (ret [])))))
def C_least_from_1 (F : Fn) : M Rs :=
    (callM F_atom_key (consM (slM 8) (ret [])))
def C_least_from_2 (F : Fn) : M Rs :=
    (callM F_atom_key (consM (slM 11) (ret [])))
def C_least_from_3 (F : Fn) : M Rs :=
    (callM F_atom_key (consM (slM 11) (ret [])))
def L_least_from_2 (F : Fn) : M Fl :=
    (iteM (tstM (op2 eqG (callM F_atom_key (consM (slM 8) (ret []))) (slM 6))) (seqM (setM 9 (opN (g1 listG) (consM (slM 1) (ret []))))
    (seqM (drpM (mtM "list" 9 remG (consF (slM 4) (ret []))))
    (seqM (setM 10 (callM F (consM (op2 addG (slM 0) (lstM (consF (slM 8) (ret [])))) (consM (slM 9) (consM (slM 5) (ret []))))))
    (iteM (orM (tstM (op2 isG (slM 7) (fzM .none))) (tstM (op2 ltG (lcM [11] (seqS (slM 10)) (tgN 11) (ret true) (C_least_from_2 F)) (lcM [11] (seqS (slM 7)) (tgN 11) (ret true) (C_least_from_3 F))))) (setM 7 (slM 10)) (ret .nx))))) (ret .nx))
def B_least_from (F : Fn) : M Fl :=
    (seqM (iteM (tstM (op2 eqG (slM 1) (lstM (ret [])))) (retM (slM 0)) (ret .nx))
    (seqM (setM 3 (lstM (ret [])))
    (seqM (forS (seqS (slM 1)) (tgN 4) (L_least_from_1 F))
    (seqM (setM 6 (opN (g1 minG) (consM (lcM [8, 4, 5] (seqS (slM 3)) (tgT 3 (tgCons (tgN 8) (tgCons (tgN 4) (tgCons (tgN 5) tgNil)))) (ret true) (C_least_from_1 F)) (ret []))))
    (seqM (setM 7 (fzM .none))
    (seqM (forS (seqS (slM 3)) (tgT 3 (tgCons (tgN 8) (tgCons (tgN 4) (tgCons (tgN 5) tgNil)))) (L_least_from_2 F))
    (retM (slM 7))))))))
def F_least_from_ : Nat → Fn
  | 0 => fun _ _ => none
  | n + 1 => fnOf 3 12 (B_least_from (F_least_from_ n))
abbrev F_least_from : Fn := F_least_from_ 12
theorem ar_least_from_ : ∀ n, Arity (F_least_from_ n) 3
  | 0 => Arity.no 3
  | n + 1 => Arity.of _ _ _
theorem ar_least_from : Arity F_least_from 3 := ar_least_from_ 12
def B_form_in : M Fl :=
    (seqM (setM 1 (callM F_with_terms (consM (ret (.fr (.dict []))) (consM (op2 ixG (slM 0) (fzM (.int 1))) (ret [])))))
    (retM (tupM (consF (fzM (.str "ask")) (consF (callM F_led_terms (consM (op2 ixG (slM 0) (fzM (.int 1))) (consM (slM 1) (ret [])))) (consF (opN (g1 tupleG) (consM (callM F_least_from (consM (lstM (ret [])) (consM (opN (g1 listG) (consM (op2 ixG (slM 0) (fzM (.int 2))) (ret []))) (consM (slM 1) (ret []))))) (ret []))) (ret [])))))))
def F_form_in : Fn := fnOf 1 2 B_form_in
theorem ar_form_in : Arity F_form_in 1 := Arity.of _ _ _
def B_is_row : M Fl :=
    (retM (andV (op1 (isiG "tuple") (slM 0)) (op2 eqG (opN (g1 lenG) (consM (slM 0) (ret []))) (slM 1))))
def F_is_row : Fn := fnOf 2 2 B_is_row
theorem ar_is_row : Arity F_is_row 2 := Arity.of _ _ _
def C_is_word_1 : M Rs :=
    (orV (op2 inG (slM 1) (fzM (.str "abcdefghijklmnopqrstuvwxyz"))) (orV (op2 inG (slM 1) (fzM (.str "ABCDEFGHIJKLMNOPQRSTUVWXYZ"))) (op2 inG (slM 1) (fzM (.str "0123456789")))))
def B_is_word : M Fl :=
    (seqM (iteM (orM (notM (tstM (op1 (isiG "str") (slM 0)))) (orM (notM (tstM (chnM leG leG (fzM (.int 1)) (opN (g1 lenG) (consM (slM 0) (ret []))) (fzM (.int 12))))) (tstM (op2 notInG (op2 ixG (slM 0) (fzM (.int 0))) (fzM (.str "ABCDEFGHIJKLMNOPQRSTUVWXYZ")))))) (retM (fzM (.bool false))) (ret .nx))
    (retM (opN (g1 allG) (consM (lcM [1] (seqS (slM 0)) (tgN 1) (ret true) C_is_word_1) (ret [])))))
def F_is_word : Fn := fnOf 1 2 B_is_word
theorem ar_is_word : Arity F_is_word 1 := Arity.of _ _ _
def B_is_value : M Fl :=
    (retM (orV (callM F_is_word (consM (slM 0) (ret []))) (andV (callM F_is_integer (consM (slM 0) (ret []))) (op2 ltG (opN (g1 absG) (consM (slM 0) (ret []))) (fzM (.int 1000000000))))))
def F_is_value : Fn := fnOf 1 1 B_is_value
theorem ar_is_value : Arity F_is_value 1 := Arity.of _ _ _
def B_is_term : M Fl :=
    (retM (orV (callM F_is_name (consM (slM 0) (ret []))) (callM F_is_value (consM (slM 0) (ret [])))))
def F_is_term : Fn := fnOf 1 1 B_is_term
theorem ar_is_term : Arity F_is_term 1 := Arity.of _ _ _
def C_is_terms_1 : M Rs :=
    (callM F_is_term (consM (slM 3) (ret [])))
def B_is_terms : M Fl :=
    (retM (andV (op1 (isiG "tuple") (slM 0)) (andV (chnM leG leG (slM 1) (opN (g1 lenG) (consM (slM 0) (ret []))) (slM 2)) (opN (g1 allG) (consM (lcM [3] (seqS (slM 0)) (tgN 3) (ret true) C_is_terms_1) (ret []))))))
def F_is_terms : Fn := fnOf 3 4 B_is_terms
theorem ar_is_terms : Arity F_is_terms 3 := Arity.of _ _ _
def B_is_atom : M Fl :=
    (retM (andV (callM F_is_row (consM (slM 0) (consM (fzM (.int 2)) (ret [])))) (andV (callM F_is_word (consM (op2 ixG (slM 0) (fzM (.int 0))) (ret []))) (callM F_is_terms (consM (op2 ixG (slM 0) (fzM (.int 1))) (consM (fzM (.int 1)) (consM (fzM (.int 4)) (ret []))))))))
def F_is_atom : Fn := fnOf 1 1 B_is_atom
theorem ar_is_atom : Arity F_is_atom 1 := Arity.of _ _ _
def C_names_in_1 : M Rs :=
    (slM 4)
def L_names_in_1 : M Fl :=
    (drpM (extM 1 (lcM [4] (seqS (slM 3)) (tgN 4) (tstM (callM F_is_name (consM (slM 4) (ret [])))) C_names_in_1)))
def B_names_in : M Fl :=
    (seqM (setM 1 (lstM (ret [])))
    (seqM (forS (seqS (slM 0)) (tgT 2 (tgCons (tgN 2) (tgCons (tgN 3) tgNil))) L_names_in_1)
    (retM (op1 ssetG (slM 1)))))
def F_names_in : Fn := fnOf 1 5 B_names_in
theorem ar_names_in : Arity F_names_in 1 := Arity.of _ _ _
def L_unlike_table_1 : M Fl :=
    (iteM (tstM (op2 neG (mtM "dict" 1 sdG (consF (slM 3) (consF (opN (g1 lenG) (consM (slM 4) (ret []))) (ret [])))) (opN (g1 lenG) (consM (slM 4) (ret []))))) (drpM (mtM "list" 2 appG (consF (slM 3) (ret [])))) (ret .nx))
def B_unlike_table : M Fl :=
    (seqM (parM 1 2 (ret (.fr (.dict []))) (lstM (ret [])))
    (seqM (forS (seqS (slM 0)) (tgT 2 (tgCons (tgN 3) (tgCons (tgN 4) tgNil))) L_unlike_table_1)
    (retM (iteM (tstM (op2 neG (slM 2) (lstM (ret [])))) (opN (g1 minG) (consM (slM 2) (ret []))) (fzM .none)))))
def F_unlike_table : Fn := fnOf 1 5 B_unlike_table
theorem ar_unlike_table : Arity F_unlike_table 1 := Arity.of _ _ _
def C_is_question_of_1 : M Rs :=
    (callM F_is_atom (consM (slM 2) (ret [])))
def C_is_question_of_2 : M Rs :=
    (op2 inG (slM 3) (slM 1))
def B_is_question_of : M Fl :=
    (seqM (iteM (orM (notM (tstM (callM F_is_row (consM (slM 0) (consM (fzM (.int 3)) (ret [])))))) (orM (tstM (op2 neG (op2 ixG (slM 0) (fzM (.int 0))) (fzM (.str "ask")))) (notM (tstM (callM F_is_terms (consM (op2 ixG (slM 0) (fzM (.int 1))) (consM (fzM (.int 0)) (consM (fzM (.int 4)) (ret []))))))))) (retM (fzM (.bool false))) (ret .nx))
    (seqM (iteM (orM (notM (tstM (op1 (isiG "tuple") (op2 ixG (slM 0) (fzM (.int 2)))))) (notM (tstM (chnM leG leG (fzM (.int 1)) (opN (g1 lenG) (consM (op2 ixG (slM 0) (fzM (.int 2))) (ret []))) (fzM (.int 6)))))) (retM (fzM (.bool false))) (ret .nx))
    (seqM (iteM (notM (tstM (opN (g1 allG) (consM (lcM [2] (seqS (op2 ixG (slM 0) (fzM (.int 2)))) (tgN 2) (ret true) C_is_question_of_1) (ret []))))) (retM (fzM (.bool false))) (ret .nx))
    (seqM (setM 1 (callM F_names_in (consM (op2 ixG (slM 0) (fzM (.int 2))) (ret []))))
    (retM (andV (op2 isG (callM F_unlike_table (consM (op2 ixG (slM 0) (fzM (.int 2))) (ret []))) (fzM .none)) (opN (g1 allG) (consM (lcM [3] (seqS (op2 ixG (slM 0) (fzM (.int 1)))) (tgN 3) (tstM (callM F_is_name (consM (slM 3) (ret [])))) C_is_question_of_2) (ret [])))))))))
def F_is_question_of : Fn := fnOf 1 4 B_is_question_of
theorem ar_is_question_of : Arity F_is_question_of 1 := Arity.of _ _ _
def B_want_question : M Fl :=
    (seqM (iteM (notM (tstM (callM F_is_question_of (consM (slM 0) (ret []))))) noM (ret .nx))
    (retM (slM 0)))
def F_want_question : Fn := fnOf 1 1 B_want_question
theorem ar_want_question : Arity F_want_question 1 := Arity.of _ _ _
def B_form_of : M Fl :=
    (retM (callM F_form_in (consM (callM F_want_question (consM (slM 0) (ret []))) (ret []))))
def F_form_of : Fn := fnOf 1 1 B_form_of
theorem ar_form_of : Arity F_form_of 1 := Arity.of _ _ _
def B_are_one_form : M Fl :=
    (retM (op2 eqG (callM F_form_in (consM (callM F_want_question (consM (slM 0) (ret []))) (ret []))) (callM F_form_in (consM (callM F_want_question (consM (slM 1) (ret []))) (ret [])))))
def F_are_one_form : Fn := fnOf 2 2 B_are_one_form
theorem ar_are_one_form : Arity F_are_one_form 2 := Arity.of _ _ _
def L_law_1 : M Fl :=
    (seqM (setM 3 (callM F_u_law_question (consM (slM 1) (consM (fzM (.int 4)) (consM (callM F_u_law_draw (consM (slM 1) (consM (fzM (.int 3)) (ret [])))) (ret []))))))
    (seqM (iteM (tstM (op2 eqG (slM 2) (fzM (.int 0)))) (setM 3 (tupM (consF (fzM (.str "ask")) (consF (op2 ixG (slM 3) (fzM (.int 1))) (consF (op2 addG (op2 ixG (slM 3) (fzM (.int 2))) (slcM (op2 ixG (slM 3) (fzM (.int 2))) (ret none) (partM (fzM (.int 1))))) (ret [])))))) (ret .nx))
    (seqM (par3M 4 5 6 (consF (callM F_u_law_shape (consM (slM 3) (ret []))) (consF (callM F_u_law_other (consM (slM 1) (consM (slM 3) (ret [])))) (consF (callM F_u_law_changed (consM (slM 1) (consM (slM 3) (ret [])))) (ret [])))))
    (seqM (iteM (tstM (op2 neG (opN (g1 reprG) (consM (lstM (consF (callM F_form_of (consM (slM 3) (ret []))) (consF (callKM 0 1 [0] F_form_of (ret []) (consM (slM 5) (ret []))) (consF (callM F_form_of (consM (slM 4) (ret []))) (ret []))))) (ret []))) (opN (g1 reprG) (consM (repM (lstM (consF (slM 4) (ret []))) (fzM (.int 3))) (ret []))))) (retM (fzM (.bool false))) (ret .nx))
    (seqM (setM 7 (op2 eqG (callM F_u_law_shape (consM (slM 6) (ret []))) (slM 4)))
    (seqM (setM 8 (lstM (consF (callM F_are_one_form (consM (slM 3) (consM (slM 5) (ret [])))) (consF (callKM 0 2 [1, 0] F_are_one_form (ret []) (consM (slM 6) (consM (slM 3) (ret [])))) (consF (callM F_are_one_form (consM (slM 6) (consM (slM 5) (ret [])))) (ret []))))))
    (iteM (tstM (op2 neG (opN (g1 reprG) (consM (slM 8) (ret []))) (opN (g1 reprG) (consM (lstM (consF (fzM (.bool true)) (consF (slM 7) (consF (slM 7) (ret []))))) (ret []))))) (retM (fzM (.bool false))) (ret .nx))))))))
def B_law : M Fl :=
    (seqM (potM 1 (callM F_u_law_pot (consM (slM 0) (consM (fzM (.int 0)) (ret [])))))
    (seqM (forS (rng1M (consM (fzM (.int 3)) (ret []))) (tgN 2) L_law_1)
    (retM (fzM (.bool true)))))
def F_law : Fn := fnOf 1 9 B_law
theorem ar_law : Arity F_law 1 := Arity.of _ _ _
/-! where they stand -/
structure Wd (K : PySem.W.Frag) (mg : Str → Option Value) : Type where
  a_u_law_pot : Addr
  d_u_law_pot : FuncData
  p_u_law_pot : FnP K "_law_pot" s_u_law_pot a_u_law_pot d_u_law_pot
  m_u_law_pot : mg "_law_pot" = some (.ref a_u_law_pot)
  a_u_law_draw : Addr
  d_u_law_draw : FuncData
  p_u_law_draw : FnP K "_law_draw" s_u_law_draw a_u_law_draw d_u_law_draw
  m_u_law_draw : mg "_law_draw" = some (.ref a_u_law_draw)
  a_u_law_pick : Addr
  d_u_law_pick : FuncData
  p_u_law_pick : FnP K "_law_pick" s_u_law_pick a_u_law_pick d_u_law_pick
  m_u_law_pick : mg "_law_pick" = some (.ref a_u_law_pick)
  a_u_law_terms : Addr
  d_u_law_terms : FuncData
  p_u_law_terms : FnP K "_law_terms" s_u_law_terms a_u_law_terms d_u_law_terms
  m_u_law_terms : mg "_law_terms" = some (.ref a_u_law_terms)
  a_u_law_question : Addr
  d_u_law_question : FuncData
  p_u_law_question : FnP K "_law_question" s_u_law_question a_u_law_question d_u_law_question
  m_u_law_question : mg "_law_question" = some (.ref a_u_law_question)
  a_u_law_sequences : Addr
  d_u_law_sequences : FuncData
  p_u_law_sequences : FnP K "_law_sequences" s_u_law_sequences a_u_law_sequences d_u_law_sequences
  m_u_law_sequences : mg "_law_sequences" = some (.ref a_u_law_sequences)
  a_u_law_is_name : Addr
  d_u_law_is_name : FuncData
  p_u_law_is_name : FnP K "_law_is_name" s_u_law_is_name a_u_law_is_name d_u_law_is_name
  m_u_law_is_name : mg "_law_is_name" = some (.ref a_u_law_is_name)
  a_u_law_led : Addr
  d_u_law_led : FuncData
  p_u_law_led : FnP K "_law_led" s_u_law_led a_u_law_led d_u_law_led
  m_u_law_led : mg "_law_led" = some (.ref a_u_law_led)
  a_u_law_spelled : Addr
  d_u_law_spelled : FuncData
  p_u_law_spelled : FnP K "_law_spelled" s_u_law_spelled a_u_law_spelled d_u_law_spelled
  m_u_law_spelled : mg "_law_spelled" = some (.ref a_u_law_spelled)
  a_u_law_term_key : Addr
  d_u_law_term_key : FuncData
  p_u_law_term_key : FnP K "_law_term_key" s_u_law_term_key a_u_law_term_key d_u_law_term_key
  m_u_law_term_key : mg "_law_term_key" = some (.ref a_u_law_term_key)
  a_u_law_atom_key : Addr
  d_u_law_atom_key : FuncData
  p_u_law_atom_key : FnP K "_law_atom_key" s_u_law_atom_key a_u_law_atom_key d_u_law_atom_key
  m_u_law_atom_key : mg "_law_atom_key" = some (.ref a_u_law_atom_key)
  a_u_law_shape : Addr
  d_u_law_shape : FuncData
  p_u_law_shape : FnP K "_law_shape" s_u_law_shape a_u_law_shape d_u_law_shape
  m_u_law_shape : mg "_law_shape" = some (.ref a_u_law_shape)
  a_u_law_names : Addr
  d_u_law_names : FuncData
  p_u_law_names : FnP K "_law_names" s_u_law_names a_u_law_names d_u_law_names
  m_u_law_names : mg "_law_names" = some (.ref a_u_law_names)
  a_u_law_other : Addr
  d_u_law_other : FuncData
  p_u_law_other : FnP K "_law_other" s_u_law_other a_u_law_other d_u_law_other
  m_u_law_other : mg "_law_other" = some (.ref a_u_law_other)
  a_u_law_changed : Addr
  d_u_law_changed : FuncData
  p_u_law_changed : FnP K "_law_changed" s_u_law_changed a_u_law_changed d_u_law_changed
  m_u_law_changed : mg "_law_changed" = some (.ref a_u_law_changed)
  a_is_name : Addr
  d_is_name : FuncData
  p_is_name : FnP K "is_name" s_is_name a_is_name d_is_name
  m_is_name : mg "is_name" = some (.ref a_is_name)
  a_with_terms : Addr
  d_with_terms : FuncData
  p_with_terms : FnP K "with_terms" s_with_terms a_with_terms d_with_terms
  m_with_terms : mg "with_terms" = some (.ref a_with_terms)
  a_led_terms : Addr
  d_led_terms : FuncData
  p_led_terms : FnP K "led_terms" s_led_terms a_led_terms d_led_terms
  m_led_terms : mg "led_terms" = some (.ref a_led_terms)
  a_is_integer : Addr
  d_is_integer : FuncData
  p_is_integer : FnP K "is_integer" s_is_integer a_is_integer d_is_integer
  m_is_integer : mg "is_integer" = some (.ref a_is_integer)
  a_value_key : Addr
  d_value_key : FuncData
  p_value_key : FnP K "value_key" s_value_key a_value_key d_value_key
  m_value_key : mg "value_key" = some (.ref a_value_key)
  a_term_key : Addr
  d_term_key : FuncData
  p_term_key : FnP K "term_key" s_term_key a_term_key d_term_key
  m_term_key : mg "term_key" = some (.ref a_term_key)
  a_atom_key : Addr
  d_atom_key : FuncData
  p_atom_key : FnP K "atom_key" s_atom_key a_atom_key d_atom_key
  m_atom_key : mg "atom_key" = some (.ref a_atom_key)
  a_least_from : Addr
  d_least_from : FuncData
  p_least_from : FnP K "least_from" s_least_from a_least_from d_least_from
  m_least_from : mg "least_from" = some (.ref a_least_from)
  a_form_in : Addr
  d_form_in : FuncData
  p_form_in : FnP K "form_in" s_form_in a_form_in d_form_in
  m_form_in : mg "form_in" = some (.ref a_form_in)
  a_is_row : Addr
  d_is_row : FuncData
  p_is_row : FnP K "is_row" s_is_row a_is_row d_is_row
  m_is_row : mg "is_row" = some (.ref a_is_row)
  a_is_word : Addr
  d_is_word : FuncData
  p_is_word : FnP K "is_word" s_is_word a_is_word d_is_word
  m_is_word : mg "is_word" = some (.ref a_is_word)
  a_is_value : Addr
  d_is_value : FuncData
  p_is_value : FnP K "is_value" s_is_value a_is_value d_is_value
  m_is_value : mg "is_value" = some (.ref a_is_value)
  a_is_term : Addr
  d_is_term : FuncData
  p_is_term : FnP K "is_term" s_is_term a_is_term d_is_term
  m_is_term : mg "is_term" = some (.ref a_is_term)
  a_is_terms : Addr
  d_is_terms : FuncData
  p_is_terms : FnP K "is_terms" s_is_terms a_is_terms d_is_terms
  m_is_terms : mg "is_terms" = some (.ref a_is_terms)
  a_is_atom : Addr
  d_is_atom : FuncData
  p_is_atom : FnP K "is_atom" s_is_atom a_is_atom d_is_atom
  m_is_atom : mg "is_atom" = some (.ref a_is_atom)
  a_names_in : Addr
  d_names_in : FuncData
  p_names_in : FnP K "names_in" s_names_in a_names_in d_names_in
  m_names_in : mg "names_in" = some (.ref a_names_in)
  a_unlike_table : Addr
  d_unlike_table : FuncData
  p_unlike_table : FnP K "unlike_table" s_unlike_table a_unlike_table d_unlike_table
  m_unlike_table : mg "unlike_table" = some (.ref a_unlike_table)
  a_is_question_of : Addr
  d_is_question_of : FuncData
  p_is_question_of : FnP K "is_question_of" s_is_question_of a_is_question_of d_is_question_of
  m_is_question_of : mg "is_question_of" = some (.ref a_is_question_of)
  a_want_question : Addr
  d_want_question : FuncData
  p_want_question : FnP K "want_question" s_want_question a_want_question d_want_question
  m_want_question : mg "want_question" = some (.ref a_want_question)
  a_form_of : Addr
  d_form_of : FuncData
  p_form_of : FnP K "form_of" s_form_of a_form_of d_form_of
  m_form_of : mg "form_of" = some (.ref a_form_of)
  a_are_one_form : Addr
  d_are_one_form : FuncData
  p_are_one_form : FnP K "are_one_form" s_are_one_form a_are_one_form d_are_one_form
  m_are_one_form : mg "are_one_form" = some (.ref a_are_one_form)
  n_range : mg "range" = none
  n_repr : mg "repr" = none
  n_len : mg "len" = none
  n_abs : mg "abs" = none
  n_max : mg "max" = none
  n_int : mg "int" = none
  n_sorted : mg "sorted" = none
  n_set : mg "set" = none
  n_tuple : mg "tuple" = none
  n_divmod : mg "divmod" = none
  n_list : mg "list" = none
  n_isinstance : mg "isinstance" = none
  n_str : mg "str" = none
  n_dict : mg "dict" = none
  n_all : mg "all" = none
  n_min : mg "min" = none
  n_bool : mg "bool" = none
  c_ASK : ∃ t, mg "ASK" = some (.str "ask" t)
  c_LETTERS : ∃ t, mg "LETTERS" = some (.str "abcdefghijklmnopqrstuvwxyz" t)
  c_MOST_NAME : ∃ t, mg "MOST_NAME" = some (.int 8 t)
  c_SMALL : ∃ t, mg "SMALL" = some (.str "abcdefghijklmnopqrstuvwxyz" t)
  c_MOST_HEAD : ∃ t, mg "MOST_HEAD" = some (.int 4 t)
  c_MOST_ATOMS : ∃ t, mg "MOST_ATOMS" = some (.int 6 t)
  c_MOST_VALUE : ∃ t, mg "MOST_VALUE" = some (.int 1000000000 t)
  c_MOST_WORD : ∃ t, mg "MOST_WORD" = some (.int 12 t)
  c_CAPITALS : ∃ t, mg "CAPITALS" = some (.str "ABCDEFGHIJKLMNOPQRSTUVWXYZ" t)
  c_DIGITS : ∃ t, mg "DIGITS" = some (.str "0123456789" t)
  c_MOST_TERMS : ∃ t, mg "MOST_TERMS" = some (.int 4 t)
theorem Wd.b_u_law_pot {K : PySem.W.Frag} {mg : Str → Option Value} (W : Wd K mg) : Binds K W.d_u_law_pot ["script", "k"] [] := W.p_u_law_pot.bindsN fun _ _ _ _ _ _ us hl => match us, hl with | [_, _], _ => rfl
theorem Wd.b_u_law_draw {K : PySem.W.Frag} {mg : Str → Option Value} (W : Wd K mg) : Binds K W.d_u_law_draw ["pot", "size"] [] := W.p_u_law_draw.bindsN fun _ _ _ _ _ _ us hl => match us, hl with | [_, _], _ => rfl
theorem Wd.b_u_law_pick {K : PySem.W.Frag} {mg : Str → Option Value} (W : Wd K mg) : Binds K W.d_u_law_pick ["pot", "some"] [] := W.p_u_law_pick.bindsN fun _ _ _ _ _ _ us hl => match us, hl with | [_, _], _ => rfl
theorem Wd.b_u_law_terms {K : PySem.W.Frag} {mg : Str → Option Value} (W : Wd K mg) : Binds K W.d_u_law_terms ["pot", "many", "names", "values"] [] := W.p_u_law_terms.bindsN fun _ _ _ _ _ _ us hl => match us, hl with | [_, _, _, _], _ => rfl
theorem Wd.b_u_law_question {K : PySem.W.Frag} {mg : Str → Option Value} (W : Wd K mg) : Binds K W.d_u_law_question ["pot", "most", "long"] [] := W.p_u_law_question.bindsN fun _ _ _ _ _ _ us hl => match us, hl with | [_, _, _], _ => rfl
theorem Wd.b_u_law_sequences {K : PySem.W.Frag} {mg : Str → Option Value} (W : Wd K mg) : Binds K W.d_u_law_sequences ["items"] [] := W.p_u_law_sequences.bindsN fun _ _ _ _ _ _ us hl => match us, hl with | [_], _ => rfl
theorem Wd.b_u_law_is_name {K : PySem.W.Frag} {mg : Str → Option Value} (W : Wd K mg) : Binds K W.d_u_law_is_name ["term"] [] := W.p_u_law_is_name.bindsN fun _ _ _ _ _ _ us hl => match us, hl with | [_], _ => rfl
theorem Wd.b_u_law_led {K : PySem.W.Frag} {mg : Str → Option Value} (W : Wd K mg) : Binds K W.d_u_law_led ["terms", "led"] [] := W.p_u_law_led.bindsN fun _ _ _ _ _ _ us hl => match us, hl with | [_, _], _ => rfl
theorem Wd.b_u_law_spelled {K : PySem.W.Frag} {mg : Str → Option Value} (W : Wd K mg) : Binds K W.d_u_law_spelled ["head", "atoms"] [] := W.p_u_law_spelled.bindsN fun _ _ _ _ _ _ us hl => match us, hl with | [_, _], _ => rfl
theorem Wd.b_u_law_term_key {K : PySem.W.Frag} {mg : Str → Option Value} (W : Wd K mg) : Binds K W.d_u_law_term_key ["term"] [] := W.p_u_law_term_key.bindsN fun _ _ _ _ _ _ us hl => match us, hl with | [_], _ => rfl
theorem Wd.b_u_law_atom_key {K : PySem.W.Frag} {mg : Str → Option Value} (W : Wd K mg) : Binds K W.d_u_law_atom_key ["atom"] [] := W.p_u_law_atom_key.bindsN fun _ _ _ _ _ _ us hl => match us, hl with | [_], _ => rfl
theorem Wd.b_u_law_shape {K : PySem.W.Frag} {mg : Str → Option Value} (W : Wd K mg) : Binds K W.d_u_law_shape ["question"] [] := W.p_u_law_shape.bindsN fun _ _ _ _ _ _ us hl => match us, hl with | [_], _ => rfl
theorem Wd.b_u_law_names {K : PySem.W.Frag} {mg : Str → Option Value} (W : Wd K mg) : Binds K W.d_u_law_names ["question"] [] := W.p_u_law_names.bindsN fun _ _ _ _ _ _ us hl => match us, hl with | [_], _ => rfl
theorem Wd.b_u_law_other {K : PySem.W.Frag} {mg : Str → Option Value} (W : Wd K mg) : Binds K W.d_u_law_other ["pot", "question"] [] := W.p_u_law_other.bindsN fun _ _ _ _ _ _ us hl => match us, hl with | [_, _], _ => rfl
theorem Wd.b_u_law_changed {K : PySem.W.Frag} {mg : Str → Option Value} (W : Wd K mg) : Binds K W.d_u_law_changed ["pot", "question"] [] := W.p_u_law_changed.bindsN fun _ _ _ _ _ _ us hl => match us, hl with | [_, _], _ => rfl
theorem Wd.b_is_name {K : PySem.W.Frag} {mg : Str → Option Value} (W : Wd K mg) : Binds K W.d_is_name ["value"] [] := W.p_is_name.bindsN fun _ _ _ _ _ _ us hl => match us, hl with | [_], _ => rfl
theorem Wd.b_with_terms {K : PySem.W.Frag} {mg : Str → Option Value} (W : Wd K mg) : Binds K W.d_with_terms ["led", "terms"] [] := W.p_with_terms.bindsN fun _ _ _ _ _ _ us hl => match us, hl with | [_, _], _ => rfl
theorem Wd.b_led_terms {K : PySem.W.Frag} {mg : Str → Option Value} (W : Wd K mg) : Binds K W.d_led_terms ["terms", "led"] [] := W.p_led_terms.bindsN fun _ _ _ _ _ _ us hl => match us, hl with | [_, _], _ => rfl
theorem Wd.b_is_integer {K : PySem.W.Frag} {mg : Str → Option Value} (W : Wd K mg) : Binds K W.d_is_integer ["value"] [] := W.p_is_integer.bindsN fun _ _ _ _ _ _ us hl => match us, hl with | [_], _ => rfl
theorem Wd.b_value_key {K : PySem.W.Frag} {mg : Str → Option Value} (W : Wd K mg) : Binds K W.d_value_key ["value"] [] := W.p_value_key.bindsN fun _ _ _ _ _ _ us hl => match us, hl with | [_], _ => rfl
theorem Wd.b_term_key {K : PySem.W.Frag} {mg : Str → Option Value} (W : Wd K mg) : Binds K W.d_term_key ["term"] [] := W.p_term_key.bindsN fun _ _ _ _ _ _ us hl => match us, hl with | [_], _ => rfl
theorem Wd.b_atom_key {K : PySem.W.Frag} {mg : Str → Option Value} (W : Wd K mg) : Binds K W.d_atom_key ["atom"] [] := W.p_atom_key.bindsN fun _ _ _ _ _ _ us hl => match us, hl with | [_], _ => rfl
theorem Wd.b_least_from {K : PySem.W.Frag} {mg : Str → Option Value} (W : Wd K mg) : Binds K W.d_least_from ["told", "left", "led"] [] := W.p_least_from.bindsN fun _ _ _ _ _ _ us hl => match us, hl with | [_, _, _], _ => rfl
theorem Wd.b_form_in {K : PySem.W.Frag} {mg : Str → Option Value} (W : Wd K mg) : Binds K W.d_form_in ["question"] [] := W.p_form_in.bindsN fun _ _ _ _ _ _ us hl => match us, hl with | [_], _ => rfl
theorem Wd.b_is_row {K : PySem.W.Frag} {mg : Str → Option Value} (W : Wd K mg) : Binds K W.d_is_row ["value", "many"] [] := W.p_is_row.bindsN fun _ _ _ _ _ _ us hl => match us, hl with | [_, _], _ => rfl
theorem Wd.b_is_word {K : PySem.W.Frag} {mg : Str → Option Value} (W : Wd K mg) : Binds K W.d_is_word ["value"] [] := W.p_is_word.bindsN fun _ _ _ _ _ _ us hl => match us, hl with | [_], _ => rfl
theorem Wd.b_is_value {K : PySem.W.Frag} {mg : Str → Option Value} (W : Wd K mg) : Binds K W.d_is_value ["value"] [] := W.p_is_value.bindsN fun _ _ _ _ _ _ us hl => match us, hl with | [_], _ => rfl
theorem Wd.b_is_term {K : PySem.W.Frag} {mg : Str → Option Value} (W : Wd K mg) : Binds K W.d_is_term ["value"] [] := W.p_is_term.bindsN fun _ _ _ _ _ _ us hl => match us, hl with | [_], _ => rfl
theorem Wd.b_is_terms {K : PySem.W.Frag} {mg : Str → Option Value} (W : Wd K mg) : Binds K W.d_is_terms ["value", "least", "most"] [] := W.p_is_terms.bindsN fun _ _ _ _ _ _ us hl => match us, hl with | [_, _, _], _ => rfl
theorem Wd.b_is_atom {K : PySem.W.Frag} {mg : Str → Option Value} (W : Wd K mg) : Binds K W.d_is_atom ["value"] [] := W.p_is_atom.bindsN fun _ _ _ _ _ _ us hl => match us, hl with | [_], _ => rfl
theorem Wd.b_names_in {K : PySem.W.Frag} {mg : Str → Option Value} (W : Wd K mg) : Binds K W.d_names_in ["atoms"] [] := W.p_names_in.bindsN fun _ _ _ _ _ _ us hl => match us, hl with | [_], _ => rfl
theorem Wd.b_unlike_table {K : PySem.W.Frag} {mg : Str → Option Value} (W : Wd K mg) : Binds K W.d_unlike_table ["atoms"] [] := W.p_unlike_table.bindsN fun _ _ _ _ _ _ us hl => match us, hl with | [_], _ => rfl
theorem Wd.b_is_question_of {K : PySem.W.Frag} {mg : Str → Option Value} (W : Wd K mg) : Binds K W.d_is_question_of ["value"] [] := W.p_is_question_of.bindsN fun _ _ _ _ _ _ us hl => match us, hl with | [_], _ => rfl
theorem Wd.b_want_question {K : PySem.W.Frag} {mg : Str → Option Value} (W : Wd K mg) : Binds K W.d_want_question ["value"] [] := W.p_want_question.bindsN fun _ _ _ _ _ _ us hl => match us, hl with | [_], _ => rfl
theorem Wd.b_form_of {K : PySem.W.Frag} {mg : Str → Option Value} (W : Wd K mg) : Binds K W.d_form_of ["question"] [] := W.p_form_of.bindsN fun _ _ _ _ _ _ us hl => match us, hl with | [_], _ => rfl
theorem Wd.b_are_one_form {K : PySem.W.Frag} {mg : Str → Option Value} (W : Wd K mg) : Binds K W.d_are_one_form ["question", "other_question"] [] := W.p_are_one_form.bindsN fun _ _ _ _ _ _ us hl => match us, hl with | [_, _], _ => rfl
section
variable {P : Program} {w : World} {K : PySem.W.Frag} {mg : Str → Option Value} {base : Heap}
theorem ok_u_law_pot (W : Wd K mg) : FnOk P w K mg base CX0 1 W.a_u_law_pot W.d_u_law_pot ["script", "k"] (spD K 2 F_u_law_pot) :=
  fn_ok W.p_u_law_pot sc_u_law_pot (k := 0) fun cdv A outer s H E hr => by
    have hu := DV.hu_of hr
    have hu64 := DV.hu64_of hr
    have hu70 := DV.hu70_of hr
    exact (dss_cons (ds_set (i := 2) (de_if (dt_cmp o_lt (op_ltA hu) (de_name 1) (de_blt call_lenA o_len boot_len W.n_len (da_cons (de_name 0) da_nil))) (de_blt call_abs o_abs boot_abs W.n_abs (da_cons (de_ix hu (de_name 0) (de_name 1)) da_nil)) (de_op o_add op_addA (de_op o_mul op_mulA de_int (de_name 1)) de_int)) sc_u_law_pot.nd)
    (dss_one (ds_ret (de_lst (df_cons (de_blt (call_max2 rfl) o_max2 boot_max W.n_max (da_cons de_int (da_cons (de_op o_sub op_sub (de_name 2) (de_op o_pow op_pow de_int de_int)) da_nil))) (df_cons (de_op o_add op_addA (de_op o_mod op_mod (de_ty call_int1 o_int1 boot_int W.n_int (da_cons (de_op o_add op_addA (de_op o_add op_addA (de_op o_mul op_mulA (de_op o_mod op_mod (de_ty call_int1 o_int1 boot_int W.n_int (da_cons (de_name 2) da_nil)) de_int) de_int) (de_op o_mul op_mulA de_int (de_name 1))) de_int) da_nil)) de_int) de_int) df_nil))))))
theorem ok_u_law_draw (W : Wd K mg) : FnOk P w K mg base CX0 1 W.a_u_law_draw W.d_u_law_draw ["pot", "size"] (spD K 2 F_u_law_draw) :=
  fn_ok W.p_u_law_draw sc_u_law_draw (k := 0) fun cdv A outer s H E hr => by
    have hu := DV.hu_of hr
    have hu64 := DV.hu64_of hr
    have hu70 := DV.hu70_of hr
    exact (dss_cons (ds_if (dt_cmp o_cmp op_gt (de_ix hu (de_name 0) de_int) de_int) (dss_cons (ds_drw (i := 0) (j := 2) (de_blt call_divmod o_divmod boot_divmod W.n_divmod (da_cons (de_ix hu (de_name 0) de_int) (da_cons (de_name 1) da_nil))) sc_u_law_draw.nd)
    (dss_one (ds_ret (de_name 2)))) dss_nil)
    (dss_cons (ds_stc (i := 0) (c := 1) (de_op o_mod op_mod (de_ty call_int1 o_int1 boot_int W.n_int (da_cons (de_op o_add op_addA (de_op o_mul op_mulA (de_ix hu (de_name 0) de_int) de_int) de_int) da_nil)) de_int))
    (dss_one (ds_ret (de_op o_mod op_mod (de_ty call_int1 o_int1 boot_int W.n_int (da_cons (de_op o_fdiv op_fdiv (de_op o_mod op_mod (de_ty call_int1 o_int1 boot_int W.n_int (da_cons (de_op o_mul op_mulA (de_ix hu (de_name 0) de_int) (de_ix hu (de_name 0) de_int)) da_nil)) de_int) de_int) da_nil)) (de_name 1))))))
theorem ok_u_law_pick (W : Wd K mg) : FnOk P w K mg base CX0 2 W.a_u_law_pick W.d_u_law_pick ["pot", "some"] (spD K 2 F_u_law_pick) :=
  fn_ok W.p_u_law_pick sc_u_law_pick (k := 1) fun cdv A outer s H E hr => by
    have hu := DV.hu_of hr
    have hu64 := DV.hu64_of hr
    have hu70 := DV.hu70_of hr
    exact (dss_one (ds_ret (de_ix hu (de_name 1) (de_call (ok_u_law_draw W) ar_u_law_draw (hr.mono (by decide)) W.m_u_law_draw W.p_u_law_draw.kp W.b_u_law_draw (da_cons (de_name 0) (da_cons (de_blt call_lenA o_len boot_len W.n_len (da_cons (de_name 1) da_nil)) da_nil))))))
theorem ok_u_law_terms (W : Wd K mg) : FnOk P w K mg base CX0 3 W.a_u_law_terms W.d_u_law_terms ["pot", "many", "names", "values"] (spD K 4 F_u_law_terms) :=
  fn_ok W.p_u_law_terms sc_u_law_terms (k := 2) fun cdv A outer s H E hr => by
    have hu := DV.hu_of hr
    have hu64 := DV.hu64_of hr
    have hu70 := DV.hu70_of hr
    exact (dss_one (ds_ret (de_ty call_tuple_of o_tuple boot_tuple W.n_tuple (da_cons (de_lc (own := [("place", 4)]) (di_rng1 W.n_range (da_cons (de_name 1) da_nil)) sc_u_law_terms.nd (blkOk_by (show blkC N_u_law_terms (defScope s_u_law_terms) _ [("place", 4)] = true by decide +kernel)) (fun _ _ _ _ _ => (dg_name (i := 4) sc_u_law_terms.nd)) (fun _ _ _ _ _ => dts_nil) (fun _ _ _ _ _ => (de_if (dw_or (dt_cmp o_cmp op_gt (de_call (ok_u_law_draw W) ar_u_law_draw (hr.mono (by decide)) W.m_u_law_draw W.p_u_law_draw.kp W.b_u_law_draw (da_cons (de_name 0) (da_cons de_int da_nil))) de_int) (dw_or1 (dt_cmp o_eq (op_eqD hu64) (de_name 3) (de_lst df_nil)))).pt (de_call (ok_u_law_pick W) ar_u_law_pick (hr.mono (by decide)) W.m_u_law_pick W.p_u_law_pick.kp W.b_u_law_pick (da_cons (de_name 0) (da_cons (de_name 2) da_nil))) (de_call (ok_u_law_pick W) ar_u_law_pick (hr.mono (by decide)) W.m_u_law_pick W.p_u_law_pick.kp W.b_u_law_pick (da_cons (de_name 0) (da_cons (de_name 3) da_nil)))))) da_nil))))
theorem ok_u_law_question (W : Wd K mg) : FnOk P w K mg base CX0 4 W.a_u_law_question W.d_u_law_question ["pot", "most", "long"] (spD K 3 F_u_law_question) :=
  fn_ok W.p_u_law_question sc_u_law_question (k := 3) fun cdv A outer s H E hr => by
    have hu := DV.hu_of hr
    have hu64 := DV.hu64_of hr
    have hu70 := DV.hu70_of hr
    exact (dss_cons (ds_parG (i := 3) (j := 4) (de_slc (de_lst (df_cons de_str (df_cons de_str (df_cons de_str (df_cons de_str df_nil))))) do_none (do_some (de_op o_add op_addA de_int (de_call (ok_u_law_draw W) ar_u_law_draw (hr.mono (by decide)) W.m_u_law_draw W.p_u_law_draw.kp W.b_u_law_draw (da_cons (de_name 0) (da_cons de_int da_nil)))))) (de_lst (df_cons de_int (df_cons de_int (df_cons de_str df_nil)))) sc_u_law_question.nd)
    (dss_cons (ds_set (i := 5) (de_lst df_nil) sc_u_law_question.nd)
    (dss_cons (ds_for (di_rng1 W.n_range (da_cons (de_op o_add op_addA de_int (de_call (ok_u_law_draw W) ar_u_law_draw (hr.mono (by decide)) W.m_u_law_draw W.p_u_law_draw.kp W.b_u_law_draw (da_cons (de_name 0) (da_cons (de_name 1) da_nil)))) da_nil)) (dg_name (i := 6) sc_u_law_question.nd) (dss_cons (ds_asg (de_call (ok_u_law_pick W) ar_u_law_pick (hr.mono (by decide)) W.m_u_law_pick W.p_u_law_pick.kp W.b_u_law_pick (da_cons (de_name 0) (da_cons (de_lst (df_cons (de_tup (df_cons de_str (df_cons de_int df_nil))) (df_cons (de_tup (df_cons de_str (df_cons de_int df_nil))) (df_cons (de_tup (df_cons de_str (df_cons de_int df_nil))) (df_cons (de_tup (df_cons de_str (df_cons de_int df_nil))) df_nil))))) da_nil))) (dg_tup (dg_cons (dg_name (i := 7) sc_u_law_question.nd) (dg_cons (dg_name (i := 8) sc_u_law_question.nd) dg_nil))))
    (dss_one (ds_expr (de_mt w_app mt_append PySem.F.plainAttrs_list PySem.F.slot_list_append PySem.F.type_list_append (df_cons (de_if (dw_and (dt_cmp o_ne (op_neD hu64) (de_name 5) (de_lst df_nil)) (dw_and1 (dt_cmp o_eq (op_eqD hu64) (de_call (ok_u_law_draw W) ar_u_law_draw (hr.mono (by decide)) W.m_u_law_draw W.p_u_law_draw.kp W.b_u_law_draw (da_cons (de_name 0) (da_cons de_int da_nil))) de_int))).pt (de_call (ok_u_law_pick W) ar_u_law_pick (hr.mono (by decide)) W.m_u_law_pick W.p_u_law_pick.kp W.b_u_law_pick (da_cons (de_name 0) (da_cons (de_name 5) da_nil))) (de_tup (df_cons (de_name 7) (df_cons (de_call (ok_u_law_terms W) ar_u_law_terms (hr.mono (by decide)) W.m_u_law_terms W.p_u_law_terms.kp W.b_u_law_terms (da_cons (de_name 0) (da_cons (de_name 8) (da_cons (de_name 3) (da_cons (de_name 4) da_nil))))) df_nil)))) df_nil))))))
    (dss_cons (ds_set (i := 9) (de_lst df_nil) sc_u_law_question.nd)
    (dss_cons (ds_for (di_seq (de_name 5)) (dg_tup (dg_cons (dg_name (i := 7) sc_u_law_question.nd) (dg_cons (dg_name (i := 10) sc_u_law_question.nd) dg_nil))) (dss_one (ds_expr (de_ext (de_lc (own := [("term", 13)]) (di_seq (de_name 10)) sc_u_law_question.nd (blkOk_by (show blkC N_u_law_question (defScope s_u_law_question) _ [("term", 13)] = true by decide +kernel)) (fun _ _ _ _ _ => (dg_name (i := 13) sc_u_law_question.nd)) (fun _ _ _ _ _ => (dts_one (dt_cmp o_in (op_inA hu) (de_name 13) (de_name 3)))) (fun _ _ _ _ _ => (de_name 13)))))))
    (dss_cons (ds_set (i := 9) (de_sset (de_name 9) W.n_sorted W.n_set) sc_u_law_question.nd)
    (dss_cons (ds_set (i := 11) (de_ty call_tuple_of o_tuple boot_tuple W.n_tuple (da_cons (de_lc (own := [("place", 12)]) (di_rng1 W.n_range (da_cons (de_name 2) da_nil)) sc_u_law_question.nd (blkOk_by (show blkC N_u_law_question (defScope s_u_law_question) _ [("place", 12)] = true by decide +kernel)) (fun _ _ _ _ _ => (dg_name (i := 12) sc_u_law_question.nd)) (fun _ _ _ _ _ => dts_nil) (fun _ _ _ _ _ => (de_if (dw_and (dt_cmp o_ne (op_neD hu64) (de_name 9) (de_lst df_nil)) (dw_and1 (dt_cmp o_cmp op_gt (de_call (ok_u_law_draw W) ar_u_law_draw (hr.mono (by decide)) W.m_u_law_draw W.p_u_law_draw.kp W.b_u_law_draw (da_cons (de_name 0) (da_cons de_int da_nil))) de_int))).pt (de_call (ok_u_law_pick W) ar_u_law_pick (hr.mono (by decide)) W.m_u_law_pick W.p_u_law_pick.kp W.b_u_law_pick (da_cons (de_name 0) (da_cons (de_name 9) da_nil))) (de_call (ok_u_law_pick W) ar_u_law_pick (hr.mono (by decide)) W.m_u_law_pick W.p_u_law_pick.kp W.b_u_law_pick (da_cons (de_name 0) (da_cons (de_name 4) da_nil)))))) da_nil)) sc_u_law_question.nd)
    (dss_one (ds_ret (de_tup (df_cons de_str (df_cons (de_name 11) (df_cons (de_ty call_tuple_of o_tuple boot_tuple W.n_tuple (da_cons (de_name 5) da_nil)) df_nil)))))))))))))
theorem ok_u_law_sequences (W : Wd K mg) : FnOk P w K mg base CX0 1 W.a_u_law_sequences W.d_u_law_sequences ["items"] (spD K 1 F_u_law_sequences) :=
  fn_ok W.p_u_law_sequences sc_u_law_sequences (k := 0) fun cdv A outer s H E hr => by
    have hu := DV.hu_of hr
    have hu64 := DV.hu64_of hr
    have hu70 := DV.hu70_of hr
    exact (dss_cons (ds_set (i := 1) (de_lst (df_cons (de_tup (df_cons (de_lst df_nil) (df_cons (de_ty call_list_of o_list boot_list W.n_list (da_cons (de_name 0) da_nil)) df_nil))) df_nil)) sc_u_law_sequences.nd)
    (dss_cons (ds_for (di_rng1 W.n_range (da_cons (de_blt call_lenA o_len boot_len W.n_len (da_cons (de_name 0) da_nil)) da_nil)) (dg_name (i := 2) sc_u_law_sequences.nd) (dss_cons (ds_set (i := 3) (de_lst df_nil) sc_u_law_sequences.nd)
    (dss_cons (ds_for (di_seq (de_name 1)) (dg_tup (dg_cons (dg_name (i := 4) sc_u_law_sequences.nd) (dg_cons (dg_name (i := 5) sc_u_law_sequences.nd) dg_nil))) (dss_one (ds_expr (de_ext (de_lc (own := [("at", 6)]) (di_rng1 W.n_range (da_cons (de_blt call_lenA o_len boot_len W.n_len (da_cons (de_name 5) da_nil)) da_nil)) sc_u_law_sequences.nd (blkOk_by (show blkC N_u_law_sequences (defScope s_u_law_sequences) _ [("at", 6)] = true by decide +kernel)) (fun _ _ _ _ _ => (dg_name (i := 6) sc_u_law_sequences.nd)) (fun _ _ _ _ _ => dts_nil) (fun _ _ _ _ _ => (de_tup (df_cons (de_op o_add op_addA (de_name 4) (de_lst (df_cons (de_ix hu (de_name 5) (de_name 6)) df_nil))) (df_cons (de_op o_add op_addA (de_slc (de_name 5) do_none (do_some (de_name 6))) (de_slc (de_name 5) (do_some (de_op o_add op_addA (de_name 6) de_int)) do_none)) df_nil)))))))))
    (dss_one (ds_set (i := 1) (de_name 3) sc_u_law_sequences.nd)))))
    (dss_one (ds_ret (de_lc (own := [("told", 4), ("left", 5)]) (di_seq (de_name 1)) sc_u_law_sequences.nd (blkOk_by (show blkC N_u_law_sequences (defScope s_u_law_sequences) _ [("told", 4), ("left", 5)] = true by decide +kernel)) (fun _ _ _ _ _ => (dg_tup (dg_cons (dg_name (i := 4) sc_u_law_sequences.nd) (dg_cons (dg_name (i := 5) sc_u_law_sequences.nd) dg_nil)))) (fun _ _ _ _ _ => dts_nil) (fun _ _ _ _ _ => (de_name 4)))))))
theorem ok_u_law_is_name (W : Wd K mg) : FnOk P w K mg base CX0 1 W.a_u_law_is_name W.d_u_law_is_name ["term"] (spD K 1 F_u_law_is_name) :=
  fn_ok W.p_u_law_is_name sc_u_law_is_name (k := 0) fun cdv A outer s H E hr => by
    have hu := DV.hu_of hr
    have hu64 := DV.hu64_of hr
    have hu70 := DV.hu70_of hr
    exact (dss_one (ds_ret (de_and (de_isi (de_name 0) boot_str W.n_isinstance W.n_str) (de_one (de_cmp o_in (op_inA hu) (de_ix hu (de_name 0) de_int) de_str)))))
theorem ok_u_law_led (W : Wd K mg) : FnOk P w K mg base CX0 2 W.a_u_law_led W.d_u_law_led ["terms", "led"] (spD K 2 F_u_law_led) :=
  fn_ok W.p_u_law_led sc_u_law_led (k := 1) fun cdv A outer s H E hr => by
    have hu := DV.hu_of hr
    have hu64 := DV.hu64_of hr
    have hu70 := DV.hu70_of hr
    exact (dss_one (ds_ret (de_ty call_tuple_of o_tuple boot_tuple W.n_tuple (da_cons (de_lc (own := [("term", 2)]) (di_seq (de_name 0)) sc_u_law_led.nd (blkOk_by (show blkC N_u_law_led (defScope s_u_law_led) _ [("term", 2)] = true by decide +kernel)) (fun _ _ _ _ _ => (dg_name (i := 2) sc_u_law_led.nd)) (fun _ _ _ _ _ => dts_nil) (fun _ _ _ _ _ => (de_if (dt_val (de_call (ok_u_law_is_name W) ar_u_law_is_name (hr.mono (by decide)) W.m_u_law_is_name W.p_u_law_is_name.kp W.b_u_law_is_name (da_cons (de_name 2) da_nil))) (de_ix hu (de_name 1) (de_name 2)) (de_name 2)))) da_nil))))
theorem ok_u_law_spelled (W : Wd K mg) : FnOk P w K mg base CX0 3 W.a_u_law_spelled W.d_u_law_spelled ["head", "atoms"] (spD K 2 F_u_law_spelled) :=
  fn_ok W.p_u_law_spelled sc_u_law_spelled (k := 2) fun cdv A outer s H E hr => by
    have hu := DV.hu_of hr
    have hu64 := DV.hu64_of hr
    have hu70 := DV.hu70_of hr
    exact (dss_cons (ds_set (i := 2) de_dnew sc_u_law_spelled.nd)
    (dss_cons (ds_set (i := 3) (de_ty call_list_of o_list boot_list W.n_list (da_cons (de_name 0) da_nil)) sc_u_law_spelled.nd)
    (dss_cons (ds_for (di_seq (de_name 1)) (dg_tup (dg_cons (dg_name (i := 4) sc_u_law_spelled.nd) (dg_cons (dg_name (i := 5) sc_u_law_spelled.nd) dg_nil))) (dss_one (ds_expr (de_ext (de_ty call_list_of o_list boot_list W.n_list (da_cons (de_name 5) da_nil))))))
    (dss_cons (ds_for (di_seq (de_name 3)) (dg_name (i := 6) sc_u_law_spelled.nd) (dss_one (ds_if (dw_and (dt_val (de_call (ok_u_law_is_name W) ar_u_law_is_name (hr.mono (by decide)) W.m_u_law_is_name W.p_u_law_is_name.kp W.b_u_law_is_name (da_cons (de_name 6) da_nil))) (dw_and1 (dt_cmp o_notIn (op_notInA hu) (de_name 6) (de_name 2)))).pt (dss_one (ds_put (i := 2) hu (de_name 6) (de_ix hu de_str (de_blt call_lenA o_len boot_len W.n_len (da_cons (de_name 2) da_nil))))) dss_nil)))
    (dss_one (ds_ret (de_tup (df_cons de_str (df_cons (de_call (ok_u_law_led W) ar_u_law_led (hr.mono (by decide)) W.m_u_law_led W.p_u_law_led.kp W.b_u_law_led (da_cons (de_name 0) (da_cons (de_name 2) da_nil))) (df_cons (de_ty call_tuple_of o_tuple boot_tuple W.n_tuple (da_cons (de_lc (own := [("table", 4), ("some", 5)]) (di_seq (de_name 1)) sc_u_law_spelled.nd (blkOk_by (show blkC N_u_law_spelled (defScope s_u_law_spelled) _ [("table", 4), ("some", 5)] = true by decide +kernel)) (fun _ _ _ _ _ => (dg_tup (dg_cons (dg_name (i := 4) sc_u_law_spelled.nd) (dg_cons (dg_name (i := 5) sc_u_law_spelled.nd) dg_nil)))) (fun _ _ _ _ _ => dts_nil) (fun _ _ _ _ _ => (de_tup (df_cons (de_name 4) (df_cons (de_call (ok_u_law_led W) ar_u_law_led (hr.mono (by decide)) W.m_u_law_led W.p_u_law_led.kp W.b_u_law_led (da_cons (de_name 5) (da_cons (de_name 2) da_nil))) df_nil))))) da_nil)) df_nil))))))))))
theorem ok_u_law_term_key (W : Wd K mg) : FnOk P w K mg base CX0 2 W.a_u_law_term_key W.d_u_law_term_key ["term"] (spD K 1 F_u_law_term_key) :=
  fn_ok W.p_u_law_term_key sc_u_law_term_key (k := 1) fun cdv A outer s H E hr => by
    have hu := DV.hu_of hr
    have hu64 := DV.hu64_of hr
    have hu70 := DV.hu70_of hr
    exact (dss_one (ds_ret (de_if (dt_val (de_call (ok_u_law_is_name W) ar_u_law_is_name (hr.mono (by decide)) W.m_u_law_is_name W.p_u_law_is_name.kp W.b_u_law_is_name (da_cons (de_name 0) da_nil))) (de_tup (df_cons de_int (df_cons de_int (df_cons (de_name 0) df_nil)))) (de_if (dt_val (de_isi (de_name 0) boot_str W.n_isinstance W.n_str)) (de_tup (df_cons de_int (df_cons de_int (df_cons (de_name 0) df_nil)))) (de_tup (df_cons de_int (df_cons (de_name 0) (df_cons de_str df_nil))))))))
theorem ok_u_law_atom_key (W : Wd K mg) : FnOk P w K mg base CX0 3 W.a_u_law_atom_key W.d_u_law_atom_key ["atom"] (spD K 1 F_u_law_atom_key) :=
  fn_ok W.p_u_law_atom_key sc_u_law_atom_key (k := 2) fun cdv A outer s H E hr => by
    have hu := DV.hu_of hr
    have hu64 := DV.hu64_of hr
    have hu70 := DV.hu70_of hr
    exact (dss_one (ds_ret (de_tup (df_cons (de_ix hu (de_name 0) de_int) (df_cons (de_lc (own := [("term", 1)]) (di_seq (de_ix hu (de_name 0) de_int)) sc_u_law_atom_key.nd (blkOk_by (show blkC N_u_law_atom_key (defScope s_u_law_atom_key) _ [("term", 1)] = true by decide +kernel)) (fun _ _ _ _ _ => (dg_name (i := 1) sc_u_law_atom_key.nd)) (fun _ _ _ _ _ => dts_nil) (fun _ _ _ _ _ => (de_call (ok_u_law_term_key W) ar_u_law_term_key (hr.mono (by decide)) W.m_u_law_term_key W.p_u_law_term_key.kp W.b_u_law_term_key (da_cons (de_name 1) da_nil)))) df_nil)))))
theorem ok_u_law_shape (W : Wd K mg) : FnOk P w K mg base CX0 4 W.a_u_law_shape W.d_u_law_shape ["question"] (spD K 1 F_u_law_shape) :=
  fn_ok W.p_u_law_shape sc_u_law_shape (k := 3) fun cdv A outer s H E hr => by
    have hu := DV.hu_of hr
    have hu64 := DV.hu64_of hr
    have hu70 := DV.hu70_of hr
    exact (dss_cons (ds_setLc (i := 1) (own := [("told", 4)]) (di_seq (de_call (ok_u_law_sequences W) ar_u_law_sequences (hr.mono (by decide)) W.m_u_law_sequences W.p_u_law_sequences.kp W.b_u_law_sequences (da_cons (de_ix hu (de_name 0) de_int) da_nil))) sc_u_law_shape.nd (blkOk_by (show blkC N_u_law_shape (defScope s_u_law_shape) _ [("told", 4)] = true by decide +kernel)) (fun _ _ _ _ _ => (dg_name (i := 4) sc_u_law_shape.nd)) (fun _ _ _ _ _ => dts_nil) (fun _ _ _ _ _ => (de_call (ok_u_law_spelled W) ar_u_law_spelled (hr.mono (by decide)) W.m_u_law_spelled W.p_u_law_spelled.kp W.b_u_law_spelled (da_cons (de_ix hu (de_name 0) de_int) (da_cons (de_name 4) da_nil)))))
    (dss_cons (ds_set (i := 2) (de_ix hu (de_name 1) de_int) sc_u_law_shape.nd)
    (dss_cons (ds_for (di_seq (de_name 1)) (dg_name (i := 3) sc_u_law_shape.nd) (dss_one (ds_if (dt_cmp o_lt (op_ltA hu) (de_lc (own := [("atom", 5)]) (di_seq (de_ix hu (de_name 3) de_int)) sc_u_law_shape.nd (blkOk_by (show blkC N_u_law_shape (defScope s_u_law_shape) _ [("atom", 5)] = true by decide +kernel)) (fun _ _ _ _ _ => (dg_name (i := 5) sc_u_law_shape.nd)) (fun _ _ _ _ _ => dts_nil) (fun _ _ _ _ _ => (de_call (ok_u_law_atom_key W) ar_u_law_atom_key (hr.mono (by decide)) W.m_u_law_atom_key W.p_u_law_atom_key.kp W.b_u_law_atom_key (da_cons (de_name 5) da_nil)))) (de_lc (own := [("atom", 5)]) (di_seq (de_ix hu (de_name 2) de_int)) sc_u_law_shape.nd (blkOk_by (show blkC N_u_law_shape (defScope s_u_law_shape) _ [("atom", 5)] = true by decide +kernel)) (fun _ _ _ _ _ => (dg_name (i := 5) sc_u_law_shape.nd)) (fun _ _ _ _ _ => dts_nil) (fun _ _ _ _ _ => (de_call (ok_u_law_atom_key W) ar_u_law_atom_key (hr.mono (by decide)) W.m_u_law_atom_key W.p_u_law_atom_key.kp W.b_u_law_atom_key (da_cons (de_name 5) da_nil))))) (dss_one (ds_set (i := 2) (de_name 3) sc_u_law_shape.nd)) dss_nil)))
    (dss_one (ds_ret (de_name 2))))))
theorem ok_u_law_names (W : Wd K mg) : FnOk P w K mg base CX0 2 W.a_u_law_names W.d_u_law_names ["question"] (spD K 1 F_u_law_names) :=
  fn_ok W.p_u_law_names sc_u_law_names (k := 1) fun cdv A outer s H E hr => by
    have hu := DV.hu_of hr
    have hu64 := DV.hu64_of hr
    have hu70 := DV.hu70_of hr
    exact (dss_cons (ds_set (i := 1) (de_lst df_nil) sc_u_law_names.nd)
    (dss_cons (ds_for (di_seq (de_ix hu (de_name 0) de_int)) (dg_tup (dg_cons (dg_name (i := 2) sc_u_law_names.nd) (dg_cons (dg_name (i := 3) sc_u_law_names.nd) dg_nil))) (dss_one (ds_expr (de_ext (de_lc (own := [("term", 4)]) (di_seq (de_name 3)) sc_u_law_names.nd (blkOk_by (show blkC N_u_law_names (defScope s_u_law_names) _ [("term", 4)] = true by decide +kernel)) (fun _ _ _ _ _ => (dg_name (i := 4) sc_u_law_names.nd)) (fun _ _ _ _ _ => (dts_one (dt_val (de_call (ok_u_law_is_name W) ar_u_law_is_name (hr.mono (by decide)) W.m_u_law_is_name W.p_u_law_is_name.kp W.b_u_law_is_name (da_cons (de_name 4) da_nil))))) (fun _ _ _ _ _ => (de_name 4)))))))
    (dss_one (ds_ret (de_sset (de_name 1) W.n_sorted W.n_set)))))
theorem ok_u_law_other (W : Wd K mg) : FnOk P w K mg base CX0 3 W.a_u_law_other W.d_u_law_other ["pot", "question"] (spD K 2 F_u_law_other) :=
  fn_ok W.p_u_law_other sc_u_law_other (k := 2) fun cdv A outer s H E hr => by
    have hu := DV.hu_of hr
    have hu64 := DV.hu64_of hr
    have hu70 := DV.hu70_of hr
    exact (dss_cons (ds_set (i := 2) (de_call (ok_u_law_names W) ar_u_law_names (hr.mono (by decide)) W.m_u_law_names W.p_u_law_names.kp W.b_u_law_names (da_cons (de_name 1) da_nil)) sc_u_law_other.nd)
    (dss_cons (ds_parG (i := 3) (j := 4) (de_lst (df_cons de_str (df_cons de_str (df_cons de_str (df_cons de_str (df_cons de_str (df_cons de_str df_nil))))))) de_dnew sc_u_law_other.nd)
    (dss_cons (ds_for (di_seq (de_name 2)) (dg_name (i := 5) sc_u_law_other.nd) (dss_one (ds_put (i := 4) hu (de_name 5) (de_mt w_pop mt_popAt PySem.F.plainAttrs_list PySem.F.slot_list_pop PySem.F.type_list_pop (df_cons (de_call (ok_u_law_draw W) ar_u_law_draw (hr.mono (by decide)) W.m_u_law_draw W.p_u_law_draw.kp W.b_u_law_draw (da_cons (de_name 0) (da_cons (de_blt call_lenA o_len boot_len W.n_len (da_cons (de_name 3) da_nil)) da_nil))) df_nil)))))
    (dss_cons (ds_par (i := 6) (j := 7) (de_lst df_nil) (de_ty call_list_of o_list boot_list W.n_list (da_cons (de_ix hu (de_name 1) de_int) da_nil)) sc_u_law_other.nd)
    (dss_cons (ds_for (di_rng1 W.n_range (da_cons (de_blt call_lenA o_len boot_len W.n_len (da_cons (de_ix hu (de_name 1) de_int) da_nil)) da_nil)) (dg_name (i := 8) sc_u_law_other.nd) (dss_one (ds_expr (de_mt w_app mt_append PySem.F.plainAttrs_list PySem.F.slot_list_append PySem.F.type_list_append (df_cons (de_mt w_pop mt_popAt PySem.F.plainAttrs_list PySem.F.slot_list_pop PySem.F.type_list_pop (df_cons (de_call (ok_u_law_draw W) ar_u_law_draw (hr.mono (by decide)) W.m_u_law_draw W.p_u_law_draw.kp W.b_u_law_draw (da_cons (de_name 0) (da_cons (de_blt call_lenA o_len boot_len W.n_len (da_cons (de_name 7) da_nil)) da_nil))) df_nil)) df_nil)))))
    (dss_one (ds_ret (de_tup (df_cons de_str (df_cons (de_call (ok_u_law_led W) ar_u_law_led (hr.mono (by decide)) W.m_u_law_led W.p_u_law_led.kp W.b_u_law_led (da_cons (de_ix hu (de_name 1) de_int) (da_cons (de_name 4) da_nil))) (df_cons (de_ty call_tuple_of o_tuple boot_tuple W.n_tuple (da_cons (de_lc (own := [("table", 9), ("terms", 10)]) (di_seq (de_name 6)) sc_u_law_other.nd (blkOk_by (show blkC N_u_law_other (defScope s_u_law_other) _ [("table", 9), ("terms", 10)] = true by decide +kernel)) (fun _ _ _ _ _ => (dg_tup (dg_cons (dg_name (i := 9) sc_u_law_other.nd) (dg_cons (dg_name (i := 10) sc_u_law_other.nd) dg_nil)))) (fun _ _ _ _ _ => dts_nil) (fun _ _ _ _ _ => (de_tup (df_cons (de_name 9) (df_cons (de_call (ok_u_law_led W) ar_u_law_led (hr.mono (by decide)) W.m_u_law_led W.p_u_law_led.kp W.b_u_law_led (da_cons (de_name 10) (da_cons (de_name 4) da_nil))) df_nil))))) da_nil)) df_nil)))))))))))
theorem ok_u_law_changed (W : Wd K mg) : FnOk P w K mg base CX0 3 W.a_u_law_changed W.d_u_law_changed ["pot", "question"] (spD K 2 F_u_law_changed) :=
  fn_ok W.p_u_law_changed sc_u_law_changed (k := 2) fun cdv A outer s H E hr => by
    have hu := DV.hu_of hr
    have hu64 := DV.hu64_of hr
    have hu70 := DV.hu70_of hr
    exact (dss_cons (ds_set (i := 2) (de_call (ok_u_law_names W) ar_u_law_names (hr.mono (by decide)) W.m_u_law_names W.p_u_law_names.kp W.b_u_law_names (da_cons (de_name 1) da_nil)) sc_u_law_changed.nd)
    (dss_cons (ds_set (i := 3) (de_call (ok_u_law_draw W) ar_u_law_draw (hr.mono (by decide)) W.m_u_law_draw W.p_u_law_draw.kp W.b_u_law_draw (da_cons (de_name 0) (da_cons (de_blt call_lenA o_len boot_len W.n_len (da_cons (de_ix hu (de_name 1) de_int) da_nil)) da_nil))) sc_u_law_changed.nd)
    (dss_cons (ds_asg (de_ix hu (de_ix hu (de_name 1) de_int) (de_name 3)) (dg_tup (dg_cons (dg_name (i := 4) sc_u_law_changed.nd) (dg_cons (dg_name (i := 5) sc_u_law_changed.nd) dg_nil))))
    (dss_cons (ds_set (i := 6) (de_call (ok_u_law_draw W) ar_u_law_draw (hr.mono (by decide)) W.m_u_law_draw W.p_u_law_draw.kp W.b_u_law_draw (da_cons (de_name 0) (da_cons (de_blt call_lenA o_len boot_len W.n_len (da_cons (de_name 5) da_nil)) da_nil))) sc_u_law_changed.nd)
    (dss_cons (ds_set (i := 7) (de_op o_add op_addA (de_op o_add op_addA (de_slc (de_name 5) do_none (do_some (de_name 6))) (de_tup (df_cons (de_call (ok_u_law_pick W) ar_u_law_pick (hr.mono (by decide)) W.m_u_law_pick W.p_u_law_pick.kp W.b_u_law_pick (da_cons (de_name 0) (da_cons (de_op o_add op_addA (de_name 2) (de_lst (df_cons de_int (df_cons de_str df_nil)))) da_nil))) df_nil))) (de_slc (de_name 5) (do_some (de_op o_add op_addA (de_name 6) de_int)) do_none)) sc_u_law_changed.nd)
    (dss_cons (ds_set (i := 8) (de_tup (df_cons de_str (df_cons (de_ix hu (de_name 1) de_int) (df_cons (de_op o_add op_addA (de_op o_add op_addA (de_slc (de_ix hu (de_name 1) de_int) do_none (do_some (de_name 3))) (de_tup (df_cons (de_tup (df_cons (de_name 4) (df_cons (de_name 7) df_nil))) df_nil))) (de_slc (de_ix hu (de_name 1) de_int) (do_some (de_op o_add op_addA (de_name 3) de_int)) do_none)) df_nil)))) sc_u_law_changed.nd)
    (dss_cons (ds_set (i := 9) (de_call (ok_u_law_names W) ar_u_law_names (hr.mono (by decide)) W.m_u_law_names W.p_u_law_names.kp W.b_u_law_names (da_cons (de_name 8) da_nil)) sc_u_law_changed.nd)
    (dss_one (ds_ret (de_if (dt_cmp o_eq (op_eqD hu64) (de_lc (own := [("term", 10)]) (di_seq (de_ix hu (de_name 1) de_int)) sc_u_law_changed.nd (blkOk_by (show blkC N_u_law_changed (defScope s_u_law_changed) _ [("term", 10)] = true by decide +kernel)) (fun _ _ _ _ _ => (dg_name (i := 10) sc_u_law_changed.nd)) (fun _ _ _ _ _ => (dts_one (dw_and (dt_val (de_call (ok_u_law_is_name W) ar_u_law_is_name (hr.mono (by decide)) W.m_u_law_is_name W.p_u_law_is_name.kp W.b_u_law_is_name (da_cons (de_name 10) da_nil))) (dw_and1 (dt_cmp o_notIn (op_notInA hu) (de_name 10) (de_name 9)))).pt)) (fun _ _ _ _ _ => (de_name 10))) (de_lst df_nil)) (de_name 8) (de_name 1)))))))))))
theorem ok_is_name (W : Wd K mg) : FnOk P w K mg base CX0 1 W.a_is_name W.d_is_name ["value"] (spD K 1 F_is_name) :=
  fn_ok W.p_is_name sc_is_name (k := 0) fun cdv A outer s H E hr => by
    have hu := DV.hu_of hr
    have hu64 := DV.hu64_of hr
    have hu70 := DV.hu70_of hr
    exact (dss_cons (ds_if (dw_or (dt_not (dt_val (de_isi (de_name 0) boot_str W.n_isinstance W.n_str))) (dw_or1 (dt_not (dt_chn o_cmp op_le o_cmp op_le de_int (de_blt call_lenA o_len boot_len W.n_len (da_cons (de_name 0) da_nil)) (de_gint (by rfl) W.c_MOST_NAME.choose_spec ⟨_, rfl⟩))))).pt (dss_one (ds_ret de_bool)) dss_nil)
    (dss_one (ds_ret (de_blt (cr_all rfl) o_all boot_all W.n_all (da_cons (de_lc (own := [("sign", 1)]) (di_seq (de_name 0)) sc_is_name.nd (blkOk_by (show blkC N_is_name (defScope s_is_name) _ [("sign", 1)] = true by decide +kernel)) (fun _ _ _ _ _ => (dg_name (i := 1) sc_is_name.nd)) (fun _ _ _ _ _ => dts_nil) (fun _ _ _ _ _ => (de_cmp o_in (op_inA hu) (de_name 1) (de_gstr (by rfl) W.c_SMALL.choose_spec ⟨_, rfl⟩)))) da_nil)))))
theorem ok_with_terms (W : Wd K mg) : FnOk P w K mg base CX0 2 W.a_with_terms W.d_with_terms ["led", "terms"] (spD K 2 F_with_terms) :=
  fn_ok W.p_with_terms sc_with_terms (k := 1) fun cdv A outer s H E hr => by
    have hu := DV.hu_of hr
    have hu64 := DV.hu64_of hr
    have hu70 := DV.hu70_of hr
    exact (dss_cons (ds_set (i := 2) (de_ty call_dictD o_dict boot_dict W.n_dict (da_cons (de_name 0) da_nil)) sc_with_terms.nd)
    (dss_cons (ds_for (di_seq (de_name 1)) (dg_name (i := 3) sc_with_terms.nd) (dss_one (ds_if (dw_and (dt_val (de_call (ok_is_name W) ar_is_name (hr.mono (by decide)) W.m_is_name W.p_is_name.kp W.b_is_name (da_cons (de_name 3) da_nil))) (dw_and1 (dt_cmp o_notIn (op_notInA hu) (de_name 3) (de_name 2)))).pt (dss_one (ds_put (i := 2) hu (de_name 3) (de_ix hu (de_gstr (by rfl) W.c_LETTERS.choose_spec ⟨_, rfl⟩) (de_blt call_lenA o_len boot_len W.n_len (da_cons (de_name 2) da_nil))))) dss_nil)))
    (dss_one (ds_ret (de_name 2)))))
theorem ok_led_terms (W : Wd K mg) : FnOk P w K mg base CX0 2 W.a_led_terms W.d_led_terms ["terms", "led"] (spD K 2 F_led_terms) :=
  fn_ok W.p_led_terms sc_led_terms (k := 1) fun cdv A outer s H E hr => by
    have hu := DV.hu_of hr
    have hu64 := DV.hu64_of hr
    have hu70 := DV.hu70_of hr
    exact (dss_one (ds_ret (de_ty call_tuple_of o_tuple boot_tuple W.n_tuple (da_cons (de_lc (own := [("term", 2)]) (di_seq (de_name 0)) sc_led_terms.nd (blkOk_by (show blkC N_led_terms (defScope s_led_terms) _ [("term", 2)] = true by decide +kernel)) (fun _ _ _ _ _ => (dg_name (i := 2) sc_led_terms.nd)) (fun _ _ _ _ _ => dts_nil) (fun _ _ _ _ _ => (de_if (dt_val (de_call (ok_is_name W) ar_is_name (hr.mono (by decide)) W.m_is_name W.p_is_name.kp W.b_is_name (da_cons (de_name 2) da_nil))) (de_ix hu (de_name 1) (de_name 2)) (de_name 2)))) da_nil))))
theorem ok_is_integer (W : Wd K mg) : FnOk P w K mg base CX0 1 W.a_is_integer W.d_is_integer ["value"] (spD K 1 F_is_integer) :=
  fn_ok W.p_is_integer sc_is_integer (k := 0) fun cdv A outer s H E hr => by
    have hu := DV.hu_of hr
    have hu64 := DV.hu64_of hr
    have hu70 := DV.hu70_of hr
    exact (dss_one (ds_ret (de_and (de_isi (de_name 0) boot_int W.n_isinstance W.n_int) (de_one (de_not (de_isi (de_name 0) boot_bool W.n_isinstance W.n_bool))))))
theorem ok_value_key (W : Wd K mg) : FnOk P w K mg base CX0 2 W.a_value_key W.d_value_key ["value"] (spD K 1 F_value_key) :=
  fn_ok W.p_value_key sc_value_key (k := 1) fun cdv A outer s H E hr => by
    have hu := DV.hu_of hr
    have hu64 := DV.hu64_of hr
    have hu70 := DV.hu70_of hr
    exact (dss_one (ds_ret (de_if (dt_val (de_call (ok_is_integer W) ar_is_integer (hr.mono (by decide)) W.m_is_integer W.p_is_integer.kp W.b_is_integer (da_cons (de_name 0) da_nil))) (de_tup (df_cons de_int (df_cons (de_name 0) (df_cons de_str df_nil)))) (de_tup (df_cons de_int (df_cons de_int (df_cons (de_name 0) df_nil)))))))
theorem ok_term_key (W : Wd K mg) : FnOk P w K mg base CX0 3 W.a_term_key W.d_term_key ["term"] (spD K 1 F_term_key) :=
  fn_ok W.p_term_key sc_term_key (k := 2) fun cdv A outer s H E hr => by
    have hu := DV.hu_of hr
    have hu64 := DV.hu64_of hr
    have hu70 := DV.hu70_of hr
    exact (dss_one (ds_ret (de_if (dt_val (de_call (ok_is_name W) ar_is_name (hr.mono (by decide)) W.m_is_name W.p_is_name.kp W.b_is_name (da_cons (de_name 0) da_nil))) (de_tup (df_cons de_int (df_cons de_int (df_cons (de_name 0) df_nil)))) (de_call (ok_value_key W) ar_value_key (hr.mono (by decide)) W.m_value_key W.p_value_key.kp W.b_value_key (da_cons (de_name 0) da_nil)))))
theorem ok_atom_key (W : Wd K mg) : FnOk P w K mg base CX0 4 W.a_atom_key W.d_atom_key ["atom"] (spD K 1 F_atom_key) :=
  fn_ok W.p_atom_key sc_atom_key (k := 3) fun cdv A outer s H E hr => by
    have hu := DV.hu_of hr
    have hu64 := DV.hu64_of hr
    have hu70 := DV.hu70_of hr
    exact (dss_one (ds_ret (de_tup (df_cons (de_ix hu (de_name 0) de_int) (df_cons (de_lc (own := [("term", 1)]) (di_seq (de_ix hu (de_name 0) de_int)) sc_atom_key.nd (blkOk_by (show blkC N_atom_key (defScope s_atom_key) _ [("term", 1)] = true by decide +kernel)) (fun _ _ _ _ _ => (dg_name (i := 1) sc_atom_key.nd)) (fun _ _ _ _ _ => dts_nil) (fun _ _ _ _ _ => (de_call (ok_term_key W) ar_term_key (hr.mono (by decide)) W.m_term_key W.p_term_key.kp W.b_term_key (da_cons (de_name 1) da_nil)))) df_nil)))))
theorem ok_least_from_ (W : Wd K mg) : ∀ n, FnOk P w K mg base CX0 (4 + n) W.a_least_from W.d_least_from ["told", "left", "led"] (spD K 3 (F_least_from_ n))
  | 0 => fn_none rfl
  | n + 1 => by
    have ih := ok_least_from_ W n
    have ar := ar_least_from_ n
    refine fn_ok W.p_least_from sc_least_from (k := 4 + n) fun cdv A outer s H E hr => ?_
    have hu := DV.hu_of hr
    have hu64 := DV.hu64_of hr
    have hu70 := DV.hu70_of hr
    have hr0 := hr
    replace hr := hr0
    exact (dss_cons (ds_if (dt_cmp o_eq (op_eqD hu64) (de_name 1) (de_lst df_nil)) (dss_one (ds_ret (de_name 0))) dss_nil)
    (dss_cons (ds_set (i := 3) (de_lst df_nil) sc_least_from.nd)
    (dss_cons (ds_for (di_seq (de_name 1)) (dg_name (i := 4) sc_least_from.nd) (dss_cons (ds_set (i := 5) (de_call (ok_with_terms W) ar_with_terms (hr.mono (by omega)) W.m_with_terms W.p_with_terms.kp W.b_with_terms (da_cons (de_name 2) (da_cons (de_ix hu (de_name 4) de_int) da_nil))) sc_least_from.nd)
    (dss_one (ds_expr (de_mt w_app mt_append PySem.F.plainAttrs_list PySem.F.slot_list_append PySem.F.type_list_append (df_cons (de_tup (df_cons (de_tup (df_cons (de_ix hu (de_name 4) de_int) (df_cons (de_call (ok_led_terms W) ar_led_terms (hr.mono (by omega)) W.m_led_terms W.p_led_terms.kp W.b_led_terms (da_cons (de_ix hu (de_name 4) de_int) (da_cons (de_name 5) da_nil))) df_nil))) (df_cons (de_name 4) (df_cons (de_name 5) df_nil)))) df_nil))))))
    (dss_cons (ds_set (i := 6) (de_blt (cr_minDt rfl hu) o_min boot_min W.n_min (da_cons (de_lc (own := [("spelled", 8), ("atom", 4), ("more", 5)]) (di_seq (de_name 3)) sc_least_from.nd (blkOk_by (show blkC N_least_from (defScope s_least_from) _ [("spelled", 8), ("atom", 4), ("more", 5)] = true by decide +kernel)) (fun _ _ _ _ _ => (dg_tup (dg_cons (dg_name (i := 8) sc_least_from.nd) (dg_cons (dg_name (i := 4) sc_least_from.nd) (dg_cons (dg_name (i := 5) sc_least_from.nd) dg_nil))))) (fun _ _ _ _ _ => dts_nil) (fun _ _ _ _ _ => (de_call (ok_atom_key W) ar_atom_key (hr.mono (by omega)) W.m_atom_key W.p_atom_key.kp W.b_atom_key (da_cons (de_name 8) da_nil)))) da_nil)) sc_least_from.nd)
    (dss_cons (ds_set (i := 7) de_none sc_least_from.nd)
    (dss_cons (ds_for (di_seq (de_name 3)) (dg_tup (dg_cons (dg_name (i := 8) sc_least_from.nd) (dg_cons (dg_name (i := 4) sc_least_from.nd) (dg_cons (dg_name (i := 5) sc_least_from.nd) dg_nil)))) (dss_one (ds_if (dt_cmp o_eq (op_eqD hu64) (de_call (ok_atom_key W) ar_atom_key (hr.mono (by omega)) W.m_atom_key W.p_atom_key.kp W.b_atom_key (da_cons (de_name 8) da_nil)) (de_name 6)) (dss_cons (ds_set (i := 9) (de_ty call_list_of o_list boot_list W.n_list (da_cons (de_name 1) da_nil)) sc_least_from.nd)
    (dss_cons (ds_expr (de_mt w_rem (mt_remD hu) PySem.F.plainAttrs_list PySem.F.slot_list_remove PySem.F.type_list_remove (df_cons (de_name 4) df_nil)))
    (dss_cons (ds_set (i := 10) (de_call ih ar hr W.m_least_from W.p_least_from.kp W.b_least_from (da_cons (de_op o_add op_addA (de_name 0) (de_lst (df_cons (de_name 8) df_nil))) (da_cons (de_name 9) (da_cons (de_name 5) da_nil)))) sc_least_from.nd)
    (dss_one (ds_if (dw_or (dt_cmp o_is op_isN (de_name 7) de_none) (dw_or1 (dt_cmp o_lt (op_ltA hu) (de_lc (own := [("one", 11)]) (di_seq (de_name 10)) sc_least_from.nd (blkOk_by (show blkC N_least_from (defScope s_least_from) _ [("one", 11)] = true by decide +kernel)) (fun _ _ _ _ _ => (dg_name (i := 11) sc_least_from.nd)) (fun _ _ _ _ _ => dts_nil) (fun _ _ _ _ _ => (de_call (ok_atom_key W) ar_atom_key (hr.mono (by omega)) W.m_atom_key W.p_atom_key.kp W.b_atom_key (da_cons (de_name 11) da_nil)))) (de_lc (own := [("one", 11)]) (di_seq (de_name 7)) sc_least_from.nd (blkOk_by (show blkC N_least_from (defScope s_least_from) _ [("one", 11)] = true by decide +kernel)) (fun _ _ _ _ _ => (dg_name (i := 11) sc_least_from.nd)) (fun _ _ _ _ _ => dts_nil) (fun _ _ _ _ _ => (de_call (ok_atom_key W) ar_atom_key (hr.mono (by omega)) W.m_atom_key W.p_atom_key.kp W.b_atom_key (da_cons (de_name 11) da_nil))))))).pt (dss_one (ds_set (i := 7) (de_name 10) sc_least_from.nd)) dss_nil))))) dss_nil)))
    (dss_one (ds_ret (de_name 7)))))))))
theorem ok_least_from (W : Wd K mg) : FnOk P w K mg base CX0 16 W.a_least_from W.d_least_from ["told", "left", "led"] (spD K 3 F_least_from) := ok_least_from_ W 12
theorem ok_form_in (W : Wd K mg) : FnOk P w K mg base CX0 18 W.a_form_in W.d_form_in ["question"] (spD K 1 F_form_in) :=
  fn_ok W.p_form_in sc_form_in (k := 17) fun cdv A outer s H E hr => by
    have hu := DV.hu_of hr
    have hu64 := DV.hu64_of hr
    have hu70 := DV.hu70_of hr
    exact (dss_cons (ds_set (i := 1) (de_call (ok_with_terms W) ar_with_terms (hr.mono (by decide)) W.m_with_terms W.p_with_terms.kp W.b_with_terms (da_cons de_dnew (da_cons (de_ix hu (de_name 0) de_int) da_nil))) sc_form_in.nd)
    (dss_one (ds_ret (de_tup (df_cons (de_gstr (by rfl) W.c_ASK.choose_spec ⟨_, rfl⟩) (df_cons (de_call (ok_led_terms W) ar_led_terms (hr.mono (by decide)) W.m_led_terms W.p_led_terms.kp W.b_led_terms (da_cons (de_ix hu (de_name 0) de_int) (da_cons (de_name 1) da_nil))) (df_cons (de_ty call_tuple_of o_tuple boot_tuple W.n_tuple (da_cons (de_call (ok_least_from W) ar_least_from (hr.mono (by decide)) W.m_least_from W.p_least_from.kp W.b_least_from (da_cons (de_lst df_nil) (da_cons (de_ty call_list_of o_list boot_list W.n_list (da_cons (de_ix hu (de_name 0) de_int) da_nil)) (da_cons (de_name 1) da_nil)))) da_nil)) df_nil)))))))
theorem ok_is_row (W : Wd K mg) : FnOk P w K mg base CX0 1 W.a_is_row W.d_is_row ["value", "many"] (spD K 2 F_is_row) :=
  fn_ok W.p_is_row sc_is_row (k := 0) fun cdv A outer s H E hr => by
    have hu := DV.hu_of hr
    have hu64 := DV.hu64_of hr
    have hu70 := DV.hu70_of hr
    exact (dss_one (ds_ret (de_and (de_isi (de_name 0) boot_tuple W.n_isinstance W.n_tuple) (de_one (de_cmp o_eq (op_eqD hu64) (de_blt call_lenA o_len boot_len W.n_len (da_cons (de_name 0) da_nil)) (de_name 1))))))
theorem ok_is_word (W : Wd K mg) : FnOk P w K mg base CX0 1 W.a_is_word W.d_is_word ["value"] (spD K 1 F_is_word) :=
  fn_ok W.p_is_word sc_is_word (k := 0) fun cdv A outer s H E hr => by
    have hu := DV.hu_of hr
    have hu64 := DV.hu64_of hr
    have hu70 := DV.hu70_of hr
    exact (dss_cons (ds_if (dw_or (dt_not (dt_val (de_isi (de_name 0) boot_str W.n_isinstance W.n_str))) (dw_or (dt_not (dt_chn o_cmp op_le o_cmp op_le de_int (de_blt call_lenA o_len boot_len W.n_len (da_cons (de_name 0) da_nil)) (de_gint (by rfl) W.c_MOST_WORD.choose_spec ⟨_, rfl⟩))) (dw_or1 (dt_cmp o_notIn (op_notInA hu) (de_ix hu (de_name 0) de_int) (de_gstr (by rfl) W.c_CAPITALS.choose_spec ⟨_, rfl⟩))))).pt (dss_one (ds_ret de_bool)) dss_nil)
    (dss_one (ds_ret (de_blt (cr_all rfl) o_all boot_all W.n_all (da_cons (de_lc (own := [("sign", 1)]) (di_seq (de_name 0)) sc_is_word.nd (blkOk_by (show blkC N_is_word (defScope s_is_word) _ [("sign", 1)] = true by decide +kernel)) (fun _ _ _ _ _ => (dg_name (i := 1) sc_is_word.nd)) (fun _ _ _ _ _ => dts_nil) (fun _ _ _ _ _ => (de_or (de_cmp o_in (op_inA hu) (de_name 1) (de_gstr (by rfl) W.c_SMALL.choose_spec ⟨_, rfl⟩)) (de_or (de_cmp o_in (op_inA hu) (de_name 1) (de_gstr (by rfl) W.c_CAPITALS.choose_spec ⟨_, rfl⟩)) (de_one (de_cmp o_in (op_inA hu) (de_name 1) (de_gstr (by rfl) W.c_DIGITS.choose_spec ⟨_, rfl⟩))))))) da_nil)))))
theorem ok_is_value (W : Wd K mg) : FnOk P w K mg base CX0 2 W.a_is_value W.d_is_value ["value"] (spD K 1 F_is_value) :=
  fn_ok W.p_is_value sc_is_value (k := 1) fun cdv A outer s H E hr => by
    have hu := DV.hu_of hr
    have hu64 := DV.hu64_of hr
    have hu70 := DV.hu70_of hr
    exact (dss_one (ds_ret (de_or (de_call (ok_is_word W) ar_is_word (hr.mono (by decide)) W.m_is_word W.p_is_word.kp W.b_is_word (da_cons (de_name 0) da_nil)) (de_one (de_and (de_call (ok_is_integer W) ar_is_integer (hr.mono (by decide)) W.m_is_integer W.p_is_integer.kp W.b_is_integer (da_cons (de_name 0) da_nil)) (de_one (de_cmp o_lt (op_ltA hu) (de_blt call_abs o_abs boot_abs W.n_abs (da_cons (de_name 0) da_nil)) (de_gint (by rfl) W.c_MOST_VALUE.choose_spec ⟨_, rfl⟩))))))))
theorem ok_is_term (W : Wd K mg) : FnOk P w K mg base CX0 3 W.a_is_term W.d_is_term ["value"] (spD K 1 F_is_term) :=
  fn_ok W.p_is_term sc_is_term (k := 2) fun cdv A outer s H E hr => by
    have hu := DV.hu_of hr
    have hu64 := DV.hu64_of hr
    have hu70 := DV.hu70_of hr
    exact (dss_one (ds_ret (de_or (de_call (ok_is_name W) ar_is_name (hr.mono (by decide)) W.m_is_name W.p_is_name.kp W.b_is_name (da_cons (de_name 0) da_nil)) (de_one (de_call (ok_is_value W) ar_is_value (hr.mono (by decide)) W.m_is_value W.p_is_value.kp W.b_is_value (da_cons (de_name 0) da_nil))))))
theorem ok_is_terms (W : Wd K mg) : FnOk P w K mg base CX0 4 W.a_is_terms W.d_is_terms ["value", "least", "most"] (spD K 3 F_is_terms) :=
  fn_ok W.p_is_terms sc_is_terms (k := 3) fun cdv A outer s H E hr => by
    have hu := DV.hu_of hr
    have hu64 := DV.hu64_of hr
    have hu70 := DV.hu70_of hr
    exact (dss_one (ds_ret (de_and (de_isi (de_name 0) boot_tuple W.n_isinstance W.n_tuple) (de_and (de_chn o_cmp op_le o_cmp op_le (de_name 1) (de_blt call_lenA o_len boot_len W.n_len (da_cons (de_name 0) da_nil)) (de_name 2)) (de_one (de_blt (cr_all rfl) o_all boot_all W.n_all (da_cons (de_lc (own := [("term", 3)]) (di_seq (de_name 0)) sc_is_terms.nd (blkOk_by (show blkC N_is_terms (defScope s_is_terms) _ [("term", 3)] = true by decide +kernel)) (fun _ _ _ _ _ => (dg_name (i := 3) sc_is_terms.nd)) (fun _ _ _ _ _ => dts_nil) (fun _ _ _ _ _ => (de_call (ok_is_term W) ar_is_term (hr.mono (by decide)) W.m_is_term W.p_is_term.kp W.b_is_term (da_cons (de_name 3) da_nil)))) da_nil)))))))
theorem ok_is_atom (W : Wd K mg) : FnOk P w K mg base CX0 5 W.a_is_atom W.d_is_atom ["value"] (spD K 1 F_is_atom) :=
  fn_ok W.p_is_atom sc_is_atom (k := 4) fun cdv A outer s H E hr => by
    have hu := DV.hu_of hr
    have hu64 := DV.hu64_of hr
    have hu70 := DV.hu70_of hr
    exact (dss_one (ds_ret (de_and (de_call (ok_is_row W) ar_is_row (hr.mono (by decide)) W.m_is_row W.p_is_row.kp W.b_is_row (da_cons (de_name 0) (da_cons de_int da_nil))) (de_and (de_call (ok_is_word W) ar_is_word (hr.mono (by decide)) W.m_is_word W.p_is_word.kp W.b_is_word (da_cons (de_ix hu (de_name 0) de_int) da_nil)) (de_one (de_call (ok_is_terms W) ar_is_terms (hr.mono (by decide)) W.m_is_terms W.p_is_terms.kp W.b_is_terms (da_cons (de_ix hu (de_name 0) de_int) (da_cons de_int (da_cons (de_gint (by rfl) W.c_MOST_TERMS.choose_spec ⟨_, rfl⟩) da_nil)))))))))
theorem ok_names_in (W : Wd K mg) : FnOk P w K mg base CX0 2 W.a_names_in W.d_names_in ["atoms"] (spD K 1 F_names_in) :=
  fn_ok W.p_names_in sc_names_in (k := 1) fun cdv A outer s H E hr => by
    have hu := DV.hu_of hr
    have hu64 := DV.hu64_of hr
    have hu70 := DV.hu70_of hr
    exact (dss_cons (ds_set (i := 1) (de_lst df_nil) sc_names_in.nd)
    (dss_cons (ds_for (di_seq (de_name 0)) (dg_tup (dg_cons (dg_name (i := 2) sc_names_in.nd) (dg_cons (dg_name (i := 3) sc_names_in.nd) dg_nil))) (dss_one (ds_expr (de_ext (de_lc (own := [("term", 4)]) (di_seq (de_name 3)) sc_names_in.nd (blkOk_by (show blkC N_names_in (defScope s_names_in) _ [("term", 4)] = true by decide +kernel)) (fun _ _ _ _ _ => (dg_name (i := 4) sc_names_in.nd)) (fun _ _ _ _ _ => (dts_one (dt_val (de_call (ok_is_name W) ar_is_name (hr.mono (by decide)) W.m_is_name W.p_is_name.kp W.b_is_name (da_cons (de_name 4) da_nil))))) (fun _ _ _ _ _ => (de_name 4)))))))
    (dss_one (ds_ret (de_sset (de_name 1) W.n_sorted W.n_set)))))
theorem ok_unlike_table (W : Wd K mg) : FnOk P w K mg base CX0 1 W.a_unlike_table W.d_unlike_table ["atoms"] (spD K 1 F_unlike_table) :=
  fn_ok W.p_unlike_table sc_unlike_table (k := 0) fun cdv A outer s H E hr => by
    have hu := DV.hu_of hr
    have hu64 := DV.hu64_of hr
    have hu70 := DV.hu70_of hr
    exact (dss_cons (ds_par (i := 1) (j := 2) de_dnew (de_lst df_nil) sc_unlike_table.nd)
    (dss_cons (ds_for (di_seq (de_name 0)) (dg_tup (dg_cons (dg_name (i := 3) sc_unlike_table.nd) (dg_cons (dg_name (i := 4) sc_unlike_table.nd) dg_nil))) (dss_one (ds_if (dt_cmp o_ne (op_neD hu64) (de_sd (de_name 3) (de_blt call_lenA o_len boot_len W.n_len (da_cons (de_name 4) da_nil))) (de_blt call_lenA o_len boot_len W.n_len (da_cons (de_name 4) da_nil))) (dss_one (ds_expr (de_mt w_app mt_append PySem.F.plainAttrs_list PySem.F.slot_list_append PySem.F.type_list_append (df_cons (de_name 3) df_nil)))) dss_nil)))
    (dss_one (ds_ret (de_if (dt_cmp o_ne (op_neD hu64) (de_name 2) (de_lst df_nil)) (de_blt (cr_minDt rfl hu) o_min boot_min W.n_min (da_cons (de_name 2) da_nil)) de_none)))))
theorem ok_is_question_of (W : Wd K mg) : FnOk P w K mg base CX0 6 W.a_is_question_of W.d_is_question_of ["value"] (spD K 1 F_is_question_of) :=
  fn_ok W.p_is_question_of sc_is_question_of (k := 5) fun cdv A outer s H E hr => by
    have hu := DV.hu_of hr
    have hu64 := DV.hu64_of hr
    have hu70 := DV.hu70_of hr
    exact (dss_cons (ds_if (dw_or (dt_not (dt_val (de_call (ok_is_row W) ar_is_row (hr.mono (by decide)) W.m_is_row W.p_is_row.kp W.b_is_row (da_cons (de_name 0) (da_cons de_int da_nil))))) (dw_or (dt_cmp o_ne (op_neD hu64) (de_ix hu (de_name 0) de_int) (de_gstr (by rfl) W.c_ASK.choose_spec ⟨_, rfl⟩)) (dw_or1 (dt_not (dt_val (de_call (ok_is_terms W) ar_is_terms (hr.mono (by decide)) W.m_is_terms W.p_is_terms.kp W.b_is_terms (da_cons (de_ix hu (de_name 0) de_int) (da_cons de_int (da_cons (de_gint (by rfl) W.c_MOST_HEAD.choose_spec ⟨_, rfl⟩) da_nil))))))))).pt (dss_one (ds_ret de_bool)) dss_nil)
    (dss_cons (ds_if (dw_or (dt_not (dt_val (de_isi (de_ix hu (de_name 0) de_int) boot_tuple W.n_isinstance W.n_tuple))) (dw_or1 (dt_not (dt_chn o_cmp op_le o_cmp op_le de_int (de_blt call_lenA o_len boot_len W.n_len (da_cons (de_ix hu (de_name 0) de_int) da_nil)) (de_gint (by rfl) W.c_MOST_ATOMS.choose_spec ⟨_, rfl⟩))))).pt (dss_one (ds_ret de_bool)) dss_nil)
    (dss_cons (ds_if (dt_not (dt_val (de_blt (cr_all rfl) o_all boot_all W.n_all (da_cons (de_lc (own := [("atom", 2)]) (di_seq (de_ix hu (de_name 0) de_int)) sc_is_question_of.nd (blkOk_by (show blkC N_is_question_of (defScope s_is_question_of) _ [("atom", 2)] = true by decide +kernel)) (fun _ _ _ _ _ => (dg_name (i := 2) sc_is_question_of.nd)) (fun _ _ _ _ _ => dts_nil) (fun _ _ _ _ _ => (de_call (ok_is_atom W) ar_is_atom (hr.mono (by decide)) W.m_is_atom W.p_is_atom.kp W.b_is_atom (da_cons (de_name 2) da_nil)))) da_nil)))) (dss_one (ds_ret de_bool)) dss_nil)
    (dss_cons (ds_set (i := 1) (de_call (ok_names_in W) ar_names_in (hr.mono (by decide)) W.m_names_in W.p_names_in.kp W.b_names_in (da_cons (de_ix hu (de_name 0) de_int) da_nil)) sc_is_question_of.nd)
    (dss_one (ds_ret (de_and (de_cmp o_is op_isN (de_call (ok_unlike_table W) ar_unlike_table (hr.mono (by decide)) W.m_unlike_table W.p_unlike_table.kp W.b_unlike_table (da_cons (de_ix hu (de_name 0) de_int) da_nil)) de_none) (de_one (de_blt (cr_all rfl) o_all boot_all W.n_all (da_cons (de_lc (own := [("term", 3)]) (di_seq (de_ix hu (de_name 0) de_int)) sc_is_question_of.nd (blkOk_by (show blkC N_is_question_of (defScope s_is_question_of) _ [("term", 3)] = true by decide +kernel)) (fun _ _ _ _ _ => (dg_name (i := 3) sc_is_question_of.nd)) (fun _ _ _ _ _ => (dts_one (dt_val (de_call (ok_is_name W) ar_is_name (hr.mono (by decide)) W.m_is_name W.p_is_name.kp W.b_is_name (da_cons (de_name 3) da_nil))))) (fun _ _ _ _ _ => (de_cmp o_in (op_inA hu) (de_name 3) (de_name 1)))) da_nil))))))))))
theorem ok_want_question (W : Wd K mg) : FnOk P w K mg base CX0 7 W.a_want_question W.d_want_question ["value"] (spD K 1 F_want_question) :=
  fn_ok W.p_want_question sc_want_question (k := 6) fun cdv A outer s H E hr => by
    have hu := DV.hu_of hr
    have hu64 := DV.hu64_of hr
    have hu70 := DV.hu70_of hr
    exact (dss_cons (ds_if (dt_not (dt_val (de_call (ok_is_question_of W) ar_is_question_of (hr.mono (by decide)) W.m_is_question_of W.p_is_question_of.kp W.b_is_question_of (da_cons (de_name 0) da_nil)))) (dss_one ds_no) dss_nil)
    (dss_one (ds_ret (de_name 0))))
theorem ok_form_of (W : Wd K mg) : FnOk P w K mg base CX0 19 W.a_form_of W.d_form_of ["question"] (spD K 1 F_form_of) :=
  fn_ok W.p_form_of sc_form_of (k := 18) fun cdv A outer s H E hr => by
    have hu := DV.hu_of hr
    have hu64 := DV.hu64_of hr
    have hu70 := DV.hu70_of hr
    exact (dss_one (ds_ret (de_call (ok_form_in W) ar_form_in (hr.mono (by decide)) W.m_form_in W.p_form_in.kp W.b_form_in (da_cons (de_call (ok_want_question W) ar_want_question (hr.mono (by decide)) W.m_want_question W.p_want_question.kp W.b_want_question (da_cons (de_name 0) da_nil)) da_nil))))
theorem ok_are_one_form (W : Wd K mg) : FnOk P w K mg base CX0 19 W.a_are_one_form W.d_are_one_form ["question", "other_question"] (spD K 2 F_are_one_form) :=
  fn_ok W.p_are_one_form sc_are_one_form (k := 18) fun cdv A outer s H E hr => by
    have hu := DV.hu_of hr
    have hu64 := DV.hu64_of hr
    have hu70 := DV.hu70_of hr
    exact (dss_one (ds_ret (de_cmp o_eq (op_eqD hu64) (de_call (ok_form_in W) ar_form_in (hr.mono (by decide)) W.m_form_in W.p_form_in.kp W.b_form_in (da_cons (de_call (ok_want_question W) ar_want_question (hr.mono (by decide)) W.m_want_question W.p_want_question.kp W.b_want_question (da_cons (de_name 0) da_nil)) da_nil)) (de_call (ok_form_in W) ar_form_in (hr.mono (by decide)) W.m_form_in W.p_form_in.kp W.b_form_in (da_cons (de_call (ok_want_question W) ar_want_question (hr.mono (by decide)) W.m_want_question W.p_want_question.kp W.b_want_question (da_cons (de_name 1) da_nil)) da_nil)))))
theorem ok_law (W : Wd K mg) {f : Addr} {fd : FuncData} (F : FnP K "law" s_law f fd) : LawOk P w K mg base f fd "script" F_law :=
  law_ok F sc_law (k := 19) ⟨rfl, by decide, by decide⟩ fun cdv s H E hr => by
    have hgd : (callerA.deeper (envOfC "law" (defScope s_law) s.heap.objs.size f cdv)).guards = some [] := rfl
    have hu := DV.hu_of hr
    have hu64 := DV.hu64_of hr
    have hu70 := DV.hu70_of hr
    exact (dss_cons (ds_pot (i := 1) (de_call (ok_u_law_pot W) ar_u_law_pot (hr.mono (by decide)) W.m_u_law_pot W.p_u_law_pot.kp W.b_u_law_pot (da_cons (de_name 0) (da_cons de_int da_nil))) sc_law.nd)
    (dss_cons (ds_for (di_rng1 W.n_range (da_cons de_int da_nil)) (dg_name (i := 2) sc_law.nd) (dss_cons (ds_set (i := 3) (de_call (ok_u_law_question W) ar_u_law_question (hr.mono (by decide)) W.m_u_law_question W.p_u_law_question.kp W.b_u_law_question (da_cons (de_name 1) (da_cons de_int (da_cons (de_call (ok_u_law_draw W) ar_u_law_draw (hr.mono (by decide)) W.m_u_law_draw W.p_u_law_draw.kp W.b_u_law_draw (da_cons (de_name 1) (da_cons de_int da_nil))) da_nil)))) sc_law.nd)
    (dss_cons (ds_if (dt_cmp o_eq (op_eqD hu64) (de_name 2) de_int) (dss_one (ds_set (i := 3) (de_tup (df_cons de_str (df_cons (de_ix hu (de_name 3) de_int) (df_cons (de_op o_add op_addA (de_ix hu (de_name 3) de_int) (de_slc (de_ix hu (de_name 3) de_int) do_none (do_some de_int))) df_nil)))) sc_law.nd)) dss_nil)
    (dss_cons (ds_par3 (i := 4) (j := 5) (l := 6) (df_cons (de_call (ok_u_law_shape W) ar_u_law_shape (hr.mono (by decide)) W.m_u_law_shape W.p_u_law_shape.kp W.b_u_law_shape (da_cons (de_name 3) da_nil)) (df_cons (de_call (ok_u_law_other W) ar_u_law_other (hr.mono (by decide)) W.m_u_law_other W.p_u_law_other.kp W.b_u_law_other (da_cons (de_name 1) (da_cons (de_name 3) da_nil))) (df_cons (de_call (ok_u_law_changed W) ar_u_law_changed (hr.mono (by decide)) W.m_u_law_changed W.p_u_law_changed.kp W.b_u_law_changed (da_cons (de_name 1) (da_cons (de_name 3) da_nil))) df_nil))) sc_law.nd)
    (dss_cons (ds_if (dt_cmp o_ne (op_neD hu64) (de_blt (cr_repr hgd hu70) o_repr boot_repr W.n_repr (da_cons (de_lst (df_cons (de_call (ok_form_of W) ar_form_of (hr.mono (by decide)) W.m_form_of W.p_form_of.kp W.b_form_of (da_cons (de_name 3) da_nil)) (df_cons (de_callK0 (ks := ["question"]) (ok_form_of W) ar_form_of (hr.mono (by decide)) W.m_form_of W.p_form_of.kp (kbi_of (n := 0) (ks := ["question"]) (ix := [0]) W.p_form_of fun _ _ _ _ _ _ us ws hu hw => match us, ws, hu, hw with | [], [_], _, _ => rfl) (dk_cons (de_name 5) dk_nil)) (df_cons (de_call (ok_form_of W) ar_form_of (hr.mono (by decide)) W.m_form_of W.p_form_of.kp W.b_form_of (da_cons (de_name 4) da_nil)) df_nil)))) da_nil)) (de_blt (cr_repr hgd hu70) o_repr boot_repr W.n_repr (da_cons (de_rep (de_lst (df_cons (de_name 4) df_nil)) de_int) da_nil))) (dss_one (ds_ret de_bool)) dss_nil)
    (dss_cons (ds_set (i := 7) (de_cmp o_eq (op_eqD hu64) (de_call (ok_u_law_shape W) ar_u_law_shape (hr.mono (by decide)) W.m_u_law_shape W.p_u_law_shape.kp W.b_u_law_shape (da_cons (de_name 6) da_nil)) (de_name 4)) sc_law.nd)
    (dss_cons (ds_set (i := 8) (de_lst (df_cons (de_call (ok_are_one_form W) ar_are_one_form (hr.mono (by decide)) W.m_are_one_form W.p_are_one_form.kp W.b_are_one_form (da_cons (de_name 3) (da_cons (de_name 5) da_nil))) (df_cons (de_callK0 (ks := ["other_question", "question"]) (ok_are_one_form W) ar_are_one_form (hr.mono (by decide)) W.m_are_one_form W.p_are_one_form.kp (kbi_of (n := 0) (ks := ["other_question", "question"]) (ix := [1, 0]) W.p_are_one_form fun _ _ _ _ _ _ us ws hu hw => match us, ws, hu, hw with | [], [_, _], _, _ => rfl) (dk_cons (de_name 6) (dk_cons (de_name 3) dk_nil))) (df_cons (de_call (ok_are_one_form W) ar_are_one_form (hr.mono (by decide)) W.m_are_one_form W.p_are_one_form.kp W.b_are_one_form (da_cons (de_name 6) (da_cons (de_name 5) da_nil))) df_nil)))) sc_law.nd)
    (dss_one (ds_if (dt_cmp o_ne (op_neD hu64) (de_blt (cr_repr hgd hu70) o_repr boot_repr W.n_repr (da_cons (de_name 8) da_nil)) (de_blt (cr_repr hgd hu70) o_repr boot_repr W.n_repr (da_cons (de_lst (df_cons de_bool (df_cons (de_name 7) (df_cons (de_name 7) df_nil)))) da_nil))) (dss_one (ds_ret de_bool)) dss_nil)))))))))
    (dss_one (ds_ret de_bool))))
end
/-! the head: facts by names -/
def D_u_law_pot : He.DefD := ⟨("_law_pot", none), "_law_pot", "_law_pot", defArgs s_u_law_pot, defBody s_u_law_pot, defScope s_u_law_pot, [], []⟩
def D_u_law_draw : He.DefD := ⟨("_law_draw", none), "_law_draw", "_law_draw", defArgs s_u_law_draw, defBody s_u_law_draw, defScope s_u_law_draw, [], []⟩
def D_u_law_pick : He.DefD := ⟨("_law_pick", none), "_law_pick", "_law_pick", defArgs s_u_law_pick, defBody s_u_law_pick, defScope s_u_law_pick, [], []⟩
def D_u_law_terms : He.DefD := ⟨("_law_terms", none), "_law_terms", "_law_terms", defArgs s_u_law_terms, defBody s_u_law_terms, defScope s_u_law_terms, [], []⟩
def D_u_law_question : He.DefD := ⟨("_law_question", none), "_law_question", "_law_question", defArgs s_u_law_question, defBody s_u_law_question, defScope s_u_law_question, [], []⟩
def D_u_law_sequences : He.DefD := ⟨("_law_sequences", none), "_law_sequences", "_law_sequences", defArgs s_u_law_sequences, defBody s_u_law_sequences, defScope s_u_law_sequences, [], []⟩
def D_u_law_is_name : He.DefD := ⟨("_law_is_name", none), "_law_is_name", "_law_is_name", defArgs s_u_law_is_name, defBody s_u_law_is_name, defScope s_u_law_is_name, [], []⟩
def D_u_law_led : He.DefD := ⟨("_law_led", none), "_law_led", "_law_led", defArgs s_u_law_led, defBody s_u_law_led, defScope s_u_law_led, [], []⟩
def D_u_law_spelled : He.DefD := ⟨("_law_spelled", none), "_law_spelled", "_law_spelled", defArgs s_u_law_spelled, defBody s_u_law_spelled, defScope s_u_law_spelled, [], []⟩
def D_u_law_term_key : He.DefD := ⟨("_law_term_key", none), "_law_term_key", "_law_term_key", defArgs s_u_law_term_key, defBody s_u_law_term_key, defScope s_u_law_term_key, [], []⟩
def D_u_law_atom_key : He.DefD := ⟨("_law_atom_key", none), "_law_atom_key", "_law_atom_key", defArgs s_u_law_atom_key, defBody s_u_law_atom_key, defScope s_u_law_atom_key, [], []⟩
def D_u_law_shape : He.DefD := ⟨("_law_shape", none), "_law_shape", "_law_shape", defArgs s_u_law_shape, defBody s_u_law_shape, defScope s_u_law_shape, [], []⟩
def D_u_law_names : He.DefD := ⟨("_law_names", none), "_law_names", "_law_names", defArgs s_u_law_names, defBody s_u_law_names, defScope s_u_law_names, [], []⟩
def D_u_law_other : He.DefD := ⟨("_law_other", none), "_law_other", "_law_other", defArgs s_u_law_other, defBody s_u_law_other, defScope s_u_law_other, [], []⟩
def D_u_law_changed : He.DefD := ⟨("_law_changed", none), "_law_changed", "_law_changed", defArgs s_u_law_changed, defBody s_u_law_changed, defScope s_u_law_changed, [], []⟩
def D_is_name : He.DefD := ⟨("is_name", none), "is_name", "is_name", defArgs s_is_name, defBody s_is_name, defScope s_is_name, [], []⟩
def D_with_terms : He.DefD := ⟨("with_terms", none), "with_terms", "with_terms", defArgs s_with_terms, defBody s_with_terms, defScope s_with_terms, [], []⟩
def D_led_terms : He.DefD := ⟨("led_terms", none), "led_terms", "led_terms", defArgs s_led_terms, defBody s_led_terms, defScope s_led_terms, [], []⟩
def D_is_integer : He.DefD := ⟨("is_integer", none), "is_integer", "is_integer", defArgs s_is_integer, defBody s_is_integer, defScope s_is_integer, [], []⟩
def D_value_key : He.DefD := ⟨("value_key", none), "value_key", "value_key", defArgs s_value_key, defBody s_value_key, defScope s_value_key, [], []⟩
def D_term_key : He.DefD := ⟨("term_key", none), "term_key", "term_key", defArgs s_term_key, defBody s_term_key, defScope s_term_key, [], []⟩
def D_atom_key : He.DefD := ⟨("atom_key", none), "atom_key", "atom_key", defArgs s_atom_key, defBody s_atom_key, defScope s_atom_key, [], []⟩
def D_least_from : He.DefD := ⟨("least_from", none), "least_from", "least_from", defArgs s_least_from, defBody s_least_from, defScope s_least_from, [], []⟩
def D_form_in : He.DefD := ⟨("form_in", none), "form_in", "form_in", defArgs s_form_in, defBody s_form_in, defScope s_form_in, [], []⟩
def D_is_row : He.DefD := ⟨("is_row", none), "is_row", "is_row", defArgs s_is_row, defBody s_is_row, defScope s_is_row, [], []⟩
def D_is_word : He.DefD := ⟨("is_word", none), "is_word", "is_word", defArgs s_is_word, defBody s_is_word, defScope s_is_word, [], []⟩
def D_is_value : He.DefD := ⟨("is_value", none), "is_value", "is_value", defArgs s_is_value, defBody s_is_value, defScope s_is_value, [], []⟩
def D_is_term : He.DefD := ⟨("is_term", none), "is_term", "is_term", defArgs s_is_term, defBody s_is_term, defScope s_is_term, [], []⟩
def D_is_terms : He.DefD := ⟨("is_terms", none), "is_terms", "is_terms", defArgs s_is_terms, defBody s_is_terms, defScope s_is_terms, [], []⟩
def D_is_atom : He.DefD := ⟨("is_atom", none), "is_atom", "is_atom", defArgs s_is_atom, defBody s_is_atom, defScope s_is_atom, [], []⟩
def D_names_in : He.DefD := ⟨("names_in", none), "names_in", "names_in", defArgs s_names_in, defBody s_names_in, defScope s_names_in, [], []⟩
def D_unlike_table : He.DefD := ⟨("unlike_table", none), "unlike_table", "unlike_table", defArgs s_unlike_table, defBody s_unlike_table, defScope s_unlike_table, [], []⟩
def D_is_question_of : He.DefD := ⟨("is_question_of", none), "is_question_of", "is_question_of", defArgs s_is_question_of, defBody s_is_question_of, defScope s_is_question_of, [], []⟩
def D_want_question : He.DefD := ⟨("want_question", none), "want_question", "want_question", defArgs s_want_question, defBody s_want_question, defScope s_want_question, [], []⟩
def D_form_of : He.DefD := ⟨("form_of", none), "form_of", "form_of", defArgs s_form_of, defBody s_form_of, defScope s_form_of, [], []⟩
def D_are_one_form : He.DefD := ⟨("are_one_form", none), "are_one_form", "are_one_form", defArgs s_are_one_form, defBody s_are_one_form, defScope s_are_one_form, [], []⟩
def D_law : He.DefD := ⟨("law", none), "law", "law", defArgs s_law, defBody s_law, defScope s_law, [], []⟩
def fns : List He.DefD := [D_u_law_pot, D_u_law_draw, D_u_law_pick, D_u_law_terms, D_u_law_question, D_u_law_sequences, D_u_law_is_name, D_u_law_led, D_u_law_spelled, D_u_law_term_key, D_u_law_atom_key, D_u_law_shape, D_u_law_names, D_u_law_other, D_u_law_changed, D_is_name, D_with_terms, D_led_terms, D_is_integer, D_value_key, D_term_key, D_atom_key, D_least_from, D_form_in, D_is_row, D_is_word, D_is_value, D_is_term, D_is_terms, D_is_atom, D_names_in, D_unlike_table, D_is_question_of, D_want_question, D_form_of, D_are_one_form, D_law]
def fas : List He.Fa := [.glo "_law_pot", .glo "_law_draw", .glo "_law_pick", .glo "_law_terms", .glo "_law_question", .glo "_law_sequences", .glo "_law_is_name", .glo "_law_led", .glo "_law_spelled", .glo "_law_term_key", .glo "_law_atom_key", .glo "_law_shape", .glo "_law_names", .glo "_law_other", .glo "_law_changed", .glo "is_name", .glo "with_terms", .glo "led_terms", .glo "is_integer", .glo "value_key", .glo "term_key", .glo "atom_key", .glo "least_from", .glo "form_in", .glo "is_row", .glo "is_word", .glo "is_value", .glo "is_term", .glo "is_terms", .glo "is_atom", .glo "names_in", .glo "unlike_table", .glo "is_question_of", .glo "want_question", .glo "form_of", .glo "are_one_form", .glo "law", .free "range", .free "repr", .free "len", .free "abs", .free "max", .free "int", .free "sorted", .free "set", .free "tuple", .free "divmod", .free "list", .free "isinstance", .free "str", .free "dict", .free "all", .free "min", .free "bool", .str "ASK" "ask", .str "LETTERS" "abcdefghijklmnopqrstuvwxyz", .int "MOST_NAME" 8, .str "SMALL" "abcdefghijklmnopqrstuvwxyz", .int "MOST_HEAD" 4, .int "MOST_ATOMS" 6, .int "MOST_VALUE" 1000000000, .int "MOST_WORD" 12, .str "CAPITALS" "ABCDEFGHIJKLMNOPQRSTUVWXYZ", .str "DIGITS" "0123456789", .int "MOST_TERMS" 4]
theorem world {K : PySem.W.Frag} {h : Heap} {mg : Str → Option Value} {f : Addr} (X : K.In h) (G : h.Ns mainGlobals mg) (hfa : mg ("law" : Str) = some (.ref f)) (c : He.SaysD fas fns K) :
    ∃ (_ : Wd K mg) (fd : FuncData), FnP K "law" s_law f fd := by
  obtain ⟨d0, p0⟩ := c.def_ 0 (d := D_u_law_pot) rfl
  obtain ⟨d1, p1⟩ := c.def_ 1 (d := D_u_law_draw) rfl
  obtain ⟨d2, p2⟩ := c.def_ 2 (d := D_u_law_pick) rfl
  obtain ⟨d3, p3⟩ := c.def_ 3 (d := D_u_law_terms) rfl
  obtain ⟨d4, p4⟩ := c.def_ 4 (d := D_u_law_question) rfl
  obtain ⟨d5, p5⟩ := c.def_ 5 (d := D_u_law_sequences) rfl
  obtain ⟨d6, p6⟩ := c.def_ 6 (d := D_u_law_is_name) rfl
  obtain ⟨d7, p7⟩ := c.def_ 7 (d := D_u_law_led) rfl
  obtain ⟨d8, p8⟩ := c.def_ 8 (d := D_u_law_spelled) rfl
  obtain ⟨d9, p9⟩ := c.def_ 9 (d := D_u_law_term_key) rfl
  obtain ⟨d10, p10⟩ := c.def_ 10 (d := D_u_law_atom_key) rfl
  obtain ⟨d11, p11⟩ := c.def_ 11 (d := D_u_law_shape) rfl
  obtain ⟨d12, p12⟩ := c.def_ 12 (d := D_u_law_names) rfl
  obtain ⟨d13, p13⟩ := c.def_ 13 (d := D_u_law_other) rfl
  obtain ⟨d14, p14⟩ := c.def_ 14 (d := D_u_law_changed) rfl
  obtain ⟨d15, p15⟩ := c.def_ 15 (d := D_is_name) rfl
  obtain ⟨d16, p16⟩ := c.def_ 16 (d := D_with_terms) rfl
  obtain ⟨d17, p17⟩ := c.def_ 17 (d := D_led_terms) rfl
  obtain ⟨d18, p18⟩ := c.def_ 18 (d := D_is_integer) rfl
  obtain ⟨d19, p19⟩ := c.def_ 19 (d := D_value_key) rfl
  obtain ⟨d20, p20⟩ := c.def_ 20 (d := D_term_key) rfl
  obtain ⟨d21, p21⟩ := c.def_ 21 (d := D_atom_key) rfl
  obtain ⟨d22, p22⟩ := c.def_ 22 (d := D_least_from) rfl
  obtain ⟨d23, p23⟩ := c.def_ 23 (d := D_form_in) rfl
  obtain ⟨d24, p24⟩ := c.def_ 24 (d := D_is_row) rfl
  obtain ⟨d25, p25⟩ := c.def_ 25 (d := D_is_word) rfl
  obtain ⟨d26, p26⟩ := c.def_ 26 (d := D_is_value) rfl
  obtain ⟨d27, p27⟩ := c.def_ 27 (d := D_is_term) rfl
  obtain ⟨d28, p28⟩ := c.def_ 28 (d := D_is_terms) rfl
  obtain ⟨d29, p29⟩ := c.def_ 29 (d := D_is_atom) rfl
  obtain ⟨d30, p30⟩ := c.def_ 30 (d := D_names_in) rfl
  obtain ⟨d31, p31⟩ := c.def_ 31 (d := D_unlike_table) rfl
  obtain ⟨d32, p32⟩ := c.def_ 32 (d := D_is_question_of) rfl
  obtain ⟨d33, p33⟩ := c.def_ 33 (d := D_want_question) rfl
  obtain ⟨d34, p34⟩ := c.def_ 34 (d := D_form_of) rfl
  obtain ⟨d35, p35⟩ := c.def_ 35 (d := D_are_one_form) rfl
  obtain ⟨d36, p36⟩ := c.def_ 36 (d := D_law) rfl
  have e := hfa.symm.trans (He.glo_ok X G (c.fact 36 (f := .glo "law") rfl))
  cases e
  exact ⟨{ a_u_law_pot := _, d_u_law_pot := d0, p_u_law_pot := p0, m_u_law_pot := He.glo_ok X G (c.fact 0 (f := .glo "_law_pot") rfl), a_u_law_draw := _, d_u_law_draw := d1, p_u_law_draw := p1, m_u_law_draw := He.glo_ok X G (c.fact 1 (f := .glo "_law_draw") rfl), a_u_law_pick := _, d_u_law_pick := d2, p_u_law_pick := p2, m_u_law_pick := He.glo_ok X G (c.fact 2 (f := .glo "_law_pick") rfl), a_u_law_terms := _, d_u_law_terms := d3, p_u_law_terms := p3, m_u_law_terms := He.glo_ok X G (c.fact 3 (f := .glo "_law_terms") rfl), a_u_law_question := _, d_u_law_question := d4, p_u_law_question := p4, m_u_law_question := He.glo_ok X G (c.fact 4 (f := .glo "_law_question") rfl), a_u_law_sequences := _, d_u_law_sequences := d5, p_u_law_sequences := p5, m_u_law_sequences := He.glo_ok X G (c.fact 5 (f := .glo "_law_sequences") rfl), a_u_law_is_name := _, d_u_law_is_name := d6, p_u_law_is_name := p6, m_u_law_is_name := He.glo_ok X G (c.fact 6 (f := .glo "_law_is_name") rfl), a_u_law_led := _, d_u_law_led := d7, p_u_law_led := p7, m_u_law_led := He.glo_ok X G (c.fact 7 (f := .glo "_law_led") rfl), a_u_law_spelled := _, d_u_law_spelled := d8, p_u_law_spelled := p8, m_u_law_spelled := He.glo_ok X G (c.fact 8 (f := .glo "_law_spelled") rfl), a_u_law_term_key := _, d_u_law_term_key := d9, p_u_law_term_key := p9, m_u_law_term_key := He.glo_ok X G (c.fact 9 (f := .glo "_law_term_key") rfl), a_u_law_atom_key := _, d_u_law_atom_key := d10, p_u_law_atom_key := p10, m_u_law_atom_key := He.glo_ok X G (c.fact 10 (f := .glo "_law_atom_key") rfl), a_u_law_shape := _, d_u_law_shape := d11, p_u_law_shape := p11, m_u_law_shape := He.glo_ok X G (c.fact 11 (f := .glo "_law_shape") rfl), a_u_law_names := _, d_u_law_names := d12, p_u_law_names := p12, m_u_law_names := He.glo_ok X G (c.fact 12 (f := .glo "_law_names") rfl), a_u_law_other := _, d_u_law_other := d13, p_u_law_other := p13, m_u_law_other := He.glo_ok X G (c.fact 13 (f := .glo "_law_other") rfl), a_u_law_changed := _, d_u_law_changed := d14, p_u_law_changed := p14, m_u_law_changed := He.glo_ok X G (c.fact 14 (f := .glo "_law_changed") rfl), a_is_name := _, d_is_name := d15, p_is_name := p15, m_is_name := He.glo_ok X G (c.fact 15 (f := .glo "is_name") rfl), a_with_terms := _, d_with_terms := d16, p_with_terms := p16, m_with_terms := He.glo_ok X G (c.fact 16 (f := .glo "with_terms") rfl), a_led_terms := _, d_led_terms := d17, p_led_terms := p17, m_led_terms := He.glo_ok X G (c.fact 17 (f := .glo "led_terms") rfl), a_is_integer := _, d_is_integer := d18, p_is_integer := p18, m_is_integer := He.glo_ok X G (c.fact 18 (f := .glo "is_integer") rfl), a_value_key := _, d_value_key := d19, p_value_key := p19, m_value_key := He.glo_ok X G (c.fact 19 (f := .glo "value_key") rfl), a_term_key := _, d_term_key := d20, p_term_key := p20, m_term_key := He.glo_ok X G (c.fact 20 (f := .glo "term_key") rfl), a_atom_key := _, d_atom_key := d21, p_atom_key := p21, m_atom_key := He.glo_ok X G (c.fact 21 (f := .glo "atom_key") rfl), a_least_from := _, d_least_from := d22, p_least_from := p22, m_least_from := He.glo_ok X G (c.fact 22 (f := .glo "least_from") rfl), a_form_in := _, d_form_in := d23, p_form_in := p23, m_form_in := He.glo_ok X G (c.fact 23 (f := .glo "form_in") rfl), a_is_row := _, d_is_row := d24, p_is_row := p24, m_is_row := He.glo_ok X G (c.fact 24 (f := .glo "is_row") rfl), a_is_word := _, d_is_word := d25, p_is_word := p25, m_is_word := He.glo_ok X G (c.fact 25 (f := .glo "is_word") rfl), a_is_value := _, d_is_value := d26, p_is_value := p26, m_is_value := He.glo_ok X G (c.fact 26 (f := .glo "is_value") rfl), a_is_term := _, d_is_term := d27, p_is_term := p27, m_is_term := He.glo_ok X G (c.fact 27 (f := .glo "is_term") rfl), a_is_terms := _, d_is_terms := d28, p_is_terms := p28, m_is_terms := He.glo_ok X G (c.fact 28 (f := .glo "is_terms") rfl), a_is_atom := _, d_is_atom := d29, p_is_atom := p29, m_is_atom := He.glo_ok X G (c.fact 29 (f := .glo "is_atom") rfl), a_names_in := _, d_names_in := d30, p_names_in := p30, m_names_in := He.glo_ok X G (c.fact 30 (f := .glo "names_in") rfl), a_unlike_table := _, d_unlike_table := d31, p_unlike_table := p31, m_unlike_table := He.glo_ok X G (c.fact 31 (f := .glo "unlike_table") rfl), a_is_question_of := _, d_is_question_of := d32, p_is_question_of := p32, m_is_question_of := He.glo_ok X G (c.fact 32 (f := .glo "is_question_of") rfl), a_want_question := _, d_want_question := d33, p_want_question := p33, m_want_question := He.glo_ok X G (c.fact 33 (f := .glo "want_question") rfl), a_form_of := _, d_form_of := d34, p_form_of := p34, m_form_of := He.glo_ok X G (c.fact 34 (f := .glo "form_of") rfl), a_are_one_form := _, d_are_one_form := d35, p_are_one_form := p35, m_are_one_form := He.glo_ok X G (c.fact 35 (f := .glo "are_one_form") rfl), n_range := He.free_ok X G (c.fact 37 (f := .free "range") rfl), n_repr := He.free_ok X G (c.fact 38 (f := .free "repr") rfl), n_len := He.free_ok X G (c.fact 39 (f := .free "len") rfl), n_abs := He.free_ok X G (c.fact 40 (f := .free "abs") rfl), n_max := He.free_ok X G (c.fact 41 (f := .free "max") rfl), n_int := He.free_ok X G (c.fact 42 (f := .free "int") rfl), n_sorted := He.free_ok X G (c.fact 43 (f := .free "sorted") rfl), n_set := He.free_ok X G (c.fact 44 (f := .free "set") rfl), n_tuple := He.free_ok X G (c.fact 45 (f := .free "tuple") rfl), n_divmod := He.free_ok X G (c.fact 46 (f := .free "divmod") rfl), n_list := He.free_ok X G (c.fact 47 (f := .free "list") rfl), n_isinstance := He.free_ok X G (c.fact 48 (f := .free "isinstance") rfl), n_str := He.free_ok X G (c.fact 49 (f := .free "str") rfl), n_dict := He.free_ok X G (c.fact 50 (f := .free "dict") rfl), n_all := He.free_ok X G (c.fact 51 (f := .free "all") rfl), n_min := He.free_ok X G (c.fact 52 (f := .free "min") rfl), n_bool := He.free_ok X G (c.fact 53 (f := .free "bool") rfl), c_ASK := He.str_ok X G (c.fact 54 (f := .str "ASK" "ask") rfl), c_LETTERS := He.str_ok X G (c.fact 55 (f := .str "LETTERS" "abcdefghijklmnopqrstuvwxyz") rfl), c_MOST_NAME := He.int_ok X G (c.fact 56 (f := .int "MOST_NAME" 8) rfl), c_SMALL := He.str_ok X G (c.fact 57 (f := .str "SMALL" "abcdefghijklmnopqrstuvwxyz") rfl), c_MOST_HEAD := He.int_ok X G (c.fact 58 (f := .int "MOST_HEAD" 4) rfl), c_MOST_ATOMS := He.int_ok X G (c.fact 59 (f := .int "MOST_ATOMS" 6) rfl), c_MOST_VALUE := He.int_ok X G (c.fact 60 (f := .int "MOST_VALUE" 1000000000) rfl), c_MOST_WORD := He.int_ok X G (c.fact 61 (f := .int "MOST_WORD" 12) rfl), c_CAPITALS := He.str_ok X G (c.fact 62 (f := .str "CAPITALS" "ABCDEFGHIJKLMNOPQRSTUVWXYZ") rfl), c_DIGITS := He.str_ok X G (c.fact 63 (f := .str "DIGITS" "0123456789") rfl), c_MOST_TERMS := He.int_ok X G (c.fact 64 (f := .int "MOST_TERMS" 4) rfl) }, d36, p36⟩
end K63
end
section
set_option Elab.async false
set_option linter.all false
set_option maxRecDepth 100000
set_option maxHeartbeats 1000000
namespace K63
open PySem PySem.Spec PyProof.Rows L2 DV
/-! ### the terms and tables that occur -/
def U : List D := [.str "a", .str "b", .str "c", .str "d", .str "e", .str "f", .str "g", .str "h", .str "i", .str "j", .str "k", .str "l", .str "m", .str "n", .str "o", .str "p", .str "q", .str "r", .str "s", .str "t", .str "u", .str "v", .str "w", .str "x", .str "y", .str "z", .str "ab", .str "yy", .str "Red", .int 1, .int 2]
def Tb : List D := [.str "R", .str "S", .str "T"]
def nm : D → Bool
  | .str x => match x.cps.toList with
    | c :: _ => decide (97 ≤ c ∧ c ≤ 122)
    | [] => false
  | _ => false
def tk (d : D) : D := if nm d = true then .tuple [.int 2, .int 0, d] else match d with
  | .int i => .tuple [.int 0, .int i, .str ""]
  | d => .tuple [.int 1, .int 0, d]
theorem U_ind {p : D → Prop} (h : p (.str "a") ∧ p (.str "b") ∧ p (.str "c") ∧ p (.str "d") ∧ p (.str "e") ∧ p (.str "f") ∧ p (.str "g") ∧ p (.str "h") ∧ p (.str "i") ∧ p (.str "j") ∧ p (.str "k") ∧ p (.str "l") ∧ p (.str "m") ∧ p (.str "n") ∧ p (.str "o") ∧ p (.str "p") ∧ p (.str "q") ∧ p (.str "r") ∧ p (.str "s") ∧ p (.str "t") ∧ p (.str "u") ∧ p (.str "v") ∧ p (.str "w") ∧ p (.str "x") ∧ p (.str "y") ∧ p (.str "z") ∧ p (.str "ab") ∧ p (.str "yy") ∧ p (.str "Red") ∧ p (.int 1) ∧ p (.int 2)) : ∀ d ∈ U, p d := by
  intro d hd
  obtain ⟨h0, h1, h2, h3, h4, h5, h6, h7, h8, h9, h10, h11, h12, h13, h14, h15, h16, h17, h18, h19, h20, h21, h22, h23, h24, h25, h26, h27, h28, h29, h30⟩ := h
  simp only [U, List.mem_cons, List.not_mem_nil, or_false] at hd
  rcases hd with rfl | rfl | rfl | rfl | rfl | rfl | rfl | rfl | rfl | rfl | rfl | rfl | rfl | rfl | rfl | rfl | rfl | rfl | rfl | rfl | rfl | rfl | rfl | rfl | rfl | rfl | rfl | rfl | rfl | rfl | rfl <;> assumption
theorem Tb_ind {p : D → Prop} (h : p (.str "R") ∧ p (.str "S") ∧ p (.str "T")) : ∀ d ∈ Tb, p d := by
  intro d hd
  simp only [Tb, List.mem_cons, List.not_mem_nil, or_false] at hd
  rcases hd with rfl | rfl | rfl
  · exact h.1
  · exact h.2.1
  · exact h.2.2
variable (μ : List (Int × Int))
theorem is_name_U : ∀ d ∈ U, F_is_name [.fz d] μ = some (.fz (.bool (nm d)), μ) := by
  have h : ∀ d ∈ U, F_is_name [.fz d] μ = some (.fz (.bool (nm d)), μ.take μ.length) := by
    refine U_ind ⟨?_, ?_, ?_, ?_, ?_, ?_, ?_, ?_, ?_, ?_, ?_, ?_, ?_, ?_, ?_, ?_, ?_, ?_, ?_, ?_, ?_, ?_, ?_, ?_, ?_, ?_, ?_, ?_, ?_, ?_, ?_⟩ <;> kernel_rfl
  simpa only [List.take_length] using h
theorem l_is_name_U : ∀ d ∈ U, F_u_law_is_name [.fz d] μ = some (.fz (.bool (nm d)), μ) := by
  have h : ∀ d ∈ U, F_u_law_is_name [.fz d] μ = some (.fz (.bool (nm d)), μ.take μ.length) := by
    refine U_ind ⟨?_, ?_, ?_, ?_, ?_, ?_, ?_, ?_, ?_, ?_, ?_, ?_, ?_, ?_, ?_, ?_, ?_, ?_, ?_, ?_, ?_, ?_, ?_, ?_, ?_, ?_, ?_, ?_, ?_, ?_, ?_⟩ <;> kernel_rfl
  simpa only [List.take_length] using h
theorem is_word_Tb : ∀ d ∈ Tb, F_is_word [.fz d] μ = some (.fz (.bool true), μ) := by
  have h : ∀ d ∈ Tb, F_is_word [.fz d] μ = some (.fz (.bool true), μ.take μ.length) := by
    refine Tb_ind ⟨?_, ?_, ?_⟩ <;> kernel_rfl
  simpa only [List.take_length] using h
theorem is_word_Red : F_is_word [.fz (.str "Red")] μ = some (.fz (.bool true), μ) := by
  have h : F_is_word [.fz (.str "Red")] μ = some (.fz (.bool true), μ.take μ.length) := by kernel_rfl
  simpa only [List.take_length] using h
end K63
end
section
set_option Elab.async false
set_option linter.all false
set_option maxRecDepth 100000
set_option maxHeartbeats 1000000
namespace K63
open PySem PySem.Spec PyProof.Rows L2 DV
theorem is_integer_U (μ : List (Int × Int)) : ∀ d ∈ U, F_is_integer [.fz d] μ = some (.fz (.bool (match d with | .int _ => true | _ => false)), μ) := by
  have h : ∀ d ∈ U, F_is_integer [.fz d] μ = some (.fz (.bool (match d with | .int _ => true | _ => false)), μ.take μ.length) := by
    refine U_ind ⟨?_, ?_, ?_, ?_, ?_, ?_, ?_, ?_, ?_, ?_, ?_, ?_, ?_, ?_, ?_, ?_, ?_, ?_, ?_, ?_, ?_, ?_, ?_, ?_, ?_, ?_, ?_, ?_, ?_, ?_, ?_⟩ <;> kernel_rfl
  simpa only [List.take_length] using h
theorem is_term_U (μ : List (Int × Int)) : ∀ d ∈ U, F_is_term [.fz d] μ = some (.fz (.bool true), μ) := by
  have h : ∀ d ∈ U, F_is_term [.fz d] [] = some (.fz (.bool true), []) := by
    refine U_ind ⟨?_, ?_, ?_, ?_, ?_, ?_, ?_, ?_, ?_, ?_, ?_, ?_, ?_, ?_, ?_, ?_, ?_, ?_, ?_, ?_, ?_, ?_, ?_, ?_, ?_, ?_, ?_, ?_, ?_, ?_, ?_⟩ <;> kernel_rfl
  have hv : ∀ d ∈ [PyData.str "Red", .int 1, .int 2], F_is_value [.fz d] μ = some (.fz (.bool true), μ) := by
    have h : ∀ d ∈ [PyData.str "Red", .int 1, .int 2], F_is_value [.fz d] μ = some (.fz (.bool true), (((μ.take μ.length).take μ.length).take μ.length)) := by
      intro d hd
      simp only [List.mem_cons, List.not_mem_nil, or_false] at hd
      rcases hd with rfl | rfl | rfl
      · simp [F_is_value, B_is_value, cal, is_word_Red]
      · have w : F_is_word [.fz (.int 1)] μ = some (.fz (.bool false), μ) := by
          have : F_is_word [.fz (.int 1)] μ = some (.fz (.bool false), μ.take μ.length) := by kernel_rfl
          simpa using this
        have i := is_integer_U μ (.int 1) (by simp [U])
        simp [F_is_value, B_is_value, cal, w, i, absG, ltG]
      · have w : F_is_word [.fz (.int 2)] μ = some (.fz (.bool false), μ) := by
          have : F_is_word [.fz (.int 2)] μ = some (.fz (.bool false), μ.take μ.length) := by kernel_rfl
          simpa using this
        have i := is_integer_U μ (.int 2) (by simp [U])
        simp [F_is_value, B_is_value, cal, w, i, absG, ltG]
    simpa using h
  intro d hd
  have hn := is_name_U μ d hd
  by_cases c : nm d = true
  · simp [F_is_term, B_is_term, cal, hn, c]
  · have hv' : F_is_value [.fz d] μ = some (.fz (.bool true), μ) := by
      refine hv d ?_
      revert c
      revert d
      refine U_ind ?_
      refine ⟨?_, ?_, ?_, ?_, ?_, ?_, ?_, ?_, ?_, ?_, ?_, ?_, ?_, ?_, ?_, ?_, ?_, ?_, ?_, ?_, ?_, ?_, ?_, ?_, ?_, ?_, ?_, ?_, ?_, ?_, ?_⟩ <;> intros <;> first | (exfalso; apply ‹¬ nm _ = true›; decide +kernel) | simp
    simp [F_is_term, B_is_term, cal, hn, c, hv']
theorem term_key_U (μ : List (Int × Int)) : ∀ d ∈ U, F_term_key [.fz d] μ = some (.fz (tk d), μ) := by
  intro d hd
  have hn := is_name_U μ d hd
  have hi := is_integer_U μ d hd
  by_cases c : nm d = true
  · simp [F_term_key, B_term_key, cal, hn, c, tk]
  · cases d with
    | int i => simp [F_term_key, B_term_key, F_value_key, B_value_key, cal, hn, c, hi, tk]
    | _ => simp [F_term_key, B_term_key, F_value_key, B_value_key, cal, hn, c, hi, tk]
theorem l_term_key_U (μ : List (Int × Int)) : ∀ d ∈ U, F_u_law_term_key [.fz d] μ = some (.fz (tk d), μ) := by
  intro d hd
  have hn := l_is_name_U μ d hd
  have ks : kitB "str" "str" = some true := by decide +kernel
  have ki : kitB "int" "str" = some false := by decide +kernel
  by_cases c : nm d = true
  · simp [F_u_law_term_key, B_u_law_term_key, cal, hn, c, tk]
  · have : (∃ x, d = .str x) ∨ ∃ i, d = .int i := by
      revert d
      refine U_ind ?_
      refine ⟨?_, ?_, ?_, ?_, ?_, ?_, ?_, ?_, ?_, ?_, ?_, ?_, ?_, ?_, ?_, ?_, ?_, ?_, ?_, ?_, ?_, ?_, ?_, ?_, ?_, ?_, ?_, ?_, ?_, ?_, ?_⟩ <;> intros <;> first | exact .inl ⟨_, rfl⟩ | exact .inr ⟨_, rfl⟩
    rcases this with ⟨x, rfl⟩ | ⟨i, rfl⟩
    · simp [F_u_law_term_key, B_u_law_term_key, cal, hn, c, tk, isiG, tyD, ks]
    · simp [F_u_law_term_key, B_u_law_term_key, cal, hn, c, tk, isiG, tyD, ki]
/-! atoms -/
structure At where
  tb : D
  ts : List D
def ar : D → Nat
  | .str x => if x = "S" then 1 else if x = "T" then 3 else 2
  | _ => 2
def At.ok (a : At) : Prop := a.tb ∈ Tb ∧ (∀ t ∈ a.ts, t ∈ U) ∧ a.ts.length = ar a.tb
def At.enc (a : At) : D := .tuple [a.tb, .tuple a.ts]
def At.key (a : At) : D := .tuple [a.tb, .list (a.ts.map tk)]
theorem ar_le : ∀ d ∈ Tb, 1 ≤ ar d ∧ ar d ≤ 3 := Tb_ind ⟨by decide +kernel, by decide +kernel, by decide +kernel⟩
theorem ix_zero (a b : D) : ixG (.tuple [a, b]) (.int 0) = some (.fz a) := rfl
theorem ix_one (a b : D) : ixG (.tuple [a, b]) (.int 1) = some (.fz b) := rfl
theorem ix3_zero (a b c : D) : ixG (.tuple [a, b, c]) (.int 0) = some (.fz a) := rfl
theorem ix3_one (a b c : D) : ixG (.tuple [a, b, c]) (.int 1) = some (.fz b) := rfl
theorem ix3_two (a b c : D) : ixG (.tuple [a, b, c]) (.int 2) = some (.fz c) := rfl
theorem atom_key_ok (μ : List (Int × Int)) {a : At} (h : ∀ t ∈ a.ts, t ∈ U) : F_atom_key [.fz a.enc] μ = some (.fz a.key, μ) := by
  simp [F_atom_key, B_atom_key, At.enc, ix_zero, ix_one]
  rw [lcR_map tk rfl rfl]
  · simp [At.key]
  · intro d hd
    simp [wipeR, lock1, C_atom_key_1, cal, term_key_U μ d (h d hd)]
theorem l_atom_key_ok (μ : List (Int × Int)) {a : At} (h : ∀ t ∈ a.ts, t ∈ U) : F_u_law_atom_key [.fz a.enc] μ = some (.fz a.key, μ) := by
  simp [F_u_law_atom_key, B_u_law_atom_key, At.enc, ix_zero, ix_one]
  rw [lcR_map tk rfl rfl]
  · simp [At.key]
  · intro d hd
    simp [wipeR, lock1, C_u_law_atom_key_1, cal, l_term_key_U μ d (h d hd)]
end K63
end
section
set_option Elab.async false
set_option linter.all false
set_option maxRecDepth 100000
set_option maxHeartbeats 1000000
namespace K63
open PySem PySem.Spec PyProof.Rows L2 DV
/-! maps of names -/
abbrev Led := List (Str × Str)
def lkp : Led → Str → Option Str
  | [], _ => none
  | p :: r, k => if p.1 = k then some p.2 else lkp r k
def encK (led : Led) : List (D × D) := led.map fun p => (.str p.1, .str p.2)
abbrev encL (led : Led) : D := .dict (encK led)
def nmS (d : D) : Option Str := match d with
  | .str x => if nm (.str x) = true then some x else none
  | _ => none
theorem nmS_of {d : D} (h : nm d = true) : ∃ x, d = .str x ∧ nmS d = some x := by
  cases d with
  | str x => exact ⟨x, rfl, by simp [nmS, h]⟩
  | _ => cases h
theorem nmS_none {d : D} (h : ¬ nm d = true) : nmS d = none := by
  cases d with
  | str x => simp [nmS, h]
  | _ => rfl
def ap (led : Led) (d : D) : D := match nmS d with
  | some x => match lkp led x with
    | some y => .str y
    | none => d
  | none => d
theorem getK_enc (k : Str) : ∀ led : Led, getK (.inr k) (encK led) = (lkp led k).map .str
  | [] => rfl
  | p :: r => by
    show (if dKey (.str p.1) = some (.inr k) then some (PyData.str p.2) else getK (.inr k) (encK r)) = _
    by_cases h : p.1 = k
    · rw [if_pos (by rw [h]; rfl)]
      simp [lkp, h]
    · rw [if_neg (by intro z; injection z with z; injection z with z; exact h z), getK_enc k r]
      simp [lkp, h]
/-- all the names are led -/
def Has (led : Led) (ts : List D) : Prop := ∀ t ∈ ts, ∀ x, nmS t = some x → (lkp led x).isSome = true
theorem has_at {led : Led} {x : Str} (h : (lkp led x).isSome = true) : ixG (encL led) (.str x) = some (.fz (ap led (.str x))) ∨ nm (.str x) = false := by
  by_cases c : nm (.str x) = true
  · left
    obtain ⟨y, hy⟩ := Option.isSome_iff_exists.mp h
    have e : ixG (encL led) (.str x) = (getK (.inr x) (encK led)).map .fz := rfl
    rw [e, getK_enc, hy]
    simp [ap, nmS, c, hy]
  · right; simpa using c
theorem led_terms_ok (μ : List (Int × Int)) {ts : List D} {led : Led} {s : Sl} (hs : s = .fz (encL led) ∨ s = .bo (encL led)) (h : ∀ t ∈ ts, t ∈ U) (hl : Has led ts) : F_led_terms [.fz (.tuple ts), s] μ = some (.fz (.tuple (ts.map (ap led))), μ) := by
  rcases hs with rfl | rfl <;>
  · simp [F_led_terms, B_led_terms]
    rw [lcR_map (ap led) rfl rfl]
    · simp [tupleG]
    · intro d hd
      have hn := is_name_U μ d (h d hd)
      by_cases c : nm d = true
      · obtain ⟨x, rfl, e⟩ := nmS_of c
        have := (has_at (hl _ hd x e)).resolve_right (by simp [c])
        simp [wipeR, lock1, C_led_terms_1, cal, hn, c, this]
      · have e : ap led d = d := by simp [ap, nmS_none c]
        simp [wipeR, lock1, C_led_terms_1, cal, hn, c, e]
theorem l_led_ok (μ : List (Int × Int)) {ts : List D} {led : Led} {s : Sl} (hs : s = .fz (encL led) ∨ s = .bo (encL led)) (h : ∀ t ∈ ts, t ∈ U) (hl : Has led ts) : F_u_law_led [.fz (.tuple ts), s] μ = some (.fz (.tuple (ts.map (ap led))), μ) := by
  rcases hs with rfl | rfl <;>
  · simp [F_u_law_led, B_u_law_led]
    rw [lcR_map (ap led) rfl rfl]
    · simp [tupleG]
    · intro d hd
      have hn := l_is_name_U μ d (h d hd)
      by_cases c : nm d = true
      · obtain ⟨x, rfl, e⟩ := nmS_of c
        have := (has_at (hl _ hd x e)).resolve_right (by simp [c])
        simp [wipeR, lock1, C_u_law_led_1, cal, hn, c, this]
      · have e : ap led d = d := by simp [ap, nmS_none c]
        simp [wipeR, lock1, C_u_law_led_1, cal, hn, c, e]
/-! with_terms -/
def letter (n : Nat) : Str := ⟨#[97 + n]⟩
theorem letters : ∀ n : Nat, n < 26 → ixG (.str "abcdefghijklmnopqrstuvwxyz") (.int n) = some (.fz (.str (letter n))) := by
  have h : ∀ n : Fin 26, atI (("abcdefghijklmnopqrstuvwxyz" : Str).cps.toList) ((n.val : Nat) : Int) = some (97 + n.val) := by decide +kernel
  intro n hn
  have := h ⟨n, hn⟩
  have hl : ("abcdefghijklmnopqrstuvwxyz" : Str).length ≤ 100000 := by decide +kernel
  show (if ("abcdefghijklmnopqrstuvwxyz" : Str).length ≤ 100000 then (atI (("abcdefghijklmnopqrstuvwxyz" : Str).cps.toList) (n : Int)).map (fun c => Rs.fz (.str ⟨#[c]⟩)) else none) = _
  rw [if_pos hl, this]
  rfl
def st1 (led : Led) (t : D) : Led := match nmS t with
  | some x => if (lkp led x).isSome = true then led else led ++ [(x, letter led.length)]
  | none => led
def wt (led : Led) (ts : List D) : Led := ts.foldl st1 led
theorem st1_len (led : Led) (t : D) : led.length ≤ (st1 led t).length ∧ (st1 led t).length ≤ led.length + 1 := by
  unfold st1
  split
  · split
    · omega
    · simp
  · omega
theorem wt_len : ∀ (ts : List D) (led : Led), (wt led ts).length ≤ led.length + ts.length
  | [], led => Nat.le_refl _
  | t :: ts, led => by
    have := st1_len led t
    have h2 := wt_len ts (st1 led t)
    show (wt (st1 led t) ts).length ≤ _
    simp only [List.length_cons]
    omega
def Pl (o : Option Sl) : Prop := o = none ∨ ∃ d, o = some (.fz d)
theorem encK_len (led : Led) : (encK led).length = led.length := by simp [encK]
theorem notIn_enc (led : Led) (x : Str) : notInG (.str x) (encL led) = some (.fz (.bool (!(lkp led x).isSome))) := by
  show (isIn (.str x) (encL led)).bind _ = _
  have : isIn (.str x) (encL led) = some (getK (.inr x) (encK led)).isSome := rfl
  rw [this, getK_enc]
  simp
theorem len_enc (led : Led) : lenG (encL led) = some (.fz (.int led.length)) := by
  show intR ((encK led).length : Int) = _
  rw [encK_len]; rfl
theorem put_enc {led : Led} {x y : Str} (h : ¬ (lkp led x).isSome = true) : putD (.inr x) (.str y) (encK led) = encK (led ++ [(x, y)]) := by
  unfold putD
  rw [getK_enc, if_neg (by simpa using h)]
  simp [encK, keyD]
theorem with_loop (μ : List (Int × Int)) (a b : Option Sl) : ∀ (ts : List D) (led : Led) (o : Option Sl), (∀ t ∈ ts, t ∈ U) → led.length + ts.length ≤ 26 → Pl o →
    ∃ o', forL (tgN 3) L_with_terms_1 ts ⟨[a, b, some (.ow (encL led)), o], μ⟩ = some (.nx, ⟨[a, b, some (.ow (encL (wt led ts))), o'], μ⟩)
  | [], led, o, _, _, _ => ⟨o, rfl⟩
  | t :: ts, led, o, h, hl, ho => by
    have hn := is_name_U μ t (h t (List.mem_cons_self ..))
    have hs := st1_len led t
    simp only [List.length_cons] at hl
    obtain ⟨o', ih⟩ := with_loop μ a b ts (st1 led t) (some (.fz t)) (fun x hx => h x (List.mem_cons_of_mem _ hx)) (by omega) (.inr ⟨t, rfl⟩)
    refine ⟨o', ?_⟩
    rw [forL_next (e2 := ⟨[a, b, some (.ow (encL (st1 led t))), some (.fz t)], μ⟩)]
    · exact ih
    · have key : L_with_terms_1 ⟨[a, b, some (.ow (encL led)), some (.fz t)], μ⟩ = some (.nx, ⟨[a, b, some (.ow (encL (st1 led t))), some (.fz t)], μ⟩) := by
        by_cases c : nm t = true
        · obtain ⟨x, rfl, e⟩ := nmS_of c
          by_cases c2 : (lkp led x).isSome = true
          · have : st1 led (.str x) = led := by simp [st1, e, c2]
            simp [L_with_terms_1, cal, hn, c, notIn_enc, c2, this]
          · have e2 : st1 led (.str x) = led ++ [(x, letter led.length)] := by simp [st1, e, c2]
            have hlen : (encK led).length < 100000 := by rw [encK_len]; omega
            simp [L_with_terms_1, cal, hn, c, notIn_enc, c2, e2, len_enc, letters led.length (by omega), dKey, hlen, put_enc c2]
        · have : st1 led t = led := by simp [st1, nmS_none c]
          simp [L_with_terms_1, cal, hn, c, this]
      rcases ho with rfl | ⟨d, rfl⟩ <;> simp [key]
theorem with_terms_ok (μ : List (Int × Int)) {ts : List D} {led : Led} {s : Sl} (hs : s = .fz (encL led) ∨ s = .bo (encL led)) (h : ∀ t ∈ ts, t ∈ U) (hl : led.length + ts.length ≤ 26) : F_with_terms [s, .fz (.tuple ts)] μ = some (.fr (encL (wt led ts)), μ) := by
  have hl2 : s = .fz (encL led) ∨ s = .bo (encL led) := hs
  obtain ⟨o', hf⟩ := with_loop μ (some s) (some (.fz (.tuple ts))) ts led none h hl (.inl rfl)
  rcases hs with rfl | rfl <;>
  · simp [F_with_terms, B_with_terms, dictG, forR_none, hf]
end K63
end
section
set_option Elab.async false
set_option linter.all false
set_option maxRecDepth 100000
set_option maxHeartbeats 1000000
namespace K63
open PySem PySem.Spec PyProof.Rows L2 DV
theorem kit_tt : kitB "tuple" "tuple" = some true := by decide +kernel
@[simp] theorem isi_tuple (ds : List D) : isiG "tuple" (.tuple ds) = some (.fz (.bool true)) := by
  show (kitB "tuple" "tuple").bind _ = _
  rw [kit_tt]; rfl
@[simp] theorem len_tuple (ds : List D) : lenG (.tuple ds) = some (.fz (.int ds.length)) := rfl
@[simp] theorem len_list (ds : List D) : lenG (.list ds) = some (.fz (.int ds.length)) := rfl
@[simp] theorem le_int (i j : Int) : leG (.int i) (.int j) = some (.fz (.bool (decide (i ≤ j)))) := rfl
@[simp] theorem gt_int (i j : Int) : gtG (.int i) (.int j) = some (.fz (.bool (decide (j < i)))) := rfl
@[simp] theorem eq_int (i j : Int) : eqG (.int i) (.int j) = some (.fz (.bool (i == j))) := rfl
@[simp] theorem ne_int (i j : Int) : neG (.int i) (.int j) = some (.fz (.bool (!(i == j)))) := rfl
theorem bools_trues {α : Type} : ∀ xs : List α, bools (xs.map fun _ => PyData.bool true) = some (xs.map fun _ => true)
  | [] => rfl
  | x :: xs => by
    show (bools (xs.map fun _ => PyData.bool true)).map (true :: ·) = _
    rw [bools_trues xs]; rfl
@[simp] theorem all_trues {α : Type} (xs : List α) : allG (.list (xs.map fun _ => PyData.bool true)) = some (.fz (.bool true)) := by
  show (bools _).bind _ = _
  rw [bools_trues]
  simp
theorem is_terms_ok (μ : List (Int × Int)) {ts : List D} {l m : Int} (h : ∀ t ∈ ts, t ∈ U) (h1 : l ≤ ts.length) (h2 : (ts.length : Int) ≤ m) : F_is_terms [.fz (.tuple ts), .fz (.int l), .fz (.int m)] μ = some (.fz (.bool true), μ) := by
  simp [F_is_terms, B_is_terms, h1, h2]
  rw [lcR_map (fun _ => PyData.bool true) rfl rfl]
  · simp
  · intro d hd
    simp [wipeR, lock1, C_is_terms_1, cal, is_term_U μ d (h d hd)]
theorem is_row2 (μ : List (Int × Int)) (a b : D) : F_is_row [.fz (.tuple [a, b]), .fz (.int 2)] μ = some (.fz (.bool true), μ) := by
  simp [F_is_row, B_is_row]
theorem is_row3 (μ : List (Int × Int)) (a b c : D) : F_is_row [.fz (.tuple [a, b, c]), .fz (.int 3)] μ = some (.fz (.bool true), μ) := by
  simp [F_is_row, B_is_row]
theorem is_atom_ok (μ : List (Int × Int)) {a : At} (h : a.ok) : F_is_atom [.fz a.enc] μ = some (.fz (.bool true), μ) := by
  obtain ⟨h1, h2, h3⟩ := h
  have ha := ar_le a.tb h1
  have t := is_terms_ok μ (l := 1) (m := 4) h2 (by omega) (by omega)
  simp [F_is_atom, B_is_atom, At.enc, cal, is_row2, ix_zero, ix_one, is_word_Tb μ a.tb h1, t]
/-! unlike_table -/
def encS (as : List At) : List D := as.map At.enc
/-- the arities met so far -/
def Ar (kvs : List (D × D)) : Prop := ∀ x d, getK (.inr x) kvs = some d → d = .int (ar (.str x))
theorem tb_str : ∀ d ∈ Tb, ∃ x, d = .str x := Tb_ind ⟨⟨_, rfl⟩, ⟨_, rfl⟩, ⟨_, rfl⟩⟩
theorem getK_map {k k' : L2.Key} {v : D} : ∀ kvs : List (D × D), getK k' (kvs.map fun p => if dKey p.1 = some k then (p.1, v) else p) = if k' = k then (getK k' kvs).map (fun _ => v) else getK k' kvs
  | [] => by simp [getK]
  | p :: r => by
    have ih := getK_map (k := k) (k' := k') (v := v) r
    rw [List.map_cons]
    by_cases h : dKey p.1 = some k
    · rw [if_pos h]
      by_cases e : k' = k
      · subst e; simp [getK, h]
      · have h2 : ¬ k = k' := fun z => e z.symm
        simp [getK, h, h2, e] at ih ⊢
        exact ih
    · rw [if_neg h]
      by_cases e : k' = k
      · subst e
        simp [getK, h] at ih ⊢
        exact ih
      · by_cases h3 : dKey p.1 = some k'
        · simp [getK, h3, e]
        · simp [getK, h3, e] at ih ⊢
          exact ih
theorem getK_app {k : L2.Key} : ∀ (a b : List (D × D)), getK k (a ++ b) = match getK k a with
    | some d => some d
    | none => getK k b
  | [], b => rfl
  | p :: a, b => by
    have ih := getK_app (k := k) a b
    rw [List.cons_append]
    by_cases h : dKey p.1 = some k
    · simp [getK, h]
    · have e1 : getK k (p :: (a ++ b)) = getK k (a ++ b) := by rw [getK]; rw [if_neg h]
      have e2 : getK k (p :: a) = getK k a := by rw [getK]; rw [if_neg h]
      rw [e1, e2, ih]
theorem getK_put {k k' : L2.Key} {v : D} (kvs : List (D × D)) : getK k' (putD k v kvs) = if k' = k then some v else getK k' kvs := by
  unfold putD
  by_cases c : (getK k kvs).isSome = true
  · rw [if_pos c, getK_map]
    by_cases e : k' = k
    · subst e
      obtain ⟨d, hd⟩ := Option.isSome_iff_exists.mp c
      simp [hd]
    · simp [e]
  · rw [if_neg c, getK_app]
    have c' : getK k kvs = none := by simpa using c
    by_cases e : k' = k
    · subst e
      simp [c', getK, dKey_keyD]
    · have : getK k' [(keyD k, v)] = none := by
        have h : ¬ k = k' := fun z => e z.symm
        simp [getK, dKey_keyD, h]
      rw [this]
      cases getK k' kvs <;> simp [e]
theorem Ar.put {kvs : List (D × D)} {x : Str} (h : Ar kvs) : Ar (putD (.inr x) (.int (ar (.str x))) kvs) := fun y d hy => by
  rw [getK_put] at hy
  split at hy
  · rename_i e; injection e with e; subst e; cases hy; rfl
  · exact h y d hy
theorem putD_len (k : L2.Key) (v : D) (kvs : List (D × D)) : (putD k v kvs).length ≤ kvs.length + 1 := by
  unfold putD
  split <;> simp
theorem unlike_loop (μ : List (Int × Int)) (a : Option Sl) : ∀ (as : List At) (kvs : List (D × D)) (o o2 : Option Sl), (∀ x ∈ as, x.ok) → kvs.length + as.length ≤ 1000 → Ar kvs → Pl o → Pl o2 →
    ∃ kvs' o' o2', forL (tgT 2 (tgCons (tgN 3) (tgCons (tgN 4) tgNil))) L_unlike_table_1 (encS as) ⟨[a, some (.ow (.dict kvs)), some (.ow (.list [])), o, o2], μ⟩ = some (.nx, ⟨[a, some (.ow (.dict kvs')), some (.ow (.list [])), o', o2'], μ⟩)
  | [], kvs, o, o2, _, _, _, _, _ => ⟨kvs, o, o2, rfl⟩
  | x :: as, kvs, o, o2, h, hl, hA, ho, ho2 => by
    have hx := h x (List.mem_cons_self ..)
    simp only [List.length_cons] at hl
    obtain ⟨s, hs⟩ := tb_str _ hx.1
    have hk : ∃ kvs', (sdG (.dict kvs) [x.tb, .int x.ts.length] = some (.int x.ts.length, .dict kvs')) ∧ Ar kvs' ∧ kvs'.length ≤ kvs.length + 1 := by
      have h3 := hx.2.2
      rw [hs] at h3 ⊢
      have lt : kvs.length < 100000 := by omega
      cases q : getK (.inr s) kvs with
      | some d =>
        have := hA s d q
        refine ⟨kvs, ?_, hA, by omega⟩
        simp [sdG, dKey, lt, q, this, h3]
      | none =>
        refine ⟨putD (.inr s) (.int x.ts.length) kvs, ?_, ?_, putD_len ..⟩
        · simp [sdG, dKey, lt, q]
        · rw [h3]; exact hA.put
    obtain ⟨kvs1, h1, hA1, hl1⟩ := hk
    obtain ⟨kvs2, o', o2', ih⟩ := unlike_loop μ a as kvs1 (some (.fz x.tb)) (some (.fz (.tuple x.ts))) (fun y hy => h y (List.mem_cons_of_mem _ hy)) (by omega) hA1 (.inr ⟨_, rfl⟩) (.inr ⟨_, rfl⟩)
    refine ⟨kvs2, o', o2', ?_⟩
    show forL _ _ (x.enc :: encS as) _ = _
    rw [forL_next (e2 := ⟨[a, some (.ow (.dict kvs1)), some (.ow (.list [])), some (.fz x.tb), some (.fz (.tuple x.ts))], μ⟩)]
    · exact ih
    · have key : L_unlike_table_1 ⟨[a, some (.ow (.dict kvs)), some (.ow (.list [])), some (.fz x.tb), some (.fz (.tuple x.ts))], μ⟩ = some (.nx, ⟨[a, some (.ow (.dict kvs1)), some (.ow (.list [])), some (.fz x.tb), some (.fz (.tuple x.ts))], μ⟩) := by
        simp [L_unlike_table_1, h1]
      rcases ho with rfl | ⟨d, rfl⟩ <;> rcases ho2 with rfl | ⟨d2, rfl⟩ <;> simp [key, At.enc]
theorem ne_nil_nil : neG (.list []) (.list []) = some (.fz (.bool false)) := rfl
theorem unlike_ok (μ : List (Int × Int)) {as : List At} (h : ∀ x ∈ as, x.ok) (hl : as.length ≤ 1000) : F_unlike_table [.fz (.tuple (encS as))] μ = some (.fz .none, μ) := by
  obtain ⟨kvs', o', o2', hf⟩ := unlike_loop μ (some (.fz (.tuple (encS as)))) as [] none none h (by simpa using hl) (fun x d z => by cases z) (.inl rfl) (.inl rfl)
  simp [F_unlike_table, B_unlike_table, forR_none, hf, ne_nil_nil]
/-! names_in -/
def nms (ts : List D) : List Str := ts.filterMap nmS
def namesA (as : List At) : List Str := as.flatMap fun a => nms a.ts
theorem nms_filter : ∀ {ts : List D}, (∀ t ∈ ts, t ∈ U) → (ts.filterMap fun t => if nm t = true then some t else none) = (nms ts).map .str
  | [], _ => rfl
  | t :: ts, h => by
    have ih := nms_filter (ts := ts) fun x hx => h x (List.mem_cons_of_mem _ hx)
    rw [List.filterMap_cons]
    by_cases c : nm t = true
    · obtain ⟨x, rfl, e⟩ := nmS_of c
      rw [if_pos c]
      simp only [nms, List.filterMap_cons, e, List.map_cons] at ih ⊢
      rw [ih]
    · rw [if_neg c]
      simp only [nms, List.filterMap_cons, nmS_none c] at ih ⊢
      exact ih
theorem strL_map : ∀ xs : List Str, strL (xs.map .str) = some xs
  | [] => rfl
  | x :: xs => by
    show (strL (xs.map .str)).map (x :: ·) = _
    rw [strL_map xs]; rfl
theorem nms_len (ts : List D) : (nms ts).length ≤ ts.length := List.length_filterMap_le _ _
theorem names_loop (μ : List (Int × Int)) (a : Option Sl) : ∀ (as : List At) (acc : List Str) (o o2 o3 : Option Sl), (∀ x ∈ as, x.ok) → acc.length + 3 * as.length ≤ 1000 → Pl o → Pl o2 → Pl o3 →
    ∃ o' o2' o3', forL (tgT 2 (tgCons (tgN 2) (tgCons (tgN 3) tgNil))) L_names_in_1 (encS as) ⟨[a, some (.ow (.list (acc.map .str))), o, o2, o3], μ⟩ = some (.nx, ⟨[a, some (.ow (.list ((acc ++ namesA as).map .str))), o', o2', o3'], μ⟩)
  | [], acc, o, o2, o3, _, _, _, _, _ => ⟨o, o2, o3, by simp [namesA, encS, forL_nil]⟩
  | x :: as, acc, o, o2, o3, h, hl, ho, ho2, ho3 => by
    have hx := h x (List.mem_cons_self ..)
    have ha := ar_le x.tb hx.1
    have h3 := hx.2.2
    have hn := nms_len x.ts
    simp only [List.length_cons] at hl
    obtain ⟨o', o2', o3', ih⟩ := names_loop μ a as (acc ++ nms x.ts) (some (.fz x.tb)) (some (.fz (.tuple x.ts))) o3 (fun y hy => h y (List.mem_cons_of_mem _ hy)) (by simp only [List.length_append]; omega) (.inr ⟨_, rfl⟩) (.inr ⟨_, rfl⟩) ho3
    refine ⟨o', o2', o3', ?_⟩
    show forL _ _ (x.enc :: encS as) _ = _
    rw [forL_next (e2 := ⟨[a, some (.ow (.list ((acc ++ nms x.ts).map .str))), some (.fz x.tb), some (.fz (.tuple x.ts)), o3], μ⟩)]
    · rw [ih, List.append_assoc]
      simp [namesA]
    · have key : L_names_in_1 ⟨[a, some (.ow (.list (acc.map .str))), some (.fz x.tb), some (.fz (.tuple x.ts)), o3], μ⟩ = some (.nx, ⟨[a, some (.ow (.list ((acc ++ nms x.ts).map .str))), some (.fz x.tb), some (.fz (.tuple x.ts)), o3], μ⟩) := by
        have hsz : acc.length + (nms x.ts).length ≤ 100000 := by omega
        simp [L_names_in_1]
        rw [lcR_pure (fun t => if nm t = true then some t else none) rfl (by rcases ho3 with rfl | ⟨d, rfl⟩ <;> rfl)]
        · rw [nms_filter hx.2.1]
          simp [hsz]
        · intro d hd
          have hn := is_name_U μ d (hx.2.1 d hd)
          by_cases c : nm d = true
          · simp [wipeR, lock1, C_names_in_1, cal, hn, c]
          · simp [wipeR, lock1, C_names_in_1, cal, hn, c]
      rcases ho with rfl | ⟨d, rfl⟩ <;> rcases ho2 with rfl | ⟨d2, rfl⟩ <;> simp [key, At.enc]
theorem namesA_len : ∀ {as : List At}, (∀ x ∈ as, x.ok) → (namesA as).length ≤ 3 * as.length
  | [], _ => Nat.le_refl _
  | x :: as, h => by
    have ih := namesA_len (as := as) fun y hy => h y (List.mem_cons_of_mem _ hy)
    have hx := h x (List.mem_cons_self ..)
    have ha := ar_le x.tb hx.1
    have hn := nms_len x.ts
    have h3 := hx.2.2
    simp only [namesA, List.flatMap_cons, List.length_append, List.length_cons] at ih ⊢
    omega
theorem names_in_ok (μ : List (Int × Int)) {as : List At} (h : ∀ x ∈ as, x.ok) (hl : as.length ≤ 20) : F_names_in [.fz (.tuple (encS as))] μ = some (.fr (.list ((sset (namesA as)).map .str)), μ) := by
  obtain ⟨o', o2', o3', hf⟩ := names_loop μ (some (.fz (.tuple (encS as)))) as [] none none none h (by simp; omega) (.inl rfl) (.inl rfl) (.inl rfl)
  have hn := namesA_len h
  have h63 : (namesA as).length < 63 := by omega
  simp at hf
  simp [F_names_in, B_names_in, forR_none, hf, ssetG, strL_map, h63]
end K63
end
section
set_option Elab.async false
set_option linter.all false
set_option maxRecDepth 100000
set_option maxHeartbeats 1000000
namespace K63
open PySem PySem.Spec PyProof.Rows L2 DV
/-! data that may be compared -/
theorem can_U : ∀ d ∈ U, d.canLay0 = true ∧ d.depth = 0 := by
  refine U_ind ⟨?_, ?_, ?_, ?_, ?_, ?_, ?_, ?_, ?_, ?_, ?_, ?_, ?_, ?_, ?_, ?_, ?_, ?_, ?_, ?_, ?_, ?_, ?_, ?_, ?_, ?_, ?_, ?_, ?_, ?_, ?_⟩ <;> exact ⟨by decide +kernel, rfl⟩
theorem can_Tb : ∀ d ∈ Tb, d.canLay0 = true ∧ d.depth = 0 := by
  refine Tb_ind ⟨?_, ?_, ?_⟩ <;> exact ⟨by decide +kernel, rfl⟩
theorem can_all {k : Nat} : ∀ {ds : List D}, (∀ d ∈ ds, d.canLay0 = true ∧ d.depth ≤ k) → PyData.canLayAll0 ds = true ∧ PyData.depthAll ds ≤ k
  | [], _ => ⟨rfl, Nat.zero_le _⟩
  | d :: ds, h => by
    obtain ⟨h1, h2⟩ := can_all (ds := ds) fun x hx => h x (List.mem_cons_of_mem _ hx)
    obtain ⟨h3, h4⟩ := h d (List.mem_cons_self ..)
    constructor
    · simp [PyData.canLayAll0, h3, h1]
    · simp only [PyData.depthAll]; omega
theorem can_lst {k : Nat} {ds : List D} (h : ∀ d ∈ ds, d.canLay0 = true ∧ d.depth ≤ k) : (PyData.list ds).canLay0 = true ∧ (PyData.list ds).depth ≤ k + 1 := by
  obtain ⟨h1, h2⟩ := can_all h
  exact ⟨by simp [PyData.canLay0, h1], by simp only [PyData.depth]; omega⟩
theorem can_tup {k : Nat} {ds : List D} (h : ∀ d ∈ ds, d.canLay0 = true ∧ d.depth ≤ k) : (PyData.tuple ds).canLay0 = true ∧ (PyData.tuple ds).depth ≤ k + 1 := by
  obtain ⟨h1, h2⟩ := can_all h
  exact ⟨by simp [PyData.canLay0, h1], by simp only [PyData.depth]; omega⟩
theorem shp_of {d : D} {k : Nat} (hk : k ≤ 64) (h : d.canLay0 = true ∧ d.depth ≤ k) : SeqAt.shaped d = true := by
  unfold SeqAt.shaped
  rw [h.1, Bool.true_and, decide_eq_true_eq]
  omega
theorem shp_lst {k : Nat} (hk : k < 64) {ds : List D} (h : ∀ d ∈ ds, d.canLay0 = true ∧ d.depth ≤ k) : SeqAt.shaped (.list ds) = true := shp_of (k := k + 1) (by omega) (can_lst h)
theorem shp_tup {k : Nat} (hk : k < 64) {ds : List D} (h : ∀ d ∈ ds, d.canLay0 = true ∧ d.depth ≤ k) : SeqAt.shaped (.tuple ds) = true := shp_of (k := k + 1) (by omega) (can_tup h)
theorem can_at {a : At} (h : a.ok) : a.enc.canLay0 = true ∧ a.enc.depth ≤ 2 := by
  have h1 := can_Tb _ h.1
  have h2 := can_tup (k := 0) (ds := a.ts) fun d hd => ⟨(can_U d (h.2.1 d hd)).1, Nat.le_of_eq (can_U d (h.2.1 d hd)).2⟩
  refine can_tup (k := 1) fun d hd => ?_
  simp only [List.mem_cons, List.not_mem_nil, or_false] at hd
  rcases hd with rfl | rfl
  · exact ⟨h1.1, by omega⟩
  · exact h2
/-! x in names -/
theorem eqv_str (a b : Str) : PyData.eqv (.str a) (.str b) = (a == b) := by simp [PyData.eqv]
theorem any_str (x : Str) : ∀ ns : List Str, ((ns.map PyData.str).any fun z => PyData.eqv z (.str x)) = decide (x ∈ ns)
  | [] => by simp
  | n :: ns => by
    rw [List.map_cons, List.any_cons, any_str x ns, eqv_str]
    by_cases h : n = x
    · subst h; simp
    · have h2 : ¬ x = n := fun z => h z.symm
      have : (n == x) = false := beq_eq_false_iff_ne.mpr h
      simp [this, h2]
def NmsU (ns : List Str) : Prop := ∀ x ∈ ns, PyData.str x ∈ U
theorem nmsU_shp {ns : List Str} (h : NmsU ns) : SeqAt.shaped (.list (ns.map .str)) = true := shp_lst (k := 0) (by omega) fun d hd => by
  obtain ⟨x, hx, rfl⟩ := List.mem_map.mp hd
  exact ⟨(can_U _ (h x hx)).1, Nat.le_of_eq (can_U _ (h x hx)).2⟩
theorem U_shp {d : D} (h : d ∈ U) : SeqAt.shaped d = true := shp_of (k := 0) (by omega) ⟨(can_U d h).1, Nat.le_of_eq (can_U d h).2⟩
theorem isIn_names {x : Str} {ns : List Str} (hx : PyData.str x ∈ U) (h : NmsU ns) : isIn (.str x) (.list (ns.map .str)) = some (decide (x ∈ ns)) := by
  have h1 := U_shp hx
  have h2 := nmsU_shp h
  show (if SeqAt.shaped (.str x) = true ∧ SeqAt.shaped (.list (ns.map .str)) = true then some ((ns.map PyData.str).any fun z => PyData.eqv z (.str x)) else none) = _
  rw [if_pos ⟨h1, h2⟩, any_str]
theorem nms_U {ts : List D} (h : ∀ t ∈ ts, t ∈ U) : NmsU (nms ts) := fun x hx => by
  obtain ⟨t, ht, e⟩ := List.mem_filterMap.mp hx
  have : t = .str x := by
    cases t with
    | str y =>
      unfold nmS at e
      simp only at e
      split at e
      · cases e; rfl
      · cases e
    | _ => cases e
  rw [← this]; exact h t ht
theorem namesA_U {as : List At} (h : ∀ x ∈ as, x.ok) : NmsU (namesA as) := fun x hx => by
  obtain ⟨a, ha, h2⟩ := List.mem_flatMap.mp hx
  exact nms_U (h a ha).2.1 x h2
theorem sset_U {ns : List Str} (h : NmsU ns) : NmsU (sset ns) := fun x hx => h x ((mem_sset x ns).mp hx)
/-! questions -/
structure Qn where
  hd : List D
  as : List At
def Qn.enc (q : Qn) : D := .tuple [.str "ask", .tuple q.hd, .tuple (encS q.as)]
structure Qn.ok (q : Qn) : Prop where
  a : ∀ x ∈ q.as, x.ok
  n0 : 1 ≤ q.as.length
  n1 : q.as.length ≤ 5
  h : ∀ t ∈ q.hd, t ∈ U
  hl : q.hd.length ≤ 2
  hn : ∀ x ∈ nms q.hd, x ∈ namesA q.as
theorem Qn.ok.a_U {q : Qn} (k : q.ok) {x : At} (hx : x ∈ q.as) : ∀ t ∈ x.ts, t ∈ U := (k.a x hx).2.1
theorem ask_ne : neG (.str "ask") (.str "ask") = some (.fz (.bool false)) := by
  have h : SeqAt.shaped (.str "ask") = true := by decide +kernel
  show (if SeqAt.shaped (.str "ask") = true ∧ SeqAt.shaped (.str "ask") = true then boolR (!PyData.eqv (.str "ask") (.str "ask")) else none) = _
  rw [if_pos ⟨h, h⟩, eqv_str]
  simp
theorem is_question_ok (μ : List (Int × Int)) {q : Qn} (k : q.ok) : F_is_question_of [.fz q.enc] μ = some (.fz (.bool true), μ) := by
  have h0 := k.n0
  have h1 := k.n1
  have h2 := k.hl
  have t := is_terms_ok μ (l := 0) (m := 4) k.h (by omega) (by omega)
  have nU := sset_U (namesA_U k.a)
  have ni := names_in_ok μ k.a (by omega)
  have ul := unlike_ok μ k.a (by omega)
  have el : (encS q.as).length = q.as.length := by simp [encS]
  have l1 : (1 : Int) ≤ (q.as.length : Int) := by omega
  have l2 : (q.as.length : Int) ≤ 6 := by omega
  have a0 : ∀ (ρ : List (Option Sl)), (match ρ[2]? with
      | some none => true
      | some (some (.fz _)) => true
      | _ => false) = true → lcR [2] (tgN 2) (DV.ret true) C_is_question_of_1 (encS q.as, none) ⟨[some (.fz q.enc), none, none, none], μ⟩ = some (.fr (.list ((encS q.as).map fun _ => PyData.bool true)), ⟨[some (.fz q.enc), none, none, none], μ⟩) := fun _ _ => by
    refine lcR_map (fun _ => PyData.bool true) rfl rfl fun d hd => ?_
    obtain ⟨x, hx, rfl⟩ := List.mem_map.mp hd
    simp [wipeR, lock1, C_is_question_of_1, cal, is_atom_ok μ (k.a x hx)]
  have a1 := a0 [none, none, none] rfl
  have a2 : lcR [3] (tgN 3) (tstM (callM F_is_name (consM (slM 3) (DV.ret [])))) C_is_question_of_2 (q.hd, none) ⟨[some (.fz q.enc), some (.ow (.list ((sset (namesA q.as)).map .str))), none, none], μ⟩ =
      some (.fr (.list ((nms q.hd).map fun _ => PyData.bool true)), ⟨[some (.fz q.enc), some (.ow (.list ((sset (namesA q.as)).map .str))), none, none], μ⟩) := by
    rw [lcR_pure (fun t => if nm t = true then some (.bool true) else none) rfl rfl]
    · have : ∀ ts : List D, (ts.filterMap fun t => if nm t = true then some (PyData.bool true) else none) = (nms ts).map fun _ => PyData.bool true := fun ts => by
        induction ts with
        | nil => rfl
        | cons t ts ih =>
          rw [List.filterMap_cons]
          by_cases c : nm t = true
          · obtain ⟨x, rfl, e⟩ := nmS_of c
            simp only [c, if_true, nms, List.filterMap_cons, e, List.map_cons] at ih ⊢
            rw [ih]
          · simp only [c, nms, List.filterMap_cons, nmS_none c] at ih ⊢
            exact ih
      rw [this]
    · intro d hd
      have hn := is_name_U μ d (k.h d hd)
      by_cases c : nm d = true
      · obtain ⟨x, rfl, e⟩ := nmS_of c
        have hx : x ∈ sset (namesA q.as) := (mem_sset x _).mpr (k.hn x (List.mem_filterMap.mpr ⟨_, hd, e⟩))
        have := isIn_names (k.h _ hd) nU
        simp [wipeR, lock1, C_is_question_of_2, cal, hn, c, inG, this, hx]
      · simp [wipeR, lock1, C_is_question_of_2, cal, hn, c]
  unfold Qn.enc at a1 a2 ⊢
  simp [F_is_question_of, B_is_question_of, cal, is_row3, ix3_zero, ix3_one, ix3_two, ask_ne, t, el, l1, l2, a1, ni, ul, isG, isNoneD, a2]
theorem want_ok (μ : List (Int × Int)) {q : Qn} (k : q.ok) : F_want_question [.fz q.enc] μ = some (.fz q.enc, μ) := by
  simp [F_want_question, B_want_question, cal, is_question_ok μ k]
end K63
end
section
set_option Elab.async false
set_option linter.all false
set_option maxRecDepth 100000
set_option maxHeartbeats 1000000
namespace K63
open PySem PySem.Spec PyProof.Rows L2 DV PySem.W
/-! letters, maps -/
theorem letter_U (k : Nat) (h : k < 26) : PyData.str (letter k) ∈ U := by
  have e : ∀ k : Fin 26, letter k.val = ([("a" : Str), "b", "c", "d", "e", "f", "g", "h", "i", "j", "k", "l", "m", "n", "o", "p", "q", "r", "s", "t", "u", "v", "w", "x", "y", "z"] : List Str).getD k.val "a" := by decide +kernel
  have m : ∀ x ∈ ([("a" : Str), "b", "c", "d", "e", "f", "g", "h", "i", "j", "k", "l", "m", "n", "o", "p", "q", "r", "s", "t", "u", "v", "w", "x", "y", "z"] : List Str), PyData.str x ∈ U := by
    simp [U]
  rw [e ⟨k, h⟩]
  refine m _ ?_
  simp only [List.getD_eq_getElem?_getD]
  rw [List.getElem?_eq_getElem (by simpa using h)]
  exact List.getElem_mem _
def LedU (led : Led) : Prop := ∀ k y, lkp led k = some y → PyData.str y ∈ U
theorem lkp_app (k : Str) : ∀ a b : Led, lkp (a ++ b) k = (match lkp a k with
    | some y => some y
    | none => lkp b k)
  | [], b => rfl
  | p :: a, b => by
    have ih := lkp_app k a b
    rw [List.cons_append]
    by_cases h : p.1 = k
    · simp [lkp, h]
    · simp [lkp, h, ih]
theorem st1_keep {led : Led} {t : D} {k y : Str} (h : lkp led k = some y) : lkp (st1 led t) k = some y := by
  unfold st1
  split
  · split
    · exact h
    · rw [lkp_app, h]
  · exact h
theorem wt_keep : ∀ {ts : List D} {led : Led} {k y : Str}, lkp led k = some y → lkp (wt led ts) k = some y
  | [], _, _, _, h => h
  | t :: ts, led, k, y, h => wt_keep (ts := ts) (st1_keep h)
theorem st1_has {led : Led} {t : D} {x : Str} (h : nmS t = some x) : (lkp (st1 led t) x).isSome = true := by
  unfold st1
  rw [h]
  simp only
  split
  · assumption
  · rw [lkp_app]
    rename_i c
    have : lkp led x = none := by simpa using c
    rw [this]
    simp [lkp]
theorem wt_has : ∀ (ts : List D) (led : Led), Has (wt led ts) ts
  | [], _ => fun t ht => by cases ht
  | t :: ts, led => fun u hu x hx => by
    rcases List.mem_cons.mp hu with rfl | hu
    · obtain ⟨y, hy⟩ := Option.isSome_iff_exists.mp (st1_has (led := led) hx)
      show (lkp (wt (st1 led u) ts) x).isSome = true
      rw [wt_keep hy]; rfl
    · exact wt_has ts (st1 led t) u hu x hx
theorem st1_U {led : Led} {t : D} (h : LedU led) (hl : led.length < 26) : LedU (st1 led t) := by
  unfold st1
  split
  · split
    · exact h
    · intro k y hy
      rw [lkp_app] at hy
      cases q : lkp led k with
      | some z => rw [q] at hy; cases hy; exact h k y q
      | none =>
        rw [q] at hy
        simp only [lkp] at hy
        split at hy
        · cases hy; exact letter_U _ hl
        · cases hy
  · exact h
theorem wt_U : ∀ {ts : List D} {led : Led}, LedU led → led.length + ts.length ≤ 26 → LedU (wt led ts)
  | [], _, h, _ => h
  | t :: ts, led, h, hl => by
    simp only [List.length_cons] at hl
    have := st1_len led t
    exact wt_U (ts := ts) (st1_U h (by omega)) (by omega)
theorem ap_U {led : Led} {t : D} (h : LedU led) (ht : t ∈ U) : ap led t ∈ U := by
  unfold ap
  split
  · split
    · rename_i hy; exact h _ _ hy
    · exact ht
  · exact ht
/-! keys -/
theorem tk_form : ∀ d ∈ U, ∃ (a b : Int) (s : Str), tk d = .tuple [.int a, .int b, .str s] ∧ (if a = 0 then PyData.int b else .str s) = d := by
  refine U_ind ⟨?_, ?_, ?_, ?_, ?_, ?_, ?_, ?_, ?_, ?_, ?_, ?_, ?_, ?_, ?_, ?_, ?_, ?_, ?_, ?_, ?_, ?_, ?_, ?_, ?_, ?_, ?_, ?_, ?_, ?_, ?_⟩ <;> exact ⟨_, _, _, rfl, rfl⟩
theorem tk_alike {d e : D} (h : d ∈ U) (h2 : e ∈ U) : alike (tk d) (tk e) = true := by
  obtain ⟨a, b, s, e1, _⟩ := tk_form d h
  obtain ⟨a', b', s', e2, _⟩ := tk_form e h2
  rw [e1, e2]
  simp [alike, alikeAll]
theorem tk_inj {d e : D} (h : d ∈ U) (h2 : e ∈ U) (q : PyData.eqv (tk d) (tk e) = true) : d = e := by
  obtain ⟨a, b, s, e1, f1⟩ := tk_form d h
  obtain ⟨a', b', s', e2, f2⟩ := tk_form e h2
  rw [e1, e2] at q
  simp [PyData.eqv, PyData.eqvAll] at q
  obtain ⟨rfl, rfl, rfl⟩ := q
  rw [← f1, ← f2]
theorem tks_alike : ∀ {xs ys : List D}, (∀ x ∈ xs, x ∈ U) → (∀ y ∈ ys, y ∈ U) → alikeAll (xs.map tk) (ys.map tk) = true
  | [], _, _, _ => by simp [alikeAll]
  | x :: xs, [], _, _ => by simp [alikeAll]
  | x :: xs, y :: ys, h, h2 => by
    rw [List.map_cons, List.map_cons, alikeAll, tk_alike (h x (List.mem_cons_self ..)) (h2 y (List.mem_cons_self ..)), tks_alike (fun z hz => h z (List.mem_cons_of_mem _ hz)) fun z hz => h2 z (List.mem_cons_of_mem _ hz)]
    rfl
theorem tks_inj : ∀ {xs ys : List D}, (∀ x ∈ xs, x ∈ U) → (∀ y ∈ ys, y ∈ U) → PyData.eqvAll (xs.map tk) (ys.map tk) = true → xs = ys
  | [], [], _, _, _ => rfl
  | [], y :: ys, _, _, h => by simp [PyData.eqvAll] at h
  | x :: xs, [], _, _, h => by simp [PyData.eqvAll] at h
  | x :: xs, y :: ys, h, h2, q => by
    rw [List.map_cons, List.map_cons, PyData.eqvAll, Bool.and_eq_true] at q
    rw [tk_inj (h x (List.mem_cons_self ..)) (h2 y (List.mem_cons_self ..)) q.1, tks_inj (fun z hz => h z (List.mem_cons_of_mem _ hz)) (fun z hz => h2 z (List.mem_cons_of_mem _ hz)) q.2]
theorem key_alike {a b : At} (ha : a.ok) (hb : b.ok) : alike a.key b.key = true := by
  obtain ⟨x, hx⟩ := tb_str _ ha.1
  obtain ⟨y, hy⟩ := tb_str _ hb.1
  unfold At.key
  rw [hx, hy]
  simp [alike, alikeAll, tks_alike ha.2.1 hb.2.1]
theorem key_inj {a b : At} (ha : a.ok) (hb : b.ok) (q : PyData.eqv a.key b.key = true) : a = b := by
  obtain ⟨x, hx⟩ := tb_str _ ha.1
  obtain ⟨y, hy⟩ := tb_str _ hb.1
  unfold At.key at q
  rw [hx, hy] at q
  simp [PyData.eqv, PyData.eqvAll] at q
  have := tks_inj ha.2.1 hb.2.1 q.2
  cases a
  cases b
  simp only at hx hy this
  rw [hx, hy, q.1, this]
theorem key_refl {a : At} (ha : a.ok) : PyData.eqv a.key a.key = true := eqv_refl_alike _ (key_alike ha ha)
theorem key_eqv {a b : At} (ha : a.ok) (hb : b.ok) : PyData.eqv a.key b.key = true ↔ a = b := ⟨key_inj ha hb, fun e => e ▸ key_refl ha⟩
theorem can_key {a : At} (h : a.ok) : a.key.canLay0 = true ∧ a.key.depth ≤ 3 := by
  have h1 := can_Tb _ h.1
  have ht : ∀ t ∈ U, (tk t).canLay0 = true ∧ (tk t).depth ≤ 1 := by
    refine U_ind ⟨?_, ?_, ?_, ?_, ?_, ?_, ?_, ?_, ?_, ?_, ?_, ?_, ?_, ?_, ?_, ?_, ?_, ?_, ?_, ?_, ?_, ?_, ?_, ?_, ?_, ?_, ?_, ?_, ?_, ?_, ?_⟩ <;> exact ⟨by decide +kernel, by decide +kernel⟩
  refine can_tup (k := 2) fun d hd => ?_
  simp only [List.mem_cons, List.not_mem_nil, or_false] at hd
  rcases hd with rfl | rfl
  · exact ⟨h1.1, by omega⟩
  · refine can_lst (k := 1) fun d hd => ?_
    obtain ⟨t, ht', rfl⟩ := List.mem_map.mp hd
    exact ht t (h.2.1 t ht')
/-! the order of lists of atoms -/
abbrev tl (a b : List (Int ⊕ List Nat)) : Bool := PyProof.Rows.lexLt itemOrd a b
def T (l : List At) : List (Int ⊕ List Nat) := keyToksAll (l.map At.key)
theorem lt_keys (l m : List At) : dataLt (.list (l.map At.key)) (.list (m.map At.key)) = tl (T l) (T m) := rfl
theorem tl_irr (a : List (Int ⊕ List Nat)) : tl a a = false := lex_irrefl (O := itemOrd) a
theorem tl_asym {a b : List (Int ⊕ List Nat)} (h : tl a b = true) : tl b a = false := by
  rw [Bool.eq_false_iff]
  intro z
  have := lex_trans (O := itemOrd) a b a h z
  rw [lex_irrefl (O := itemOrd) a] at this
  cases this
theorem T_cons_eq {a : At} (ha : a.ok) (l m : List At) : tl (T (a :: l)) (T (a :: m)) = tl (T l) (T m) := dataLt_all_yes (key_alike ha ha) (key_refl ha)
theorem T_cons_ne {a b : At} (ha : a.ok) (hb : b.ok) (h : a ≠ b) (l m : List At) : tl (T (a :: l)) (T (b :: m)) = dataLt a.key b.key := dataLt_all_no (key_alike ha hb) (by
  rw [Bool.eq_false_iff]
  exact fun z => h (key_inj ha hb z))
theorem key_tri {a b : At} (ha : a.ok) (hb : b.ok) (h1 : dataLt a.key b.key = false) (h2 : dataLt b.key a.key = false) : a = b := by
  have e : keyToks a.key = keyToks b.key := lex_total (O := itemOrd) _ _ h1 h2
  by_cases q : PyData.eqv a.key b.key = true
  · exact key_inj ha hb q
  · exfalso
    have q' : PyData.eqv a.key b.key = false := by simpa using q
    have h := (toks_eqv a.key b.key (key_alike ha hb)).2 q' [] [.inl 0]
    rw [e, lex_pre] at h
    have h3 : PyProof.Rows.lexLt itemOrd (keyToks b.key) (keyToks b.key) = false := lex_irrefl (O := itemOrd) _
    rw [h3] at h
    exact absurd h (by decide)
theorem T_tri : ∀ {l m : List At}, (∀ a ∈ l, a.ok) → (∀ a ∈ m, a.ok) → l.length = m.length → tl (T l) (T m) = false → tl (T m) (T l) = false → l = m
  | [], [], _, _, _, _, _ => rfl
  | [], _ :: _, _, _, h, _, _ => by simp at h
  | _ :: _, [], _, _, h, _, _ => by simp at h
  | a :: l, b :: m, hl, hm, h, h1, h2 => by
    have ha := hl a (List.mem_cons_self ..)
    have hb := hm b (List.mem_cons_self ..)
    by_cases e : a = b
    · subst e
      rw [T_cons_eq ha] at h1 h2
      rw [T_tri (fun x hx => hl x (List.mem_cons_of_mem _ hx)) (fun x hx => hm x (List.mem_cons_of_mem _ hx)) (by simpa using h) h1 h2]
    · rw [T_cons_ne ha hb e] at h1
      rw [T_cons_ne hb ha (fun z => e z.symm)] at h2
      exact absurd (key_tri ha hb h1 h2) e
theorem T_app : ∀ (p l m : List At), tl (T (p ++ l)) (T (p ++ m)) = tl (T l) (T m)
  | [], _, _ => rfl
  | a :: p, l, m => by
    show tl (keyToksAll (a.key :: (p ++ l).map At.key)) (keyToksAll (a.key :: (p ++ m).map At.key)) = _
    rw [toks_all_cons, toks_all_cons]
    have e1 : ∀ x : List (Int ⊕ List Nat), (Sum.inl 1 :: (keyToks a.key ++ x) : List (Int ⊕ List Nat)) = (Sum.inl 1 :: keyToks a.key) ++ x := fun x => rfl
    rw [e1, e1, show tl (_ ++ _) (_ ++ _) = _ from lex_pre _ _ _]
    exact T_app p l m
/-! spelling -/
def sp (led : Led) (a : At) : At := ⟨a.tb, a.ts.map (ap (wt led a.ts))⟩
def spl : Led → List At → List At
  | _, [] => []
  | led, a :: as => sp led a :: spl (wt led a.ts) as
theorem sp_ok {led : Led} {a : At} (ha : a.ok) (h : LedU led) (hl : led.length + 3 ≤ 26) : (sp led a).ok := by
  have h3 := ar_le a.tb ha.1
  have h4 := ha.2.2
  refine ⟨ha.1, fun t ht => ?_, by simp [sp]; exact ha.2.2⟩
  obtain ⟨u, hu, rfl⟩ := List.mem_map.mp ht
  exact ap_U (wt_U h (by omega)) (ha.2.1 u hu)
theorem wt_at {led : Led} {a : At} (ha : a.ok) (h : LedU led) (hl : led.length + 3 ≤ 26) : LedU (wt led a.ts) ∧ (wt led a.ts).length ≤ led.length + 3 := by
  have h3 := ar_le a.tb ha.1
  have h4 := ha.2.2
  have := wt_len a.ts led
  exact ⟨wt_U h (by omega), by omega⟩
theorem spl_ok : ∀ {as : List At} {led : Led}, (∀ a ∈ as, a.ok) → LedU led → led.length + 3 * as.length ≤ 26 → ∀ b ∈ spl led as, b.ok
  | [], _, _, _, _ => fun b hb => by cases hb
  | a :: as, led, h, hu, hl => fun b hb => by
    simp only [List.length_cons] at hl
    have ha := h a (List.mem_cons_self ..)
    obtain ⟨w1, w2⟩ := wt_at ha hu (by omega)
    rcases List.mem_cons.mp hb with rfl | hb
    · exact sp_ok ha hu (by omega)
    · exact spl_ok (fun x hx => h x (List.mem_cons_of_mem _ hx)) w1 (by omega) b hb
theorem spl_len : ∀ (as : List At) (led : Led), (spl led as).length = as.length
  | [], _ => rfl
  | a :: as, led => by simp [spl, spl_len as]
/-- the least of all sequences -/
def IsMin (led : Led) (left b : List At) : Prop := (∃ p, p.Perm left ∧ b = spl led p) ∧ ∀ p, p.Perm left → tl (T (spl led p)) (T b) = false
end K63
end
section
set_option Elab.async false
set_option linter.all false
set_option maxRecDepth 100000
set_option maxHeartbeats 4000000
namespace K63
open PySem PySem.Spec PyProof.Rows L2 DV PySem.W
/-! comprehensions over encoded items -/
theorem lcL_mapG {α : Type} {own : List Nat} {t : D → M Unit} {c : M Bool} {el : M Rs} (g f : α → D) {e : En} : ∀ l : List α, (∀ x ∈ l, lcW own t c el (g x) e = some (some (f x), e)) → lcL own t c el (l.map g) e = some (l.map f, e)
  | [], _ => rfl
  | x :: l, h => by
    rw [List.map_cons, lcL_cons, h x (List.mem_cons_self ..)]
    simp only [Option.bind_some]
    rw [lcL_mapG g f l fun y hy => h y (List.mem_cons_of_mem _ hy)]
    rfl
theorem lcR_mapG {α : Type} {own : List Nat} {t : D → M Unit} {c : M Bool} {el : M Rs} (g f : α → D) {l : List α} {lk : Option Nat} {ρ : List (Option Sl)} {μ : List (Int × Int)} (hl : lockable lk ⟨ρ, μ⟩ = true) (hp : plainO own (lock1 lk ⟨ρ, μ⟩) = true)
    (hb : ∀ x ∈ l, lcW own t c el (g x) (wipeE own (lock1 lk ⟨ρ, μ⟩)) = some (some (f x), wipeE own (lock1 lk ⟨ρ, μ⟩))) : lcR own t c el (l.map g, lk) ⟨ρ, μ⟩ = some (.fr (.list (l.map f)), ⟨ρ, μ⟩) := by
  unfold lcR
  rw [if_pos ⟨hl, hp⟩, lcL_mapG g f l hb]
  simp only [Option.map_some]
  rw [backR_wipe]
  have e : (lock1 lk ⟨ρ, μ⟩).μ = μ := lock_mu
  have e2 := unlock_lock (μ' := (lock1 lk ⟨ρ, μ⟩).μ) hl
  rw [e] at e2
  refine congrArg some (Prod.ext rfl ?_)
  show unlock1 lk ⟨(lock1 lk ⟨ρ, μ⟩).ρ, (lock1 lk ⟨ρ, μ⟩).μ⟩ = _
  rw [e]
  exact e2
/-! the least key -/
theorem lt_trans' {a b c : D} (h1 : dataLt a b = true) (h2 : dataLt b c = true) : dataLt a c = true := lex_trans (O := itemOrd) _ _ _ h1 h2
theorem minD_min : ∀ (l : List D) (x : D), (minD x l = x ∨ minD x l ∈ l) ∧ dataLt x (minD x l) = false ∧ ∀ y ∈ l, dataLt y (minD x l) = false
  | [], x => ⟨.inl rfl, lex_irrefl (O := itemOrd) _, fun y hy => by cases hy⟩
  | z :: l, x => by
    have ih := minD_min l (if dataLt z x = true then z else x)
    have e : minD x (z :: l) = minD (if dataLt z x = true then z else x) l := rfl
    rw [e]
    by_cases c : dataLt z x = true
    · rw [if_pos c] at ih ⊢
      obtain ⟨i1, i2, i3⟩ := ih
      refine ⟨.inr ?_, ?_, fun y hy => ?_⟩
      · rcases i1 with i1 | i1
        · rw [i1]; exact List.mem_cons_self ..
        · exact List.mem_cons_of_mem _ i1
      · rw [Bool.eq_false_iff]
        intro h
        have := lt_trans' c h
        rw [i2] at this; cases this
      · rcases List.mem_cons.mp hy with rfl | hy
        · exact i2
        · exact i3 y hy
    · rw [if_neg c] at ih ⊢
      obtain ⟨i1, i2, i3⟩ := ih
      refine ⟨i1.imp id (List.mem_cons_of_mem _), i2, fun y hy => ?_⟩
      rcases List.mem_cons.mp hy with rfl | hy
      · rw [Bool.eq_false_iff]
        intro h
        rcases lex_negTrans (O := itemOrd) (keyToks y) (keyToks x) (keyToks (minD x l)) h with q | q
        · exact c q
        · have : dataLt x (minD x l) = true := q
          rw [i2] at this; cases this
      · exact i3 y hy
theorem min_keys {l : List At} (h : ∀ a ∈ l, a.ok) (hne : l ≠ []) : ∃ m ∈ l, minG (.list (l.map At.key)) = some (.fz m.key) ∧ ∀ a ∈ l, dataLt a.key m.key = false := by
  cases l with
  | nil => exact absurd rfl hne
  | cons x l =>
    have hc : alikeB ((x :: l).map At.key) = true := by
      refine List.all_eq_true.mpr fun k hk => ?_
      obtain ⟨a, ha, rfl⟩ := List.mem_map.mp hk
      rw [Bool.and_eq_true]
      refine ⟨rfl, List.all_eq_true.mpr fun k hk => ?_⟩
      obtain ⟨b, hb, rfl⟩ := List.mem_map.mp hk
      exact key_alike (h a ha) (h b hb)
    have hcan := can_all (k := 3) (ds := (x :: l).map At.key) fun d hd => by
      obtain ⟨a, ha, rfl⟩ := List.mem_map.mp hd
      exact can_key (h a ha)
    obtain ⟨i1, i2, i3⟩ := minD_min (l.map At.key) x.key
    have hm : minD x.key (l.map At.key) ∈ (x :: l).map At.key := by
      rw [List.map_cons]
      rcases i1 with i1 | i1
      · rw [i1]; exact List.mem_cons_self ..
      · exact List.mem_cons_of_mem _ i1
    obtain ⟨m, hm1, hm2⟩ := List.mem_map.mp hm
    refine ⟨m, hm1, ?_, fun a ha => ?_⟩
    · rw [List.map_cons] at hc hcan ⊢
      show (if alikeB (x.key :: l.map At.key) = true ∧ PyData.canLayAll0 (x.key :: l.map At.key) = true ∧ PyData.depthAll (x.key :: l.map At.key) ≤ 60 then some (Rs.fz (minD x.key (l.map At.key))) else none) = _
      rw [if_pos ⟨hc, hcan.1, by omega⟩, hm2]
    · rw [hm2]
      rcases List.mem_cons.mp ha with rfl | ha
      · exact i2
      · exact i3 _ (List.mem_map.mpr ⟨a, ha, rfl⟩)
/-! comparing -/
theorem eq_keys {a b : At} (ha : a.ok) (hb : b.ok) : eqG a.key b.key = some (.fz (.bool (PyData.eqv a.key b.key))) := by
  show (if SeqAt.shaped a.key = true ∧ SeqAt.shaped b.key = true then boolR (PyData.eqv a.key b.key) else none) = _
  rw [if_pos ⟨shp_of (k := 3) (by omega) (can_key ha), shp_of (k := 3) (by omega) (can_key hb)⟩]; rfl
theorem keys_alike : ∀ {l m : List At}, (∀ a ∈ l, a.ok) → (∀ a ∈ m, a.ok) → alikeAll (l.map At.key) (m.map At.key) = true
  | [], _, _, _ => by simp [alikeAll]
  | x :: l, [], _, _ => by simp [alikeAll]
  | x :: l, y :: m, h, h2 => by
    rw [List.map_cons, List.map_cons, alikeAll, key_alike (h x (List.mem_cons_self ..)) (h2 y (List.mem_cons_self ..)), keys_alike (fun z hz => h z (List.mem_cons_of_mem _ hz)) fun z hz => h2 z (List.mem_cons_of_mem _ hz)]
    rfl
theorem keys_shp {l : List At} (h : ∀ a ∈ l, a.ok) : SeqAt.shaped (.list (l.map At.key)) = true := shp_lst (k := 3) (by omega) fun d hd => by
  obtain ⟨a, ha, rfl⟩ := List.mem_map.mp hd
  exact can_key (h a ha)
theorem lt_lists {l m : List At} (h : ∀ a ∈ l, a.ok) (h2 : ∀ a ∈ m, a.ok) : ltG (.list (l.map At.key)) (.list (m.map At.key)) = some (.fz (.bool (tl (T l) (T m)))) := by
  have al : alike (.list (l.map At.key)) (.list (m.map At.key)) = true := by rw [alike]; exact keys_alike h h2
  show (if SeqAt.shaped (.list (l.map At.key)) = true ∧ SeqAt.shaped (.list (m.map At.key)) = true ∧ alike (.list (l.map At.key)) (.list (m.map At.key)) = true ∧ isNoneD (.list (l.map At.key)) = false then boolR (dataLt (.list (l.map At.key)) (.list (m.map At.key))) else none) = _
  rw [if_pos ⟨keys_shp h, keys_shp h2, al, rfl⟩]; rfl
/-! taking one out -/
theorem enc_inj {a b : At} (ha : a.ok) (hb : b.ok) (q : PyData.eqv a.enc b.enc = true) : a = b := by
  obtain ⟨x, hx⟩ := tb_str _ ha.1
  obtain ⟨y, hy⟩ := tb_str _ hb.1
  have hU : ∀ {d e : D}, d ∈ U → e ∈ U → PyData.eqv d e = true → d = e := by
    intro d e hd he h
    have f : ∀ d ∈ U, (∃ x, d = .str x) ∨ ∃ i, d = .int i := by
      refine U_ind ⟨?_, ?_, ?_, ?_, ?_, ?_, ?_, ?_, ?_, ?_, ?_, ?_, ?_, ?_, ?_, ?_, ?_, ?_, ?_, ?_, ?_, ?_, ?_, ?_, ?_, ?_, ?_, ?_, ?_, ?_, ?_⟩ <;> first | exact .inl ⟨_, rfl⟩ | exact .inr ⟨_, rfl⟩
    rcases f d hd with ⟨x, rfl⟩ | ⟨i, rfl⟩ <;> rcases f e he with ⟨y, rfl⟩ | ⟨j, rfl⟩ <;> simp [PyData.eqv] at h
    · rw [h]
    · rw [h]
  have hUs : ∀ {xs ys : List D}, (∀ x ∈ xs, x ∈ U) → (∀ y ∈ ys, y ∈ U) → PyData.eqvAll xs ys = true → xs = ys := fun {xs} => by
    induction xs with
    | nil => intro ys _ _ h; cases ys with
      | nil => rfl
      | cons y ys => simp [PyData.eqvAll] at h
    | cons x xs ih => intro ys h1 h2 h; cases ys with
      | nil => simp [PyData.eqvAll] at h
      | cons y ys =>
        rw [PyData.eqvAll, Bool.and_eq_true] at h
        rw [hU (h1 x (List.mem_cons_self ..)) (h2 y (List.mem_cons_self ..)) h.1, ih (fun z hz => h1 z (List.mem_cons_of_mem _ hz)) (fun z hz => h2 z (List.mem_cons_of_mem _ hz)) h.2]
  unfold At.enc at q
  rw [hx, hy] at q
  simp [PyData.eqv, PyData.eqvAll] at q
  have := hUs ha.2.1 hb.2.1 q.2
  cases a
  cases b
  simp only at hx hy this
  rw [hx, hy, q.1, this]
theorem enc_refl {a : At} (ha : a.ok) : PyData.eqv a.enc a.enc = true := by
  refine eqv_refl_alike _ ?_
  obtain ⟨x, hx⟩ := tb_str _ ha.1
  have hU : ∀ d ∈ U, alike d d = true := by
    refine U_ind ⟨?_, ?_, ?_, ?_, ?_, ?_, ?_, ?_, ?_, ?_, ?_, ?_, ?_, ?_, ?_, ?_, ?_, ?_, ?_, ?_, ?_, ?_, ?_, ?_, ?_, ?_, ?_, ?_, ?_, ?_, ?_⟩ <;> simp [alike]
  have hUs : ∀ {xs : List D}, (∀ x ∈ xs, x ∈ U) → alikeAll xs xs = true := fun {xs} => by
    induction xs with
    | nil => intro _; simp [alikeAll]
    | cons x xs ih => intro h; rw [alikeAll, hU _ (h x (List.mem_cons_self ..)), ih fun z hz => h z (List.mem_cons_of_mem _ hz)]; rfl
  unfold At.enc
  rw [hx]
  simp [alike, alikeAll, hUs ha.2.1]
theorem perm_erase {α : Type} : ∀ (l : List α) (j : Nat) (a : α), l[j]? = some a → l.Perm (a :: l.eraseIdx j)
  | [], j, a, h => by simp at h
  | x :: l, 0, a, h => by simp at h; subst h; exact List.Perm.refl _
  | x :: l, j + 1, a, h => by
    have := perm_erase l j a (by simpa using h)
    exact (this.cons x).trans (List.Perm.swap a x _)
theorem map_erase {α β : Type} (f : α → β) : ∀ (l : List α) (j : Nat), (l.map f).eraseIdx j = (l.eraseIdx j).map f
  | [], _ => by simp
  | x :: l, 0 => by simp
  | x :: l, j + 1 => by simp [map_erase f l j]
theorem take_one {left : List At} {a : At} (h : ∀ x ∈ left, x.ok) (ha : a ∈ left) : ∃ rest, remG (.list (encS left)) [a.enc] = some (.none, .list (encS rest)) ∧ left.Perm (a :: rest) := by
  have h1 : SeqAt.shaped (.list (encS left)) = true := shp_lst (k := 2) (by omega) fun d hd => by
    obtain ⟨x, hx, rfl⟩ := List.mem_map.mp hd
    exact can_at (h x hx)
  have h2 : SeqAt.shaped a.enc = true := shp_of (k := 2) (by omega) (can_at (h a ha))
  have e : remG (.list (encS left)) [a.enc] = ((encS left).findIdx? fun z => PyData.eqv z a.enc).map fun j => (.none, .list ((encS left).eraseIdx j)) := by
    show (if SeqAt.shaped (.list (encS left)) = true ∧ SeqAt.shaped a.enc = true then _ else none) = _
    rw [if_pos ⟨h1, h2⟩]
  cases q : (encS left).findIdx? fun z => PyData.eqv z a.enc with
  | none =>
    have := List.findIdx?_eq_none_iff.mp q a.enc (List.mem_map.mpr ⟨a, ha, rfl⟩)
    rw [enc_refl (h a ha)] at this; cases this
  | some j =>
    obtain ⟨j1, j2, _⟩ := List.findIdx?_eq_some_iff_getElem.mp q
    have jl : j < left.length := by simpa [encS] using j1
    have ej : (encS left)[j] = left[j].enc := by simp [encS]
    rw [ej] at j2
    have ea : left[j] = a := enc_inj (h _ (List.getElem_mem jl)) (h a ha) j2
    refine ⟨left.eraseIdx j, ?_, perm_erase left j a (by rw [List.getElem?_eq_getElem jl, ea])⟩
    rw [e, q]
    simp [encS, map_erase]
end K63
end
section
set_option Elab.async false
set_option linter.all false
set_option maxRecDepth 100000
set_option maxHeartbeats 4000000
namespace K63
open PySem PySem.Spec PyProof.Rows L2 DV PySem.W
def encN (led : Led) (a : At) : D := .tuple [(sp led a).enc, a.enc, encL (wt led a.ts)]
def Sb (s : Sl) (d : D) : Prop := s = .fz d ∨ s = .bo d
theorem encS_app (a b : List At) : encS (a ++ b) = encS a ++ encS b := by simp [encS]
/-- what the loops need of them -/
structure Lf (told left : List At) (led : Led) : Prop where
  t : ∀ a ∈ told, a.ok
  l : ∀ a ∈ left, a.ok
  u : LedU led
  n : led.length + 3 * left.length ≤ 26
  m : told.length + left.length ≤ 900
theorem app_one (xs : List D) (y : D) (h : xs.length < 100000) : appG (.list xs) [y] = some (.none, .list (xs ++ [y])) := by
  show (if xs.length < 100000 then _ else none) = _
  rw [if_pos h]
theorem add_one (xs : List D) (y : D) (h : xs.length ≤ 1000) : addG (.list xs) (.list [y]) = some (.fr (.list (xs ++ [y]))) := by
  show (if _ then _ else none) = _
  rw [if_pos (by simp; omega)]
theorem least_loop1 (F : Fn) (μ : List (Int × Int)) {s1 s2 : Sl} {o0 : Option Sl} {led : Led} (hs2 : Sb s2 (encL led)) (hu : LedU led) :
    ∀ (todo done : List At) (o4 o5 : Option Sl), (∀ a ∈ todo, a.ok) → (todo = [] ∨ led.length + 3 ≤ 26) → done.length + todo.length ≤ 900 → Pl o4 → Pl o5 →
    ∃ o4' o5', forL (tgN 4) (L_least_from_1 F) (encS todo) ⟨[o0, some s1, some s2, some (.ow (.list (done.map (encN led)))), o4, o5, none, none, none, none, none, none], μ⟩ =
      some (.nx, ⟨[o0, some s1, some s2, some (.ow (.list ((done ++ todo).map (encN led)))), o4', o5', none, none, none, none, none, none], μ⟩) ∧ Pl o4' ∧ Pl o5'
  | [], done, o4, o5, _, _, _, h4, h5 => ⟨o4, o5, by rw [List.append_nil]; rfl, h4, h5⟩
  | a :: todo, done, o4, o5, h, hl, hm, h4, h5 => by
    have ha := h a (List.mem_cons_self ..)
    have hl : led.length + 3 ≤ 26 := hl.resolve_left (by simp)
    simp only [List.length_cons] at hm
    have h3 := ar_le a.tb ha.1
    have ht := ha.2.2
    obtain ⟨o4', o5', ih, i4, i5⟩ := least_loop1 F μ (s1 := s1) (s2 := s2) (o0 := o0) hs2 hu todo (done ++ [a]) (some (.fz a.enc)) (some (.fz (encL (wt led a.ts)))) (fun x hx => h x (List.mem_cons_of_mem _ hx)) (.inr hl) (by simp; omega) (.inr ⟨_, rfl⟩) (.inr ⟨_, rfl⟩)
    refine ⟨o4', o5', ?_, i4, i5⟩
    show forL _ _ (a.enc :: encS todo) _ = _
    rw [forL_next (e2 := ⟨[o0, some s1, some s2, some (.ow (.list ((done ++ [a]).map (encN led)))), some (.fz a.enc), some (.fz (encL (wt led a.ts))), none, none, none, none, none, none], μ⟩)]
    · rw [ih, List.append_assoc]; rfl
    · have w := with_terms_ok μ (s := s2) hs2 ha.2.1 (by omega)
      have w0 : ∀ ρ, cal F_with_terms [s2, .fz (.tuple a.ts)] ⟨ρ, μ⟩ = some (.fr (encL (wt led a.ts)), ⟨ρ, μ⟩) := fun ρ => cal_fr w
      have g := led_terms_ok μ (led := wt led a.ts) (s := .bo (encL (wt led a.ts))) (.inr rfl) ha.2.1 (wt_has a.ts led)
      have g0 : ∀ ρ, cal F_led_terms [.fz (.tuple a.ts), .bo (encL (wt led a.ts))] ⟨ρ, μ⟩ = some (.fz (.tuple (a.ts.map (ap (wt led a.ts)))), ⟨ρ, μ⟩) := fun ρ => cal_fz g
      have hz : (done.map (encN led)).length < 100000 := by simp; omega
      have hz2 : done.length < 100000 := by omega
      have key : L_least_from_1 F ⟨[o0, some s1, some s2, some (.ow (.list (done.map (encN led)))), some (.fz a.enc), o5, none, none, none, none, none, none], μ⟩ =
          some (.nx, ⟨[o0, some s1, some s2, some (.ow (.list ((done ++ [a]).map (encN led)))), some (.fz a.enc), some (.fz (encL (wt led a.ts))), none, none, none, none, none, none], μ⟩) := by
        rcases hs2 with rfl | rfl <;> rcases h5 with rfl | ⟨d, rfl⟩ <;> simp [L_least_from_1, At.enc, ix_zero, ix_one, w0, g0, app_one _ _ hz, encN, sp]
      rcases h4 with rfl | ⟨d, rfl⟩ <;> simp [key]
end K63
end
section
set_option Elab.async false
set_option linter.all false
set_option maxRecDepth 100000
set_option maxHeartbeats 4000000
namespace K63
open PySem PySem.Spec PyProof.Rows L2 DV PySem.W
theorem tg3_ap {s0 s1 s2 s3 o4 o5 s6 s7 o8 o9 o10 o11 : Option Sl} {x y z : D} {μ : List (Int × Int)} {α : Type} {b : Unit → M α} (h4 : Pl o4) (h5 : Pl o5) (h8 : Pl o8) :
    bnd (tgT 3 (tgCons (tgN 8) (tgCons (tgN 4) (tgCons (tgN 5) tgNil))) (.tuple [x, y, z])) b ⟨[s0, s1, s2, s3, o4, o5, s6, s7, o8, o9, o10, o11], μ⟩ = b () ⟨[s0, s1, s2, s3, some (.fz y), some (.fz z), s6, s7, some (.fz x), o9, o10, o11], μ⟩ := by
  rcases h4 with rfl | ⟨d, rfl⟩ <;> rcases h5 with rfl | ⟨d5, rfl⟩ <;> rcases h8 with rfl | ⟨d8, rfl⟩ <;> simp
def Pw (o : Option Sl) : Prop := o = none ∨ (∃ d, o = some (.fz d)) ∨ ∃ d, o = some (.ow d)
/-- the recursion's answer -/
def Rec (F : Fn) (μ : List (Int × Int)) (k : Nat) : Prop := ∀ (told left : List At) (led : Led) (s1 s2 : Sl), Sb s1 (.list (encS left)) → Sb s2 (encL led) → Lf told left led → left.length < k →
    ∃ b, F [.fz (.list (encS told)), s1, s2] μ = some (.fz (.list (encS (told ++ b))), μ) ∧ IsMin led left b ∧ ∀ x ∈ b, x.ok
structure Bst (led : Led) (told left : List At) (m : At) (done : List At) (b : List At) : Prop where
  ok : ∀ x ∈ b, x.ok
  hd : ∃ t, b = m :: t
  ex : ∃ p, p.Perm left ∧ b = spl led p
  mn : ∀ a ∈ done, sp led a = m → ∀ p, (a :: p).Perm left → tl (T (spl led (a :: p))) (T b) = false
def Fnd (led : Led) (told left : List At) (m : At) (done : List At) (f : D) : Prop :=
  (f = .none ∧ ∀ a ∈ done, sp led a ≠ m) ∨ ∃ b, f = .list (encS (told ++ b)) ∧ Bst led told left m done b
theorem keysR (F : Fn) (μ : List (Int × Int)) {l : List At} (h : ∀ x ∈ l, x.ok) {ρ : List (Option Sl)} (hp : plainO [11] ⟨ρ, μ⟩ = true) (h11 : ρ[11]? = some none) : lcR [11] (tgN 11) (DV.ret true) (C_least_from_2 F) (encS l, none) ⟨ρ, μ⟩ = some (.fr (.list (l.map At.key)), ⟨ρ, μ⟩) := by
  have hw : wipeR ρ [11] = ρ := by
    refine List.ext_getElem? fun j => ?_
    by_cases e : j = 11
    · subst e
      show (ρ.set 11 none)[11]? = _
      rw [List.getElem?_set_self (List.getElem?_eq_some_iff.mp h11).1, h11]
    · show (ρ.set 11 none)[j]? = _
      rw [List.getElem?_set_ne (Ne.symm e)]
  refine lcR_mapG At.enc At.key rfl hp fun x hx => ?_
  have k : ∀ ρ, cal F_atom_key [.fz x.enc] ⟨ρ, μ⟩ = some (.fz x.key, ⟨ρ, μ⟩) := fun ρ => cal_fz (atom_key_ok μ (h x hx).2.1)
  have hl := (List.getElem?_eq_some_iff.mp h11).1
  show lcW [11] _ _ _ _ (⟨wipeR ρ [11], μ⟩ : En) = some (some x.key, ⟨wipeR ρ [11], μ⟩)
  rw [hw]
  simp only [lcW_ap, bnd_ap, tgN_ap, asg_ap, h11, asg1_fz, st_mk, ret_ap, if_true, C_least_from_2, callM_ap, consM_ap, slM_ap, List.getElem?_set_self hl, calR_ap, argAll_cons, argAll_nil, argS_fz, Option.bind_some, k, als_fz, Option.map_some]
  refine congrArg some (Prod.ext rfl ?_)
  show (⟨wipeR (ρ.set 11 (some (.fz x.enc))) [11], μ⟩ : En) = _
  congr 1
  show (ρ.set 11 (some (.fz x.enc))).set 11 none = ρ
  rw [List.set_set]
  exact hw
theorem lt_told {told b c : List At} (ht : ∀ a ∈ told, a.ok) (h : ∀ a ∈ b, a.ok) (h2 : ∀ a ∈ c, a.ok) : ltG (.list ((told ++ b).map At.key)) (.list ((told ++ c).map At.key)) = some (.fz (.bool (tl (T b) (T c)))) := by
  rw [lt_lists (fun a ha => ?_) (fun a ha => ?_), T_app]
  · rcases List.mem_append.mp ha with q | q
    · exact ht a q
    · exact h a q
  · rcases List.mem_append.mp ha with q | q
    · exact ht a q
    · exact h2 a q
theorem least_step {F : Fn} {μ : List (Int × Int)} {k : Nat} (R : Rec F μ k) {told left : List At} {led : Led} {s1 s2 : Sl} {m : At} (hs1 : Sb s1 (.list (encS left))) (L : Lf told left led) (hk : left.length ≤ k) (hm : m.ok)
    {nx : D} {a : At} {done : List At} {o9 o10 : Option Sl} {f : D} (ha : a ∈ left) (h9 : Pw o9) (h10 : Pl o10) (I : Fnd led told left m done f) :
    ∃ o9' o10' f', L_least_from_2 F ⟨[some (.fz (.list (encS told))), some s1, some s2, some (.bo nx), some (.fz a.enc), some (.fz (encL (wt led a.ts))), some (.fz m.key), some (.fz f), some (.fz (sp led a).enc), o9, o10, none], μ⟩ =
      some (.nx, ⟨[some (.fz (.list (encS told))), some s1, some s2, some (.bo nx), some (.fz a.enc), some (.fz (encL (wt led a.ts))), some (.fz m.key), some (.fz f'), some (.fz (sp led a).enc), o9', o10', none], μ⟩) ∧ Pw o9' ∧ Pl o10' ∧ Fnd led told left m (done ++ [a]) f' := by
  have hpos : 1 ≤ left.length := List.length_pos_of_mem ha
  have hn := L.n
  have hmm := L.m
  have aok := L.l a ha
  have sok := sp_ok aok L.u (by omega)
  obtain ⟨w1, w2⟩ := wt_at aok L.u (by omega)
  have k1 : ∀ ρ, cal F_atom_key [.fz (sp led a).enc] ⟨ρ, μ⟩ = some (.fz (sp led a).key, ⟨ρ, μ⟩) := fun ρ => cal_fz (atom_key_ok μ sok.2.1)
  have q := eq_keys sok hm
  by_cases c : sp led a = m
  · have c1 : PyData.eqv (sp led a).key m.key = true := (key_eqv sok hm).mpr c
    obtain ⟨rest, r1, r2⟩ := take_one L.l ha
    have rl : left.length = rest.length + 1 := by simpa using r2.length_eq
    have Lr : Lf (told ++ [sp led a]) rest (wt led a.ts) := by
      refine ⟨fun x hx => ?_, fun x hx => L.l x (r2.mem_iff.mpr (List.mem_cons_of_mem _ hx)), w1, by omega, by simp; omega⟩
      rcases List.mem_append.mp hx with q | q
      · exact L.t x q
      · rw [List.mem_singleton.mp q]; exact sok
    obtain ⟨b, f1, f2, f3⟩ := R (told ++ [sp led a]) rest (wt led a.ts) (.bo (.list (encS rest))) (.fz (encL (wt led a.ts))) (.inr rfl) (.inl rfl) Lr (by omega)
    have e1 : encS (told ++ [sp led a]) = encS told ++ [(sp led a).enc] := by simp [encS]
    rw [e1, List.append_assoc] at f1
    have f0 : ∀ ρ, cal F [.fz (.list (encS told ++ [(sp led a).enc])), .bo (.list (encS rest)), .fz (encL (wt led a.ts))] ⟨ρ, μ⟩ = some (.fz (.list (encS (told ++ ([sp led a] ++ b)))), ⟨ρ, μ⟩) := fun ρ => cal_fz f1
    have e2 : [sp led a] ++ b = m :: b := by rw [c]; rfl
    rw [e2] at f0
    have hb : ∀ x ∈ m :: b, x.ok := fun x hx => by
      rcases List.mem_cons.mp hx with rfl | hx
      · exact hm
      · exact f3 x hx
    have hz : (encS told).length ≤ 1000 := by simp [encS]; omega
    have z9 := add_one (encS told) (sp led a).enc hz
    have new : ∀ p, (a :: p).Perm left → tl (T (spl led (a :: p))) (T (m :: b)) = false := fun p hp => by
      have hp2 : p.Perm rest := (hp.trans r2).cons_inv
      show tl (T (sp led a :: spl (wt led a.ts) p)) _ = false
      rw [c, T_cons_eq hm]
      exact f2.2 p hp2
    have ex : ∃ p, p.Perm left ∧ m :: b = spl led p := by
      obtain ⟨p, p1, p2⟩ := f2.1
      refine ⟨a :: p, (p1.cons a).trans r2.symm, ?_⟩
      show _ = sp led a :: spl (wt led a.ts) p
      rw [c, p2]
    refine ⟨some (.ow (.list (encS rest))), some (.fz (.list (encS (told ++ m :: b)))), ?_⟩
    rcases I with ⟨rfl, I⟩ | ⟨b0, rfl, I⟩
    · refine ⟨.list (encS (told ++ m :: b)), ?_, .inr (.inr ⟨_, rfl⟩), .inr ⟨_, rfl⟩, .inr ⟨m :: b, rfl, hb, ⟨_, rfl⟩, ex, fun a' ha' s' p hp => ?_⟩⟩
      · rcases hs1 with rfl | rfl <;> rcases h9 with rfl | ⟨d, rfl⟩ | ⟨d, rfl⟩ <;> rcases h10 with rfl | ⟨d', rfl⟩ <;> simp [L_least_from_2, k1, q, c1, listG, r1, z9, f0, isG, isNoneD]
      · rcases List.mem_append.mp ha' with q | q
        · exact absurd s' (I a' q)
        · rw [List.mem_singleton.mp q] at hp ⊢; exact new p hp
    · have kk : ltG (.list ((told ++ m :: b).map At.key)) (.list ((told ++ b0).map At.key)) = some (.fz (.bool (tl (T (m :: b)) (T b0)))) := lt_told L.t hb I.ok
      have tb : ∀ x ∈ told ++ m :: b, x.ok := fun x hx => (List.mem_append.mp hx).elim (L.t x) (hb x)
      have tb0 : ∀ x ∈ told ++ b0, x.ok := fun x hx => (List.mem_append.mp hx).elim (L.t x) (I.ok x)
      have lr : ∀ o1, lcR [11] (tgN 11) (DV.ret true) (C_least_from_2 F) (encS (told ++ m :: b), none) ⟨[some (.fz (.list (encS told))), o1, some s2, some (.bo nx), some (.fz a.enc), some (.fz (encL (wt led a.ts))), some (.fz m.key), some (.fz (.list (encS (told ++ b0)))), some (.fz (sp led a).enc), some (.ow (.list (encS rest))), some (.fz (.list (encS (told ++ m :: b)))), none], μ⟩ = some (.fr (.list ((told ++ m :: b).map At.key)), _) := fun o1 => keysR F μ tb rfl rfl
      have lr2 : ∀ o1, lcR [11] (tgN 11) (DV.ret true) (C_least_from_3 F) (encS (told ++ b0), none) ⟨[some (.fz (.list (encS told))), o1, some s2, some (.bo nx), some (.fz a.enc), some (.fz (encL (wt led a.ts))), some (.fz m.key), some (.fz (.list (encS (told ++ b0)))), some (.fz (sp led a).enc), some (.ow (.list (encS rest))), some (.fz (.list (encS (told ++ m :: b)))), none], μ⟩ = some (.fr (.list ((told ++ b0).map At.key)), _) := fun o1 => keysR F μ tb0 rfl rfl
      by_cases cc : tl (T (m :: b)) (T b0) = true
      · refine ⟨.list (encS (told ++ m :: b)), ?_, .inr (.inr ⟨_, rfl⟩), .inr ⟨_, rfl⟩, .inr ⟨m :: b, rfl, hb, ⟨_, rfl⟩, ex, fun a' ha' s' p hp => ?_⟩⟩
        · rw [cc] at kk
          rcases hs1 with rfl | rfl <;> rcases h9 with rfl | ⟨d, rfl⟩ | ⟨d, rfl⟩ <;> rcases h10 with rfl | ⟨d', rfl⟩ <;> simp [L_least_from_2, k1, q, c1, listG, r1, z9, f0, isG, isNoneD, lr, lr2, kk, -List.map_append]
        · rcases List.mem_append.mp ha' with q | q
          · rw [Bool.eq_false_iff]
            intro z
            have := I.mn a' q s' p hp
            have z2 : tl (T (spl led (a' :: p))) (T b0) = true := lex_trans (O := itemOrd) _ _ _ z cc
            rw [this] at z2; cases z2
          · rw [List.mem_singleton.mp q] at hp ⊢; exact new p hp
      · have cc2 : tl (T (m :: b)) (T b0) = false := by simpa using cc
        refine ⟨.list (encS (told ++ b0)), ?_, .inr (.inr ⟨_, rfl⟩), .inr ⟨_, rfl⟩, .inr ⟨b0, rfl, I.ok, I.hd, I.ex, fun a' ha' s' p hp => ?_⟩⟩
        · rw [cc2] at kk
          rcases hs1 with rfl | rfl <;> rcases h9 with rfl | ⟨d, rfl⟩ | ⟨d, rfl⟩ <;> rcases h10 with rfl | ⟨d', rfl⟩ <;> simp [L_least_from_2, k1, q, c1, listG, r1, z9, f0, isG, isNoneD, lr, lr2, kk, -List.map_append]
        · rcases List.mem_append.mp ha' with q | q
          · exact I.mn a' q s' p hp
          · rw [List.mem_singleton.mp q] at hp ⊢
            rw [Bool.eq_false_iff]
            intro z
            rcases lex_negTrans (O := itemOrd) _ (T (m :: b)) _ z with u | u
            · have := new p hp
              rw [show tl _ _ = true from u] at this; cases this
            · exact cc u
  · have c1 : PyData.eqv (sp led a).key m.key = false := by
      rw [Bool.eq_false_iff]
      exact fun z => c ((key_eqv sok hm).mp z)
    refine ⟨o9, o10, f, ?_, h9, h10, ?_⟩
    · simp [L_least_from_2, k1, q, c1]
    · rcases I with ⟨rfl, I⟩ | ⟨b0, rfl, I⟩
      · refine .inl ⟨rfl, fun x hx => ?_⟩
        rcases List.mem_append.mp hx with q | q
        · exact I x q
        · rw [List.mem_singleton.mp q]; exact c
      · refine .inr ⟨b0, rfl, I.ok, I.hd, I.ex, fun a' ha' s' p hp => ?_⟩
        rcases List.mem_append.mp ha' with q | q
        · exact I.mn a' q s' p hp
        · rw [List.mem_singleton.mp q] at s'; exact absurd s' c
end K63
end
section
set_option Elab.async false
set_option linter.all false
set_option maxRecDepth 100000
set_option maxHeartbeats 4000000
namespace K63
open PySem PySem.Spec PyProof.Rows L2 DV PySem.W
theorem least_loop2 {F : Fn} {μ : List (Int × Int)} {k : Nat} (R : Rec F μ k) {told left : List At} {led : Led} {s1 s2 : Sl} {m : At} (hs1 : Sb s1 (.list (encS left))) (L : Lf told left led) (hk : left.length ≤ k) (hm : m.ok) {nx : D} :
    ∀ (todo done : List At) (o4 o5 o8 o9 o10 : Option Sl) (f : D), (∀ a ∈ todo, a ∈ left) → Pl o4 → Pl o5 → Pl o8 → Pw o9 → Pl o10 → Fnd led told left m done f →
    ∃ o4' o5' o8' o9' o10' f', forL (tgT 3 (tgCons (tgN 8) (tgCons (tgN 4) (tgCons (tgN 5) tgNil)))) (L_least_from_2 F) (todo.map (encN led)) ⟨[some (.fz (.list (encS told))), some s1, some s2, some (.bo nx), o4, o5, some (.fz m.key), some (.fz f), o8, o9, o10, none], μ⟩ =
      some (.nx, ⟨[some (.fz (.list (encS told))), some s1, some s2, some (.bo nx), o4', o5', some (.fz m.key), some (.fz f'), o8', o9', o10', none], μ⟩) ∧ Fnd led told left m (done ++ todo) f'
  | [], done, o4, o5, o8, o9, o10, f, _, _, _, _, _, _, I => ⟨o4, o5, o8, o9, o10, f, rfl, by rw [List.append_nil]; exact I⟩
  | a :: todo, done, o4, o5, o8, o9, o10, f, h, h4, h5, h8, h9, h10, I => by
    obtain ⟨o9', o10', f', st, h9', h10', I'⟩ := least_step R (s2 := s2) (nx := nx) hs1 L hk hm (h a (List.mem_cons_self ..)) h9 h10 I
    obtain ⟨p4, p5, p8, p9, p10, f2, ih, I2⟩ := least_loop2 R (s2 := s2) (nx := nx) hs1 L hk hm todo (done ++ [a]) (some (.fz a.enc)) (some (.fz (encL (wt led a.ts)))) (some (.fz (sp led a).enc)) o9' o10' f' (fun x hx => h x (List.mem_cons_of_mem _ hx)) (.inr ⟨_, rfl⟩) (.inr ⟨_, rfl⟩) (.inr ⟨_, rfl⟩) h9' h10' I'
    refine ⟨p4, p5, p8, p9, p10, f2, ?_, by rw [List.append_assoc] at I2; exact I2⟩
    rw [List.map_cons, forL_next (e2 := ⟨[some (.fz (.list (encS told))), some s1, some s2, some (.bo nx), some (.fz a.enc), some (.fz (encL (wt led a.ts))), some (.fz m.key), some (.fz f'), some (.fz (sp led a).enc), o9', o10', none], μ⟩)]
    · exact ih
    · unfold encN
      rw [tg3_ap h4 h5 h8]
      exact st
theorem fnd_min {told left : List At} {led : Led} {m m0 : At} {f : D} (L : Lf told left led) (hm0 : m0 ∈ left) (e : sp led m0 = m) (hmin : ∀ a ∈ left, dataLt (sp led a).key m.key = false) (I : Fnd led told left m left f) :
    ∃ b, f = .list (encS (told ++ b)) ∧ IsMin led left b ∧ ∀ x ∈ b, x.ok := by
  have hn := L.n
  rcases I with ⟨_, I⟩ | ⟨b, rfl, I⟩
  · exact absurd e (I m0 hm0)
  · refine ⟨b, rfl, ⟨I.ex, fun p hp => ?_⟩, I.ok⟩
    cases p with
    | nil => rw [hp.nil_eq.symm] at hm0; cases hm0
    | cons a p =>
      have ha : a ∈ left := hp.mem_iff.mp (List.mem_cons_self ..)
      have hpos : 1 ≤ left.length := List.length_pos_of_mem ha
      by_cases c : sp led a = m
      · exact I.mn a ha c p hp
      · obtain ⟨t, ht⟩ := I.hd
        have mok : m.ok := I.ok m (by rw [ht]; exact List.mem_cons_self ..)
        rw [ht]
        show tl (T (sp led a :: spl (wt led a.ts) p)) _ = false
        rw [T_cons_ne (sp_ok (L.l a ha) L.u (by omega)) mok c]
        exact hmin a ha
theorem eq_nilE (l : List At) (h : ∀ a ∈ l, a.ok) : eqG (.list (encS l)) (.list []) = some (.fz (.bool (decide (l = [])))) := by
  have h1 : SeqAt.shaped (.list (encS l)) = true := shp_lst (k := 2) (by omega) fun d hd => by
    obtain ⟨x, hx, rfl⟩ := List.mem_map.mp hd
    exact can_at (h x hx)
  show (if SeqAt.shaped (.list (encS l)) = true ∧ SeqAt.shaped (.list []) = true then boolR (PyData.eqv (.list (encS l)) (.list [])) else none) = _
  rw [if_pos ⟨h1, by decide +kernel⟩]
  cases l <;> simp [encS, PyData.eqv, PyData.eqvAll]
theorem least_rec (μ : List (Int × Int)) : ∀ k, Rec (F_least_from_ k) μ k
  | 0 => fun told left led s1 s2 _ _ _ h => absurd h (by omega)
  | k + 1 => fun told left led s1 s2 hs1 hs2 L hk => by
    have R := least_rec μ k
    have hn := L.n
    have hmm := L.m
    have enil := eq_nilE left L.l
    by_cases c : left = []
    · subst c
      refine ⟨[], ?_, ⟨⟨[], List.Perm.refl _, rfl⟩, fun p hp => ?_⟩, fun x hx => by cases hx⟩
      · rw [List.append_nil]
        rcases hs1 with rfl | rfl <;> rcases hs2 with rfl | rfl <;> simp [F_least_from_, B_least_from, enil]
      · rw [hp.eq_nil]; exact tl_irr _
    · have hpos : 1 ≤ left.length := List.length_pos_iff.mpr c
      obtain ⟨o4, o5, l1, h4, h5⟩ := least_loop1 (F_least_from_ k) μ (s1 := s1) (o0 := some (.fz (.list (encS told)))) hs2 L.u left [] none none L.l (.inr (by omega)) (by simp; omega) (.inl rfl) (.inl rfl)
      rw [List.nil_append, List.map_nil] at l1
      have spok : ∀ a ∈ left.map (sp led), a.ok := fun a ha => by
        obtain ⟨x, hx, rfl⟩ := List.mem_map.mp ha
        exact sp_ok (L.l x hx) L.u (by omega)
      obtain ⟨m, hm1, hm2, hm3⟩ := min_keys spok (by simpa using c)
      obtain ⟨m0, hm0, em0⟩ := List.mem_map.mp hm1
      have mok := spok m hm1
      have hmin : ∀ a ∈ left, dataLt (sp led a).key m.key = false := fun a ha => hm3 _ (List.mem_map.mpr ⟨a, ha, rfl⟩)
      have lc : lcR [8, 4, 5] (tgT 3 (tgCons (tgN 8) (tgCons (tgN 4) (tgCons (tgN 5) tgNil)))) (DV.ret true) (C_least_from_1 (F_least_from_ k)) (left.map (encN led), some 3) ⟨[some (.fz (.list (encS told))), some s1, some s2, some (.ow (.list (left.map (encN led)))), o4, o5, none, none, none, none, none, none], μ⟩ = some (.fr (.list (left.map fun a => (sp led a).key)), ⟨[some (.fz (.list (encS told))), some s1, some s2, some (.ow (.list (left.map (encN led)))), o4, o5, none, none, none, none, none, none], μ⟩) := by
        refine lcR_mapG (encN led) (fun a => (sp led a).key) rfl (by rcases h4 with rfl | ⟨d, rfl⟩ <;> rcases h5 with rfl | ⟨d', rfl⟩ <;> rfl) fun a ha => ?_
        have k1 : ∀ ρ, cal F_atom_key [.fz (sp led a).enc] ⟨ρ, μ⟩ = some (.fz (sp led a).key, ⟨ρ, μ⟩) := fun ρ => cal_fz (atom_key_ok μ (spok _ (List.mem_map.mpr ⟨a, ha, rfl⟩)).2.1)
        rw [lcW_ap]
        show (bnd (tgT 3 (tgCons (tgN 8) (tgCons (tgN 4) (tgCons (tgN 5) tgNil))) (encN led a)) _ (⟨[some (.fz (.list (encS told))), some s1, some s2, some (.bo (.list (left.map (encN led)))), none, none, none, none, none, none, none, none], μ⟩ : En)).map _ = some (_, (⟨[some (.fz (.list (encS told))), some s1, some s2, some (.bo (.list (left.map (encN led)))), none, none, none, none, none, none, none, none], μ⟩ : En))
        unfold encN
        rw [tg3_ap (.inl rfl) (.inl rfl) (.inl rfl)]
        simp [C_least_from_1, k1, wipeR]
      have em : (left.map fun a => (sp led a).key) = (left.map (sp led)).map At.key := by simp
      rw [em] at lc
      obtain ⟨o4', o5', o8', o9', o10', f, l2, I⟩ := least_loop2 R (s2 := s2) (nx := .list (left.map (encN led))) hs1 L (by omega) mok left [] o4 o5 none none none .none (fun a ha => ha) h4 h5 (.inl rfl) (.inl rfl) (.inl rfl) (.inl ⟨rfl, fun a ha => by cases ha⟩)
      rw [List.nil_append] at I
      obtain ⟨b, rfl, I1, I2⟩ := fnd_min L hm0 em0 hmin I
      refine ⟨b, ?_, I1, I2⟩
      rcases hs1 with rfl | rfl <;> rcases hs2 with rfl | rfl <;> simp [F_least_from_, B_least_from, enil, c, forR_none, l1, lc, hm2, forR_ap, lockable, lock1, l2, unlock1, -List.map_map]
end K63
end
section
set_option Elab.async false
set_option linter.all false
set_option maxRecDepth 100000
set_option maxHeartbeats 4000000
namespace K63
open PySem PySem.Spec PyProof.Rows L2 DV PySem.W
theorem min_len {led : Led} {left b : List At} (h : IsMin led left b) : b.length = left.length := by
  obtain ⟨p, h1, rfl⟩ := h.1
  rw [spl_len, h1.length_eq]
theorem min_uniq {led : Led} {left b c : List At} (hb : ∀ x ∈ b, x.ok) (hc : ∀ x ∈ c, x.ok) (h : IsMin led left b) (k : IsMin led left c) : b = c := by
  refine T_tri hb hc (by rw [min_len h, min_len k]) ?_ ?_
  · obtain ⟨p, h1, rfl⟩ := h.1
    exact k.2 p h1
  · obtain ⟨p, h1, rfl⟩ := k.1
    exact h.2 p h1
/-- the form of a question -/
structure Form (q d : Qn) : Prop where
  h : d.hd = q.hd.map (ap (wt [] q.hd))
  m : IsMin (wt [] q.hd) q.as d.as
  o : ∀ x ∈ d.as, x.ok
theorem form_uniq {q d e : Qn} (h : Form q d) (k : Form q e) : d = e := by
  have h1 := min_uniq h.o k.o h.m k.m
  have h2 := h.h.trans k.h.symm
  cases d; cases e
  simp only at h1 h2
  rw [h1, h2]
theorem ledU_nil : LedU [] := fun k y h => by cases h
theorem form_in_ok (μ : List (Int × Int)) {q : Qn} (k : q.ok) : ∃ d, F_form_in [.fz q.enc] μ = some (.fz d.enc, μ) ∧ Form q d := by
  have h1 := k.hl
  have h2 := k.n1
  have w := with_terms_ok μ (led := []) (s := .fz (encL [])) (.inl rfl) k.h (by simp; omega)
  have w0 : ∀ ρ, cal F_with_terms [.fz (.dict []), .fz (.tuple q.hd)] ⟨ρ, μ⟩ = some (.fr (encL (wt [] q.hd)), ⟨ρ, μ⟩) := fun ρ => cal_fr w
  have wl := wt_len q.hd []
  have wu : LedU (wt [] q.hd) := wt_U ledU_nil (by simp; omega)
  have g := led_terms_ok μ (led := wt [] q.hd) (s := .bo (encL (wt [] q.hd))) (.inr rfl) k.h (wt_has q.hd [])
  have g0 : ∀ ρ, cal F_led_terms [.fz (.tuple q.hd), .bo (encL (wt [] q.hd))] ⟨ρ, μ⟩ = some (.fz (.tuple (q.hd.map (ap (wt [] q.hd)))), ⟨ρ, μ⟩) := fun ρ => cal_fz g
  obtain ⟨b, f1, f2, f3⟩ := least_rec μ 12 [] q.as (wt [] q.hd) (.fz (.list (encS q.as))) (.bo (encL (wt [] q.hd))) (.inl rfl) (.inr rfl) ⟨(fun a ha => by cases ha), k.a, wu, (by simp at wl; omega), (by simp; omega)⟩ (by omega)
  have f0 : ∀ ρ, cal F_least_from [.fz (.list []), .fz (.list (encS q.as)), .bo (encL (wt [] q.hd))] ⟨ρ, μ⟩ = some (.fz (.list (encS b)), ⟨ρ, μ⟩) := fun ρ => cal_fz f1
  refine ⟨⟨q.hd.map (ap (wt [] q.hd)), b⟩, ?_, ⟨rfl, f2, f3⟩⟩
  unfold Qn.enc at *
  simp [F_form_in, B_form_in, w0, ix3_one, ix3_two, g0, listG, f0, tupleG]
theorem form_of_ok (μ : List (Int × Int)) {q : Qn} (k : q.ok) : ∃ d, F_form_of [.fz q.enc] μ = some (.fz d.enc, μ) ∧ Form q d := by
  obtain ⟨d, h1, h2⟩ := form_in_ok μ k
  refine ⟨d, ?_, h2⟩
  have w0 : ∀ ρ, cal F_want_question [.fz q.enc] ⟨ρ, μ⟩ = some (.fz q.enc, ⟨ρ, μ⟩) := fun ρ => cal_fz (want_ok μ k)
  have f0 : ∀ ρ, cal F_form_in [.fz q.enc] ⟨ρ, μ⟩ = some (.fz d.enc, ⟨ρ, μ⟩) := fun ρ => cal_fz h1
  simp [F_form_of, B_form_of, w0, f0]
/-! comparing forms -/
theorem uni_eqv {d e : D} (hd : d ∈ U) (he : e ∈ U) (h : PyData.eqv d e = true) : d = e := by
  have f : ∀ d ∈ U, (∃ x, d = .str x) ∨ ∃ i, d = .int i := by
    refine U_ind ⟨?_, ?_, ?_, ?_, ?_, ?_, ?_, ?_, ?_, ?_, ?_, ?_, ?_, ?_, ?_, ?_, ?_, ?_, ?_, ?_, ?_, ?_, ?_, ?_, ?_, ?_, ?_, ?_, ?_, ?_, ?_⟩ <;> first | exact .inl ⟨_, rfl⟩ | exact .inr ⟨_, rfl⟩
  rcases f d hd with ⟨x, rfl⟩ | ⟨i, rfl⟩ <;> rcases f e he with ⟨y, rfl⟩ | ⟨j, rfl⟩ <;> simp [PyData.eqv] at h
  · rw [h]
  · rw [h]
theorem uns_eqv : ∀ {xs ys : List D}, (∀ x ∈ xs, x ∈ U) → (∀ y ∈ ys, y ∈ U) → PyData.eqvAll xs ys = true → xs = ys
  | [], [], _, _, _ => rfl
  | [], y :: ys, _, _, h => by simp [PyData.eqvAll] at h
  | x :: xs, [], _, _, h => by simp [PyData.eqvAll] at h
  | x :: xs, y :: ys, h1, h2, h => by
    rw [PyData.eqvAll, Bool.and_eq_true] at h
    rw [uni_eqv (h1 x (List.mem_cons_self ..)) (h2 y (List.mem_cons_self ..)) h.1, uns_eqv (fun z hz => h1 z (List.mem_cons_of_mem _ hz)) (fun z hz => h2 z (List.mem_cons_of_mem _ hz)) h.2]
theorem uni_refl : ∀ d ∈ U, PyData.eqv d d = true := by
  refine U_ind ⟨?_, ?_, ?_, ?_, ?_, ?_, ?_, ?_, ?_, ?_, ?_, ?_, ?_, ?_, ?_, ?_, ?_, ?_, ?_, ?_, ?_, ?_, ?_, ?_, ?_, ?_, ?_, ?_, ?_, ?_, ?_⟩ <;> simp [PyData.eqv]
theorem all_refl : ∀ {xs : List D}, (∀ x ∈ xs, PyData.eqv x x = true) → PyData.eqvAll xs xs = true
  | [], _ => rfl
  | x :: xs, h => by rw [PyData.eqvAll, h x (List.mem_cons_self ..), all_refl fun y hy => h y (List.mem_cons_of_mem _ hy)]; rfl
theorem encs_eqv : ∀ {xs ys : List At}, (∀ x ∈ xs, x.ok) → (∀ y ∈ ys, y.ok) → PyData.eqvAll (encS xs) (encS ys) = true → xs = ys
  | [], [], _, _, _ => rfl
  | [], y :: ys, _, _, h => by simp [encS, PyData.eqvAll] at h
  | x :: xs, [], _, _, h => by simp [encS, PyData.eqvAll] at h
  | x :: xs, y :: ys, h1, h2, h => by
    change PyData.eqvAll (x.enc :: encS xs) (y.enc :: encS ys) = true at h
    rw [PyData.eqvAll, Bool.and_eq_true] at h
    rw [enc_inj (h1 x (List.mem_cons_self ..)) (h2 y (List.mem_cons_self ..)) h.1, encs_eqv (fun z hz => h1 z (List.mem_cons_of_mem _ hz)) (fun z hz => h2 z (List.mem_cons_of_mem _ hz)) h.2]
structure Qn.pl (q : Qn) : Prop where
  h : ∀ t ∈ q.hd, t ∈ U
  a : ∀ x ∈ q.as, x.ok
theorem Qn.ok.pl {q : Qn} (k : q.ok) : q.pl := ⟨k.h, k.a⟩
theorem can_qn {q : Qn} (k : q.pl) : q.enc.canLay0 = true ∧ q.enc.depth ≤ 4 := by
  refine can_tup (k := 3) fun d hd => ?_
  simp only [List.mem_cons, List.not_mem_nil, or_false] at hd
  rcases hd with rfl | rfl | rfl
  · exact ⟨by decide +kernel, by decide +kernel⟩
  · have := can_tup (k := 0) (ds := q.hd) fun d hd => ⟨(can_U d (k.h d hd)).1, Nat.le_of_eq (can_U d (k.h d hd)).2⟩
    exact ⟨this.1, by omega⟩
  · refine can_tup (k := 2) fun d hd => ?_
    obtain ⟨x, hx, rfl⟩ := List.mem_map.mp hd
    exact can_at (k.a x hx)
open Classical in
theorem qn_eq {q r : Qn} (k : q.pl) (l : r.pl) : eqG q.enc r.enc = some (.fz (.bool (decide (q = r)))) := by
  show (if SeqAt.shaped q.enc = true ∧ SeqAt.shaped r.enc = true then boolR (PyData.eqv q.enc r.enc) else none) = _
  rw [if_pos ⟨shp_of (k := 4) (by omega) (can_qn k), shp_of (k := 4) (by omega) (can_qn l)⟩, boolR_eq]
  congr 3
  have key : PyData.eqv q.enc r.enc = true ↔ q = r := by
    constructor
    · intro h
      unfold Qn.enc at h
      simp [PyData.eqv, PyData.eqvAll] at h
      have h1 := uns_eqv k.h l.h h.1
      have h2 := encs_eqv k.a l.a h.2
      cases q; cases r
      simp only at h1 h2
      rw [h1, h2]
    · rintro rfl
      unfold Qn.enc
      simp [PyData.eqv, PyData.eqvAll]
      refine ⟨all_refl fun x hx => uni_refl x (k.h x hx), all_refl fun x hx => ?_⟩
      obtain ⟨y, hy, rfl⟩ := List.mem_map.mp hx
      exact enc_refl (k.a y hy)
  by_cases c : q = r
  · rw [key.mpr c]; simp [c]
  · rw [decide_eq_false c, Bool.eq_false_iff]; exact fun z => c (key.mp z)
theorem form_pl {q d : Qn} (k : q.ok) (f : Form q d) : d.pl := by
  refine ⟨fun t ht => ?_, f.o⟩
  rw [f.h] at ht
  obtain ⟨u, hu, rfl⟩ := List.mem_map.mp ht
  have := k.hl
  exact ap_U (wt_U ledU_nil (by simp; omega)) (k.h u hu)
open Classical in
theorem are_one_ok (μ : List (Int × Int)) {q r d e : Qn} (k : q.ok) (l : r.ok) (f : Form q d) (g : Form r e) : F_are_one_form [.fz q.enc, .fz r.enc] μ = some (.fz (.bool (decide (d = e))), μ) := by
  obtain ⟨d', h1, h2⟩ := form_in_ok μ k
  obtain ⟨e', h3, h4⟩ := form_in_ok μ l
  cases form_uniq f h2
  cases form_uniq g h4
  have w0 : ∀ ρ, cal F_want_question [.fz q.enc] ⟨ρ, μ⟩ = some (.fz q.enc, ⟨ρ, μ⟩) := fun ρ => cal_fz (want_ok μ k)
  have f0 : ∀ ρ, cal F_form_in [.fz q.enc] ⟨ρ, μ⟩ = some (.fz d.enc, ⟨ρ, μ⟩) := fun ρ => cal_fz h1
  have w1 : ∀ ρ, cal F_want_question [.fz r.enc] ⟨ρ, μ⟩ = some (.fz r.enc, ⟨ρ, μ⟩) := fun ρ => cal_fz (want_ok μ l)
  have f1 : ∀ ρ, cal F_form_in [.fz r.enc] ⟨ρ, μ⟩ = some (.fz e.enc, ⟨ρ, μ⟩) := fun ρ => cal_fz h3
  simp [F_are_one_form, B_are_one_form, w0, f0, w1, f1, qn_eq (form_pl k f) (form_pl l g)]
end K63
end
section
set_option Elab.async false
set_option linter.all false
set_option maxRecDepth 100000
set_option maxHeartbeats 4000000
namespace K63
open PySem PySem.Spec PyProof.Rows L2 DV PySem.W
/-! other names -/
def rn (r : Str → Str) (d : D) : D := match nmS d with
  | some x => .str (r x)
  | none => d
def rnA (r : Str → Str) (a : At) : At := ⟨a.tb, a.ts.map (rn r)⟩
structure Rnm (S : Str → Prop) (r : Str → Str) : Prop where
  n : ∀ x, S x → nm (.str (r x)) = true
  i : ∀ x y, S x → S y → r x = r y → x = y
def InS (S : Str → Prop) (ts : List D) : Prop := ∀ t ∈ ts, ∀ x, nmS t = some x → S x
def KS (S : Str → Prop) (led : Led) : Prop := ∀ p ∈ led, S p.1
def rl (r : Str → Str) (led : Led) : Led := led.map fun p => (r p.1, p.2)
variable {S : Str → Prop} {r : Str → Str}
theorem nmS_nm {x : Str} (h : nm (.str x) = true) : nmS (.str x) = some x := by
  show (if nm (.str x) = true then some x else none) = _
  rw [if_pos h]
theorem lkp_rl (R : Rnm S r) {x : Str} (hx : S x) : ∀ {led : Led}, KS S led → lkp (rl r led) (r x) = lkp led x
  | [], _ => rfl
  | p :: led, h => by
    have ih := lkp_rl R hx (led := led) fun q hq => h q (List.mem_cons_of_mem _ hq)
    show (if r p.1 = r x then some p.2 else lkp (rl r led) (r x)) = if p.1 = x then some p.2 else lkp led x
    by_cases c : p.1 = x
    · rw [if_pos c, if_pos (by rw [c])]
    · rw [if_neg c, if_neg (fun z => c (R.i _ _ (h p (List.mem_cons_self ..)) hx z)), ih]
theorem st1_rl (R : Rnm S r) {led : Led} {t : D} (hk : KS S led) (ht : ∀ x, nmS t = some x → S x) : st1 (rl r led) (rn r t) = rl r (st1 led t) ∧ KS S (st1 led t) := by
  cases e : nmS t with
  | none =>
    have e2 : rn r t = t := by unfold rn; rw [e]
    rw [e2]
    unfold st1
    rw [e]
    exact ⟨rfl, hk⟩
  | some x =>
    have hx := ht x e
    have e2 : rn r t = .str (r x) := by unfold rn; rw [e]
    rw [e2]
    unfold st1
    rw [e, nmS_nm (R.n x hx)]
    simp only
    rw [lkp_rl R hx hk]
    by_cases c : (lkp led x).isSome = true
    · rw [if_pos c, if_pos c]; exact ⟨rfl, hk⟩
    · rw [if_neg c, if_neg c]
      refine ⟨by simp [rl], fun p hp => ?_⟩
      rcases List.mem_append.mp hp with hp | hp
      · exact hk p hp
      · rw [List.mem_singleton.mp hp]; exact hx
theorem wt_rl (R : Rnm S r) : ∀ {ts : List D} {led : Led}, KS S led → InS S ts → wt (rl r led) (ts.map (rn r)) = rl r (wt led ts) ∧ KS S (wt led ts)
  | [], led, hk, _ => ⟨rfl, hk⟩
  | t :: ts, led, hk, h => by
    obtain ⟨h1, h2⟩ := st1_rl R hk (h t (List.mem_cons_self ..))
    have ih := wt_rl R (ts := ts) h2 fun u hu => h u (List.mem_cons_of_mem _ hu)
    show wt (st1 (rl r led) (rn r t)) (ts.map (rn r)) = rl r (wt (st1 led t) ts) ∧ _
    rw [h1]
    exact ih
theorem ap_rl (R : Rnm S r) {led : Led} {t : D} (hk : KS S led) (ht : ∀ x, nmS t = some x → S x) (hl : ∀ x, nmS t = some x → (lkp led x).isSome = true) : ap (rl r led) (rn r t) = ap led t := by
  cases e : nmS t with
  | none =>
    have e2 : rn r t = t := by unfold rn; rw [e]
    rw [e2]
    unfold ap
    rw [e]
  | some x =>
    have hx := ht x e
    have e2 : rn r t = .str (r x) := by unfold rn; rw [e]
    obtain ⟨y, hy⟩ := Option.isSome_iff_exists.mp (hl x e)
    rw [e2]
    unfold ap
    rw [e, nmS_nm (R.n x hx)]
    simp only
    rw [lkp_rl R hx hk, hy]
theorem aps_rl (R : Rnm S r) {led : Led} {ts : List D} (hk : KS S led) (ht : InS S ts) (hl : Has led ts) : (ts.map (rn r)).map (ap (rl r led)) = ts.map (ap led) := by
  rw [List.map_map]
  exact List.map_congr_left fun t h => ap_rl R hk (ht t h) (hl t h)
theorem spl_rl (R : Rnm S r) : ∀ {as : List At} {led : Led}, KS S led → (∀ a ∈ as, InS S a.ts) → spl (rl r led) (as.map (rnA r)) = spl led as
  | [], _, _, _ => rfl
  | a :: as, led, hk, h => by
    obtain ⟨h1, h2⟩ := wt_rl R hk (h a (List.mem_cons_self ..))
    show sp (rl r led) (rnA r a) :: spl (wt (rl r led) (a.ts.map (rn r))) (as.map (rnA r)) = sp led a :: spl (wt led a.ts) as
    rw [h1, spl_rl R h2 fun b hb => h b (List.mem_cons_of_mem _ hb)]
    unfold sp rnA
    simp only
    rw [h1, aps_rl R h2 (h a (List.mem_cons_self ..)) (wt_has _ _)]
theorem perm_map_inv {α β : Type} {f : α → β} {m n : List β} (h : m.Perm n) : ∀ l : List α, n = l.map f → ∃ p : List α, p.Perm l ∧ m = p.map f := by
  induction h with
  | nil => intro l e; exact ⟨l, List.Perm.refl _, e⟩
  | cons x _ ih =>
    intro l e
    cases l with
    | nil => cases e
    | cons a l =>
      rw [List.map_cons] at e
      injection e with e1 e2
      obtain ⟨p, p1, p2⟩ := ih l e2
      exact ⟨a :: p, p1.cons a, by rw [List.map_cons, ← p2, e1]⟩
  | swap x y l =>
    intro l e
    cases l with
    | nil => cases e
    | cons a l => cases l with
      | nil => cases e
      | cons b l =>
        rw [List.map_cons, List.map_cons] at e
        injection e with e1 e2
        injection e2 with e2 e3
        exact ⟨b :: a :: l, List.Perm.swap .., by rw [List.map_cons, List.map_cons, e1, e2, e3]⟩
  | trans _ _ ih1 ih2 =>
    intro l e
    obtain ⟨p, p1, p2⟩ := ih2 l e
    obtain ⟨q, q1, q2⟩ := ih1 p p2
    exact ⟨q, q1.trans p1, q2⟩
theorem form_rn {q q' d : Qn} (R : Rnm S r) (h1 : InS S q.hd) (h2 : ∀ a ∈ q.as, InS S a.ts) (e1 : q'.hd = q.hd.map (rn r)) (e2 : q'.as.Perm (q.as.map (rnA r))) (f : Form q d) : Form q' d := by
  have k0 : KS S [] := fun p hp => by cases hp
  obtain ⟨w1, w2⟩ := wt_rl R k0 h1
  have w3 : wt [] q'.hd = rl r (wt [] q.hd) := by rw [e1]; exact w1
  refine ⟨?_, ⟨?_, fun p hp => ?_⟩, f.o⟩
  · rw [w3, e1, aps_rl R w2 h1 (wt_has _ _)]; exact f.h
  · obtain ⟨p, p1, p2⟩ := f.m.1
    refine ⟨p.map (rnA r), (p1.map _).trans e2.symm, ?_⟩
    rw [w3, spl_rl R w2 fun a ha => h2 a (p1.mem_iff.mp ha)]
    exact p2
  · obtain ⟨p', p1, rfl⟩ := perm_map_inv (hp.trans e2) q.as rfl
    rw [w3, spl_rl R w2 fun a ha => h2 a (p1.mem_iff.mp ha)]
    exact f.m.2 p' p1
/-! the letters are other names -/
theorem letter_inj {i j : Nat} (h : letter i = letter j) : i = j := by
  unfold letter at h
  injection h with h
  injection h with h
  injection h with h
  omega
theorem letter_nm (k : Nat) (h : k < 26) : nm (.str (letter k)) = true := by
  have e : ∀ k : Fin 26, nm (.str (letter k.val)) = true := by decide +kernel
  exact e ⟨k, h⟩
structure Inj (led : Led) : Prop where
  v : ∀ k y, lkp led k = some y → ∃ i, i < led.length ∧ y = letter i
  i : ∀ k k' y, lkp led k = some y → lkp led k' = some y → k = k'
theorem inj_nil : Inj [] := ⟨fun k y h => (by cases h), fun k k' y h => (by cases h)⟩
theorem st1_inj {led : Led} {t : D} (h : Inj led) : Inj (st1 led t) := by
  unfold st1
  split
  · rename_i x e
    split
    · exact h
    · rename_i c
      have c' : lkp led x = none := by simpa using c
      have key : ∀ k, lkp (led ++ [(x, letter led.length)]) k = if k = x then some (letter led.length) else lkp led k := fun k => by
        rw [lkp_app]
        by_cases q : k = x
        · subst q; rw [c', if_pos rfl]; simp [lkp]
        · rw [if_neg q]
          have q2 : ¬ x = k := fun z => q z.symm
          cases lkp led k <;> simp [lkp, q2]
      constructor
      · intro k y hy
        rw [key] at hy
        split at hy
        · cases hy; exact ⟨led.length, by simp, rfl⟩
        · obtain ⟨i, h1, h2⟩ := h.v k y hy
          exact ⟨i, by simp; omega, h2⟩
      · intro k k' y hy hy'
        rw [key] at hy hy'
        split at hy <;> split at hy'
        · rename_i a b; rw [a, b]
        · cases hy
          obtain ⟨i, h1, h2⟩ := h.v k' _ hy'
          have := letter_inj h2
          omega
        · cases hy'
          obtain ⟨i, h1, h2⟩ := h.v k _ hy
          have := letter_inj h2
          omega
        · exact h.i k k' y hy hy'
  · exact h
theorem wt_inj : ∀ {ts : List D} {led : Led}, Inj led → Inj (wt led ts)
  | [], _, h => h
  | t :: ts, led, h => wt_inj (ts := ts) (st1_inj h)
def wtA (led : Led) (as : List At) : Led := as.foldl (fun l a => wt l a.ts) led
theorem wtA_inj : ∀ {as : List At} {led : Led}, Inj led → Inj (wtA led as)
  | [], _, h => h
  | a :: as, led, h => wtA_inj (as := as) (wt_inj h)
theorem wtA_keep : ∀ {as : List At} {led : Led} {k y : Str}, lkp led k = some y → lkp (wtA led as) k = some y
  | [], _, _, _, h => h
  | a :: as, led, k, y, h => wtA_keep (as := as) (wt_keep h)
theorem wtA_len : ∀ {as : List At} {led : Led}, (∀ a ∈ as, a.ok) → (wtA led as).length ≤ led.length + 3 * as.length
  | [], _, _ => by simp [wtA]
  | a :: as, led, h => by
    have ha := h a (List.mem_cons_self ..)
    have h3 := ar_le a.tb ha.1
    have h4 := ha.2.2
    have h5 := wt_len a.ts led
    have ih := wtA_len (as := as) (led := wt led a.ts) fun b hb => h b (List.mem_cons_of_mem _ hb)
    show (wtA (wt led a.ts) as).length ≤ _
    simp only [List.length_cons]
    omega
def Ext (led L : Led) : Prop := ∀ k y, lkp led k = some y → lkp L k = some y
def rof (L : Led) (x : Str) : Str := (lkp L x).getD x
theorem ap_ext {led L : Led} {ts : List D} (h : Has led ts) (e : Ext led L) : ts.map (ap led) = ts.map (rn (rof L)) := List.map_congr_left fun t ht => by
  cases q : nmS t with
  | none => unfold ap rn; rw [q]
  | some x =>
    obtain ⟨y, hy⟩ := Option.isSome_iff_exists.mp (h t ht x q)
    unfold ap rn rof
    rw [q]
    simp only
    rw [hy, e x y hy]; rfl
theorem ap_rof {L : Led} {ts : List D} (h : Has L ts) : ts.map (ap L) = ts.map (rn (rof L)) := ap_ext h fun _ _ h => h
theorem spl_ext {L : Led} : ∀ {as : List At} {led : Led}, Ext (wtA led as) L → spl led as = as.map (rnA (rof L))
  | [], _, _ => rfl
  | a :: as, led, e => by
    show sp led a :: spl (wt led a.ts) as = rnA (rof L) a :: as.map (rnA (rof L))
    have e1 : Ext (wtA (wt led a.ts) as) L := e
    have e2 : Ext (wt led a.ts) L := fun k y h => e k y (wtA_keep (as := as) h)
    rw [spl_ext e1]
    unfold sp rnA
    rw [ap_ext (wt_has _ _) e2]
theorem wtA_has : ∀ {as : List At} {led : Led}, ∀ a ∈ as, Has (wtA led as) a.ts
  | [], _ => fun a ha => by cases ha
  | b :: as, led => fun a ha => by
    rcases List.mem_cons.mp ha with rfl | ha
    · intro t ht x hx
      obtain ⟨y, hy⟩ := Option.isSome_iff_exists.mp (wt_has a.ts led t ht x hx)
      show (lkp (wtA (wt led a.ts) as) x).isSome = true
      rw [wtA_keep hy]; rfl
    · exact wtA_has (as := as) (led := wt led b.ts) a ha
theorem form_self {q d : Qn} (k : q.ok) (f : Form q d) : Form d d := by
  obtain ⟨p, p1, p2⟩ := f.m.1
  have hl := k.hl
  have hn := k.n1
  have wl := wt_len q.hd []
  have pok : ∀ a ∈ p, a.ok := fun a ha => k.a a (p1.mem_iff.mp ha)
  have al := wtA_len (led := wt [] q.hd) pok
  have pl := p1.length_eq
  simp only [List.length_nil] at wl
  have inj : Inj (wtA (wt [] q.hd) p) := wtA_inj (wt_inj inj_nil)
  have hasA : ∀ a ∈ p, Has (wtA (wt [] q.hd) p) a.ts := wtA_has
  have hasH : Has (wtA (wt [] q.hd) p) q.hd := fun t ht x hx => by
    obtain ⟨y, hy⟩ := Option.isSome_iff_exists.mp (wt_has q.hd [] t ht x hx)
    rw [wtA_keep hy]; rfl
  refine form_rn (q := q) (S := fun x => (lkp (wtA (wt [] q.hd) p) x).isSome = true) (r := rof (wtA (wt [] q.hd) p)) ⟨fun x hx => ?_, fun x y hx hy e => ?_⟩ (fun t ht x hx => hasH t ht x hx) (fun a ha t ht x hx => hasA a (p1.mem_iff.mpr ha) t ht x hx) ?_ ?_ f
  · obtain ⟨y, hy⟩ := Option.isSome_iff_exists.mp hx
    obtain ⟨i, i1, i2⟩ := inj.v x y hy
    unfold rof
    rw [hy, i2]
    exact letter_nm i (by omega)
  · obtain ⟨u, hu⟩ := Option.isSome_iff_exists.mp hx
    obtain ⟨v, hv⟩ := Option.isSome_iff_exists.mp hy
    unfold rof at e
    rw [hu, hv] at e
    simp only [Option.getD_some] at e
    subst e
    exact inj.i x y u hu hv
  · rw [f.h]
    exact ap_ext (wt_has _ _) fun k y h => wtA_keep h
  · rw [p2, spl_ext (L := wtA (wt [] q.hd) p) fun _ _ h => h]
    exact p1.map _
end K63
end
section
set_option Elab.async false
set_option linter.all false
set_option maxRecDepth 100000
set_option maxHeartbeats 4000000
namespace K63
open PySem PySem.Spec PyProof.Rows L2 DV PySem.W
def Ok (μ : List (Int × Int)) : Prop := ∃ a b, μ = [(a, b)]
theorem two_zero (a b : Int) : ixG (.list [.int a, .int b]) (.int 0) = some (.fz (.int a)) := rfl
theorem two_one (a b : Int) : ixG (.list [.int a, .int b]) (.int 1) = some (.fz (.int b)) := rfl
theorem add_int (i j : Int) : addG (.int i) (.int j) = some (.fz (.int (i + j))) := rfl
theorem int1_int (i : Int) : int1G (.int i) = some (.fz (.int i)) := rfl
theorem mul_l (i j : Int) (h : -(2 ^ 64) < i ∧ i < 2 ^ 64) : mulG (.int i) (.int j) = some (.fz (.int (i * j))) := by
  show (mulF i j).bind intR = _
  unfold mulF
  rw [if_pos (.inl h)]; rfl
theorem mul_r (i j : Int) (h : -(2 ^ 64) < j ∧ j < 2 ^ 64) : mulG (.int i) (.int j) = some (.fz (.int (i * j))) := by
  show (mulF i j).bind intR = _
  unfold mulF
  rw [if_pos (.inr h)]; rfl
theorem mod_int (i j : Int) (h : 0 < j) : intG modF (.int i) (.int j) = some (.fz (.int (i % j))) := by
  show (modF i j).bind intR = _
  unfold modF
  rw [if_pos h]; rfl
theorem fdiv_int (i j : Int) (h : 0 < j ∧ j < 1073741824) : intG fdivF (.int i) (.int j) = some (.fz (.int (i / j))) := by
  show (fdivF i j).bind intR = _
  unfold fdivF
  rw [if_pos h]; rfl
theorem divmod_int (i j : Int) (h : 0 < j ∧ j < 1073741824) : divmodG (.int i) (.int j) = some (.fz (.tuple [.int (i / j), .int (i % j)])) := by
  show (if 0 < j ∧ j < 1073741824 then _ else none) = _
  rw [if_pos h]
theorem draw_ok {μ : List (Int × Int)} (ok : Ok μ) {n : Int} (h0 : 0 < n) (h1 : n < 1073741824) : ∃ (r : Int) (μ' : List (Int × Int)), F_u_law_draw [.pt 0, .fz (.int n)] μ = some (.fz (.int r), μ') ∧ Ok μ' ∧ 0 ≤ r ∧ r < n := by
  obtain ⟨a, b, rfl⟩ := ok
  by_cases c : 0 < a
  · refine ⟨a % n, [(a / n, b)], ?_, ⟨_, _, rfl⟩, Int.emod_nonneg _ (by omega), Int.emod_lt_of_pos _ h0⟩
    have hd := divmod_int a n ⟨h0, h1⟩
    simp [F_u_law_draw, B_u_law_draw, two_zero, c, hd]
  · have m1 := mul_r b 40692 (by decide)
    have m2 := mod_int (b * 40692 + 13411) 2147483399 (by decide)
    have lt := Int.emod_lt_of_pos (b * 40692 + 13411) (show (0 : Int) < 2147483399 by decide)
    have ge := Int.emod_nonneg (b * 40692 + 13411) (show (2147483399 : Int) ≠ 0 by decide)
    generalize (b * 40692 + 13411) % 2147483399 = p at m2 lt ge
    have m3 := mul_r p p ⟨by omega, by omega⟩
    have m4 := mod_int (p * p) 2147483323 (by decide)
    have m5 := fdiv_int ((p * p) % 2147483323) 19 (by decide)
    have m6 := mod_int ((p * p) % 2147483323 / 19) n h0
    refine ⟨((p * p) % 2147483323 / 19) % n, [(a, p)], ?_, ⟨_, _, rfl⟩, Int.emod_nonneg _ (by omega), Int.emod_lt_of_pos _ h0⟩
    simp [F_u_law_draw, B_u_law_draw, two_zero, two_one, c, m1, add_int, int1_int, m2, m3, m4, m5, m6]
theorem at_mem {ds : List D} {i : Int} (h0 : 0 ≤ i) (h1 : i < ds.length) : ∃ d ∈ ds, atI ds i = some d := by
  have hl : i.toNat < ds.length := by omega
  refine ⟨ds[i.toNat], List.getElem_mem hl, ?_⟩
  have e : ds[i.toNat]? = some ds[i.toNat] := List.getElem?_eq_getElem hl
  unfold atI
  have h2 : ¬ i < 0 := by omega
  simp [ixN, h2, h0, h1, e]
theorem pick_ok {μ : List (Int × Int)} (ok : Ok μ) {s : Sl} {xs : List D} (hs : Sb s (.list xs)) (h0 : 0 < xs.length) (h1 : xs.length < 1000000) : ∃ d ∈ xs, ∃ μ', F_u_law_pick [.pt 0, s] μ = some (.fz d, μ') ∧ Ok μ' := by
  obtain ⟨r, μ', e, ok', r0, r1⟩ := draw_ok ok (n := xs.length) (by omega) (by omega)
  obtain ⟨d, hd, ed⟩ := at_mem (ds := xs) r0 r1
  refine ⟨d, hd, μ', ?_, ok'⟩
  have e0 : ∀ ρ, cal F_u_law_draw [.pt 0, .fz (.int xs.length)] ⟨ρ, μ⟩ = some (.fz (.int r), ⟨ρ, μ'⟩) := fun ρ => cal_fz e
  have ix : ixG (.list xs) (.int r) = some (.fz d) := by
    show (atI xs r).map _ = _
    rw [ed]; rfl
  have hm : μ'.take μ.length = μ' := by
    obtain ⟨a, b, rfl⟩ := ok
    obtain ⟨a', b', rfl⟩ := ok'
    rfl
  rcases hs with rfl | rfl <;> simp [F_u_law_pick, B_u_law_pick, e0, ix, hm]
end K63
end
section
set_option Elab.async false
set_option linter.all false
set_option maxRecDepth 100000
set_option maxHeartbeats 4000000
namespace K63
open PySem PySem.Spec PyProof.Rows L2 DV PySem.W
theorem tk_ok {μ μ' : List (Int × Int)} (h : Ok μ) (k : Ok μ') : μ'.take μ.length = μ' := by
  obtain ⟨a, b, rfl⟩ := h
  obtain ⟨a', b', rfl⟩ := k
  rfl
def Vs : List D := [.int 1, .int 2, .str "Red"]
theorem vs_ne : eqG (.list Vs) (.list []) = some (.fz (.bool false)) := by kernel_rfl
theorem all2_len {R : D → D → Prop} : ∀ {a b : List D}, All2 R a b → a.length = b.length
  | _, _, .nil => rfl
  | _, _, .cons _ h => by simp [all2_len h]
theorem all2_mem {p : D → Prop} : ∀ {a b : List D}, All2 (fun _ o => p o) a b → ∀ o ∈ b, p o
  | _, _, .nil => fun o ho => by cases ho
  | _, _, .cons h1 h => fun o ho => by
    rcases List.mem_cons.mp ho with rfl | ho
    · exact h1
    · exact all2_mem h o ho
theorem rngL_len (n : Nat) : (rngL 0 n).length = n := by simp [rngL]
theorem l_terms_ok {μ : List (Int × Int)} (ok : Ok μ) {xs : List D} {s : Sl} (hs : Sb s (.list xs)) (hx : 0 < xs.length) (hx2 : xs.length < 1000) {n : Nat} (hn : n ≤ 5) :
    ∃ ts μ', F_u_law_terms [.pt 0, .fz (.int n), s, .bo (.list Vs)] μ = some (.fz (.tuple ts), μ') ∧ Ok μ' ∧ ts.length = n ∧ ∀ t ∈ ts, t ∈ xs ∨ t ∈ Vs := by
  obtain ⟨ts, μ', h1, h2, h3⟩ := lcR_rel (own := [4]) (t := tgN 4) (c := DV.ret true) (el := C_u_law_terms_1) Ok (fun _ o => o ∈ xs ∨ o ∈ Vs) (ds := rngL 0 n) (ρ := [some (.pt 0), some (.fz (.int n)), some s, some (.bo (.list Vs)), none]) (μ := μ) (by rfl) ok (by
    intro d _ μ ok
    obtain ⟨r, μ1, e1, ok1, r0, r1⟩ := draw_ok ok (n := 6) (by decide) (by decide)
    have e0 : ∀ ρ, cal F_u_law_draw [.pt 0, .fz (.int 6)] ⟨ρ, μ⟩ = some (.fz (.int r), ⟨ρ, μ1⟩) := fun ρ => cal_fz e1
    obtain ⟨x, hx1, μ2, e2, ok2⟩ := pick_ok ok1 hs hx (by omega)
    have p0 : ∀ ρ, cal F_u_law_pick [.pt 0, s] ⟨ρ, μ1⟩ = some (.fz x, ⟨ρ, μ2⟩) := fun ρ => cal_fz e2
    obtain ⟨v, hv1, μ3, e3, ok3⟩ := pick_ok ok1 (s := .bo (.list Vs)) (.inr rfl) (by decide) (by decide)
    have v0 : ∀ ρ, cal F_u_law_pick [.pt 0, .bo (.list Vs)] ⟨ρ, μ1⟩ = some (.fz v, ⟨ρ, μ3⟩) := fun ρ => cal_fz e3
    by_cases c : 0 < r
    · refine ⟨x, μ2, ?_, ok2, .inl hx1⟩
      rcases hs with rfl | rfl <;> simp [wipeR, C_u_law_terms_1, e0, p0, c]
    · refine ⟨v, μ3, ?_, ok3, .inr hv1⟩
      rcases hs with rfl | rfl <;> simp [wipeR, C_u_law_terms_1, e0, v0, c, vs_ne])
  refine ⟨ts, μ', ?_, h2, by rw [← all2_len h3, rngL_len], fun t ht => all2_mem h3 t ht⟩
  have hr : ∀ ρ, rng1M (consM (slM 1) (DV.ret [])) ⟨some (.pt 0) :: some (.fz (.int n)) :: ρ, μ⟩ = some ((rngL 0 n, none), ⟨some (.pt 0) :: some (.fz (.int n)) :: ρ, μ⟩) := fun ρ => rng1_ap _ _ _ [.fz (.int n)] n rfl rfl rfl (by omega) (by omega)
  have z := tk_ok ok h2
  rcases hs with rfl | rfl <;> simp [F_u_law_terms, B_u_law_terms, hr, h1, tupleG, z]
/-! questions made -/
theorem ne_nilE (l : List At) (h : ∀ a ∈ l, a.ok) : neG (.list (encS l)) (.list []) = some (.fz (.bool (decide (l ≠ [])))) := by
  have h1 : SeqAt.shaped (.list (encS l)) = true := shp_lst (k := 2) (by omega) fun d hd => by
    obtain ⟨x, hx, rfl⟩ := List.mem_map.mp hd
    exact can_at (h x hx)
  show (if SeqAt.shaped (.list (encS l)) = true ∧ SeqAt.shaped (.list []) = true then boolR (!PyData.eqv (.list (encS l)) (.list [])) else none) = _
  rw [if_pos ⟨h1, by decide +kernel⟩]
  cases l <;> simp [encS, PyData.eqv, PyData.eqvAll]
theorem ne_nilS (l : List Str) (h : NmsU l) : neG (.list (l.map .str)) (.list []) = some (.fz (.bool (decide (l ≠ [])))) := by
  show (if SeqAt.shaped (.list (l.map .str)) = true ∧ SeqAt.shaped (.list []) = true then boolR (!PyData.eqv (.list (l.map .str)) (.list [])) else none) = _
  rw [if_pos ⟨nmsU_shp h, by decide +kernel⟩]
  cases l <;> simp [PyData.eqv, PyData.eqvAll]
def TbL : List D := [.tuple [.str "R", .int 2], .tuple [.str "R", .int 2], .tuple [.str "S", .int 1], .tuple [.str "T", .int 3]]
theorem tbL : ∀ d ∈ TbL, ∃ tb ∈ Tb, d = .tuple [tb, .int (ar tb)] := by
  intro d hd
  simp only [TbL, List.mem_cons, List.not_mem_nil, or_false] at hd
  rcases hd with rfl | rfl | rfl | rfl
  · exact ⟨.str "R", by simp [Tb], by rw [show ar (.str "R") = 2 by decide +kernel]; rfl⟩
  · exact ⟨.str "R", by simp [Tb], by rw [show ar (.str "R") = 2 by decide +kernel]; rfl⟩
  · exact ⟨.str "S", by simp [Tb], by rw [show ar (.str "S") = 1 by decide +kernel]; rfl⟩
  · exact ⟨.str "T", by simp [Tb], by rw [show ar (.str "T") = 3 by decide +kernel]; rfl⟩
theorem vsU : ∀ t ∈ Vs, t ∈ U := by
  intro t ht
  simp only [Vs, List.mem_cons, List.not_mem_nil, or_false] at ht
  rcases ht with rfl | rfl | rfl <;> simp [U]
theorem vs_nm : ∀ t ∈ Vs, nmS t = none := by
  intro t ht
  simp only [Vs, List.mem_cons, List.not_mem_nil, or_false] at ht
  rcases ht with rfl | rfl | rfl
  · rfl
  · rfl
  · exact nmS_none (by decide +kernel)
theorem nmS_eq {t : D} {x : Str} (e : nmS t = some x) : t = .str x ∧ nm (.str x) = true := by
  cases t with
  | str y =>
    unfold nmS at e
    simp only at e
    split at e
    · cases e; exact ⟨rfl, by assumption⟩
    · cases e
  | _ => cases e
theorem l_q_step {μ : List (Int × Int)} (ok : Ok μ) {s1 s2 : Option Sl} {nl : List Str} (nU : NmsU nl) (n0 : 0 < nl.length) (n1 : nl.length < 1000) {as : List At} (h : ∀ a ∈ as, a.ok) (hN : ∀ a ∈ as, ∀ x ∈ nms a.ts, x ∈ nl) (hl : as.length < 100) {o6 o7 o8 : Option Sl} (h6 : Pl o6) (h7 : Pl o7) (h8 : Pl o8) (d : D) :
    ∃ a o7' o8' μ', bnd (tgN 6 d) (fun _ => L_u_law_question_1) ⟨[some (.pt 0), s1, s2, some (.ow (.list (nl.map .str))), some (.ow (.list Vs)), some (.ow (.list (encS as))), o6, o7, o8, none, none, none, none, none], μ⟩ =
      some (.nx, ⟨[some (.pt 0), s1, s2, some (.ow (.list (nl.map .str))), some (.ow (.list Vs)), some (.ow (.list (encS (as ++ [a])))), some (.fz d), o7', o8', none, none, none, none, none], μ'⟩) ∧ Ok μ' ∧ a.ok ∧ Pl o7' ∧ Pl o8' ∧ ∀ x ∈ nms a.ts, x ∈ nl := by
  obtain ⟨x, hx, μ1, e1, ok1⟩ := pick_ok ok (s := .fz (.list TbL)) (.inl rfl) (by decide) (by decide)
  obtain ⟨tb, htb, rfl⟩ := tbL x hx
  have p0 : ∀ ρ, cal F_u_law_pick [.pt 0, .fz (.list TbL)] ⟨ρ, μ⟩ = some (.fz (.tuple [tb, .int (ar tb)]), ⟨ρ, μ1⟩) := fun ρ => cal_fz e1
  unfold TbL at p0
  have ne := ne_nilE as h
  have hz : (encS as).length < 100000 := by simp [encS]; omega
  have har := ar_le tb htb
  have tgo : ∀ {μ2}, Ok μ2 → ∃ (a : At) (μ' : List (Int × Int)), (∀ ρ, cal F_u_law_terms [.pt 0, .fz (.int (ar tb)), .bo (.list (nl.map .str)), .bo (.list Vs)] ⟨ρ, μ2⟩ = some (.fz (.tuple a.ts), ⟨ρ, μ'⟩)) ∧ Ok μ' ∧ a.ok ∧ a.tb = tb ∧ ∀ x ∈ nms a.ts, x ∈ nl := fun ok2 => by
    obtain ⟨ts, μ', t1, t2, t3, t4⟩ := l_terms_ok ok2 (xs := nl.map .str) (s := .bo (.list (nl.map .str))) (.inr rfl) (by simpa using n0) (by simpa using n1) (n := ar tb) (by omega)
    refine ⟨⟨tb, ts⟩, μ', fun ρ => cal_fz t1, t2, ⟨htb, fun t ht => ?_, t3⟩, rfl, fun x hx => ?_⟩
    · rcases t4 t ht with q | q
      · obtain ⟨y, hy, rfl⟩ := List.mem_map.mp q
        exact nU y hy
      · exact vsU t q
    · obtain ⟨t, ht, e⟩ := List.mem_filterMap.mp hx
      rcases t4 t ht with q | q
      · obtain ⟨y, hy, rfl⟩ := List.mem_map.mp q
        have := (nmS_eq e).1
        cases this
        exact hy
      · rw [vs_nm t q] at e; cases e
  by_cases c : as = []
  · subst c
    obtain ⟨a, μ', t1, t2, t3, t4, t5⟩ := tgo ok1
    refine ⟨a, some (.fz tb), some (.fz (.int (ar tb))), μ', ?_, t2, t3, .inr ⟨_, rfl⟩, .inr ⟨_, rfl⟩, t5⟩
    rcases h6 with rfl | ⟨d6, rfl⟩ <;> rcases h7 with rfl | ⟨d7, rfl⟩ <;> rcases h8 with rfl | ⟨d8, rfl⟩ <;> simp [L_u_law_question_1, p0, ne, t1, app_one _ _ hz, encS_app] <;> simp [encS, At.enc, t4, app_one]
  · have c2 : decide (as ≠ []) = true := by simp [c]
    rw [c2] at ne
    obtain ⟨r, μ2, e2, ok2, r0, r1⟩ := draw_ok ok1 (n := 9) (by decide) (by decide)
    have d0 : ∀ ρ, cal F_u_law_draw [.pt 0, .fz (.int 9)] ⟨ρ, μ1⟩ = some (.fz (.int r), ⟨ρ, μ2⟩) := fun ρ => cal_fz e2
    by_cases cr : r = 0
    · subst cr
      obtain ⟨y, hy, μ3, e3, ok3⟩ := pick_ok ok2 (s := .bo (.list (encS as))) (.inr rfl) (by have := List.length_pos_iff.mpr c; simpa [encS] using this) (by simp [encS]; omega)
      obtain ⟨a, ha, rfl⟩ := List.mem_map.mp hy
      have q0 : ∀ ρ, cal F_u_law_pick [.pt 0, .bo (.list (encS as))] ⟨ρ, μ2⟩ = some (.fz a.enc, ⟨ρ, μ3⟩) := fun ρ => cal_fz e3
      refine ⟨a, some (.fz tb), some (.fz (.int (ar tb))), μ3, ?_, ok3, h a ha, .inr ⟨_, rfl⟩, .inr ⟨_, rfl⟩, hN a ha⟩
      rcases h6 with rfl | ⟨d6, rfl⟩ <;> rcases h7 with rfl | ⟨d7, rfl⟩ <;> rcases h8 with rfl | ⟨d8, rfl⟩ <;> simp [L_u_law_question_1, p0, ne, d0, q0, app_one _ _ hz, encS_app] <;> simp [encS]
    · obtain ⟨a, μ', t1, t2, t3, t4, t5⟩ := tgo ok2
      have cr2 : (r == 0) = false := by simpa using cr
      refine ⟨a, some (.fz tb), some (.fz (.int (ar tb))), μ', ?_, t2, t3, .inr ⟨_, rfl⟩, .inr ⟨_, rfl⟩, t5⟩
      rcases h6 with rfl | ⟨d6, rfl⟩ <;> rcases h7 with rfl | ⟨d7, rfl⟩ <;> rcases h8 with rfl | ⟨d8, rfl⟩ <;> simp [L_u_law_question_1, p0, ne, d0, cr2, cr, t1, app_one _ _ hz, encS_app] <;> simp [encS, At.enc, t4]
theorem l_q_loop {s1 s2 : Option Sl} {nl : List Str} (nU : NmsU nl) (n0 : 0 < nl.length) (n1 : nl.length < 1000) : ∀ (ds : List D) {μ : List (Int × Int)}, Ok μ → ∀ {as : List At}, (∀ a ∈ as, a.ok) → (∀ a ∈ as, ∀ x ∈ nms a.ts, x ∈ nl) → as.length + ds.length < 100 → ∀ {o6 o7 o8 : Option Sl}, Pl o6 → Pl o7 → Pl o8 →
    ∃ as' o6' o7' o8' μ', forL (tgN 6) L_u_law_question_1 ds ⟨[some (.pt 0), s1, s2, some (.ow (.list (nl.map .str))), some (.ow (.list Vs)), some (.ow (.list (encS as))), o6, o7, o8, none, none, none, none, none], μ⟩ =
      some (.nx, ⟨[some (.pt 0), s1, s2, some (.ow (.list (nl.map .str))), some (.ow (.list Vs)), some (.ow (.list (encS as'))), o6', o7', o8', none, none, none, none, none], μ'⟩) ∧ Ok μ' ∧ (∀ a ∈ as', a.ok) ∧ as'.length = as.length + ds.length ∧ Pl o7' ∧ ∀ a ∈ as', ∀ x ∈ nms a.ts, x ∈ nl
  | [], μ, ok, as, h, hN, hl, o6, o7, o8, h6, h7, h8 => ⟨as, o6, o7, o8, μ, rfl, ok, h, rfl, h7, hN⟩
  | d :: ds, μ, ok, as, h, hN, hl, o6, o7, o8, h6, h7, h8 => by
    simp only [List.length_cons] at hl
    obtain ⟨a, o7', o8', μ1, e1, ok1, a1, h7', h8', aN⟩ := l_q_step (s1 := s1) (s2 := s2) ok nU n0 n1 h hN (by omega) h6 h7 h8 d
    obtain ⟨as', p6, p7, p8, μ2, e2, ok2, a2, l2, k7, kN⟩ := l_q_loop (s1 := s1) (s2 := s2) nU n0 n1 ds ok1 (as := as ++ [a]) (fun x hx => (List.mem_append.mp hx).elim (h x) fun q => by rw [List.mem_singleton.mp q]; exact a1) (fun x hx => (List.mem_append.mp hx).elim (hN x) fun q => by rw [List.mem_singleton.mp q]; exact aN) (by simp; omega) (.inr ⟨d, rfl⟩) h7' h8'
    refine ⟨as', p6, p7, p8, μ2, ?_, ok2, a2, by simp at l2 ⊢; omega, k7, kN⟩
    rw [forL_next e1]
    exact e2
end K63
end
section
set_option Elab.async false
set_option linter.all false
set_option maxRecDepth 100000
set_option maxHeartbeats 4000000
namespace K63
open PySem PySem.Spec PyProof.Rows L2 DV PySem.W
def th1 (nl : List Str) (t : D) : Option Str := match t with
  | .str x => if x ∈ nl then some x else none
  | _ => none
def thS (nl : List Str) (as : List At) : List Str := as.flatMap fun a => a.ts.filterMap (th1 nl)
theorem U_cases : ∀ d ∈ U, (∃ x, d = .str x) ∨ ∃ i, d = .int i := by
  refine U_ind ⟨?_, ?_, ?_, ?_, ?_, ?_, ?_, ?_, ?_, ?_, ?_, ?_, ?_, ?_, ?_, ?_, ?_, ?_, ?_, ?_, ?_, ?_, ?_, ?_, ?_, ?_, ?_, ?_, ?_, ?_, ?_⟩ <;> first | exact .inl ⟨_, rfl⟩ | exact .inr ⟨_, rfl⟩
theorem in_nl {nl : List Str} (nU : NmsU nl) {t : D} (ht : t ∈ U) : inG t (.list (nl.map .str)) = some (.fz (.bool (th1 nl t).isSome)) := by
  rcases U_cases t ht with ⟨x, rfl⟩ | ⟨i, rfl⟩
  · unfold inG
    rw [isIn_names ht nU]
    by_cases c : x ∈ nl <;> simp [th1, c]
  · have e : isIn (.int i) (.list (nl.map .str)) = some ((nl.map PyData.str).any fun z => PyData.eqv z (.int i)) := by
      show (if SeqAt.shaped (.int i) = true ∧ SeqAt.shaped (.list (nl.map .str)) = true then _ else none) = _
      rw [if_pos ⟨U_shp ht, nmsU_shp nU⟩]
    have e2 : ((nl.map PyData.str).any fun z => PyData.eqv z (.int i)) = false := by
      rw [List.any_eq_false]
      intro z hz
      obtain ⟨y, _, rfl⟩ := List.mem_map.mp hz
      simp [PyData.eqv]
    unfold inG
    rw [e, e2]; rfl
theorem th_filter {nl : List Str} : ∀ {ts : List D}, (ts.filterMap fun t => if (th1 nl t).isSome = true then some t else none) = (ts.filterMap (th1 nl)).map .str
  | [] => rfl
  | t :: ts => by
    rw [List.filterMap_cons, List.filterMap_cons, th_filter (ts := ts)]
    cases q : th1 nl t with
    | none => simp
    | some x =>
      have : t = .str x := by
        cases t with
        | str y =>
          unfold th1 at q
          simp only at q
          split at q
          · cases q; rfl
          · cases q
        | _ => cases q
      simp [this]
theorem th1_some {nl : List Str} {t : D} {x : Str} (q : th1 nl t = some x) : t = .str x ∧ x ∈ nl := by
  cases t with
  | str y =>
    unfold th1 at q
    simp only at q
    split at q
    · cases q; exact ⟨rfl, by assumption⟩
    · cases q
  | _ => cases q
theorem thS_len : ∀ {as : List At} {nl : List Str}, (∀ a ∈ as, a.ok) → (thS nl as).length ≤ 3 * as.length
  | [], _, _ => Nat.le_refl _
  | a :: as, nl, h => by
    have ih := thS_len (as := as) (nl := nl) fun b hb => h b (List.mem_cons_of_mem _ hb)
    have ha := h a (List.mem_cons_self ..)
    have h3 := ar_le a.tb ha.1
    have h4 := ha.2.2
    have h5 := List.length_filterMap_le (th1 nl) a.ts
    show (a.ts.filterMap (th1 nl) ++ thS nl as).length ≤ _
    simp only [List.length_append, List.length_cons]
    omega
theorem l_q_loop2 {μ : List (Int × Int)} {s0 s1 s2 s4 s5 o6 o8 : Option Sl} {nl : List Str} (nU : NmsU nl) : ∀ (as : List At) (acc : List Str), (∀ a ∈ as, a.ok) → acc.length + 3 * as.length ≤ 1000 → ∀ {o7 o10 : Option Sl}, Pl o7 → Pl o10 →
    ∃ o7' o10', forL (tgT 2 (tgCons (tgN 7) (tgCons (tgN 10) tgNil))) L_u_law_question_2 (encS as) ⟨[s0, s1, s2, some (.ow (.list (nl.map .str))), s4, s5, o6, o7, o8, some (.ow (.list (acc.map .str))), o10, none, none, none], μ⟩ =
      some (.nx, ⟨[s0, s1, s2, some (.ow (.list (nl.map .str))), s4, s5, o6, o7', o8, some (.ow (.list ((acc ++ thS nl as).map .str))), o10', none, none, none], μ⟩)
  | [], acc, _, _, o7, o10, _, _ => ⟨o7, o10, by simp [thS, encS, forL_nil]⟩
  | a :: as, acc, h, hl, o7, o10, h7, h10 => by
    have ha := h a (List.mem_cons_self ..)
    have h3 := ar_le a.tb ha.1
    have h4 := ha.2.2
    have h5 := List.length_filterMap_le (th1 nl) a.ts
    simp only [List.length_cons] at hl
    obtain ⟨p7, p10, ih⟩ := l_q_loop2 (μ := μ) (s0 := s0) (s1 := s1) (s2 := s2) (s4 := s4) (s5 := s5) (o6 := o6) (o8 := o8) nU as (acc ++ a.ts.filterMap (th1 nl)) (fun y hy => h y (List.mem_cons_of_mem _ hy)) (by simp only [List.length_append]; omega) (.inr ⟨a.tb, rfl⟩) (.inr ⟨.tuple a.ts, rfl⟩)
    refine ⟨p7, p10, ?_⟩
    show forL _ _ (a.enc :: encS as) _ = _
    rw [forL_next (e2 := ⟨[s0, s1, s2, some (.ow (.list (nl.map .str))), s4, s5, o6, some (.fz a.tb), o8, some (.ow (.list ((acc ++ a.ts.filterMap (th1 nl)).map .str))), some (.fz (.tuple a.ts)), none, none, none], μ⟩)]
    · rw [ih, List.append_assoc]
      simp [thS]
    · have hsz : acc.length + (a.ts.filterMap (th1 nl)).length ≤ 100000 := by omega
      have key : L_u_law_question_2 ⟨[s0, s1, s2, some (.ow (.list (nl.map .str))), s4, s5, o6, some (.fz a.tb), o8, some (.ow (.list (acc.map .str))), some (.fz (.tuple a.ts)), none, none, none], μ⟩ = some (.nx, ⟨[s0, s1, s2, some (.ow (.list (nl.map .str))), s4, s5, o6, some (.fz a.tb), o8, some (.ow (.list ((acc ++ a.ts.filterMap (th1 nl)).map .str))), some (.fz (.tuple a.ts)), none, none, none], μ⟩) := by
        simp [L_u_law_question_2]
        rw [lcR_pure (fun t => if (th1 nl t).isSome = true then some t else none) rfl rfl]
        · rw [th_filter]
          simp [hsz]
        · intro d hd
          have hi := in_nl nU (ha.2.1 d hd)
          by_cases c : (th1 nl d).isSome = true <;> simp [wipeR, lock1, C_u_law_question_1, hi, c]
      rcases h7 with rfl | ⟨d, rfl⟩ <;> rcases h10 with rfl | ⟨d2, rfl⟩ <;> simp [key, At.enc]
def Nl (r : Int) : List Str := (["x", "y", "z", "u"] : List Str).take (2 + r.toNat)
theorem nl_ok {r : Int} (h0 : 0 ≤ r) (h1 : r < 3) : NmsU (Nl r) ∧ 0 < (Nl r).length ∧ (Nl r).length < 1000 ∧ slG (.list [.str "x", .str "y", .str "z", .str "u"]) none (some (2 + r)) = some (.fr (.list ((Nl r).map .str))) := by
  have : r = 0 ∨ r = 1 ∨ r = 2 := by omega
  rcases this with rfl | rfl | rfl
  · exact ⟨fun x hx => (by simp [Nl] at hx; rcases hx with rfl | rfl <;> simp [U]), by decide, by decide, rfl⟩
  · exact ⟨fun x hx => (by simp [Nl] at hx; rcases hx with rfl | rfl | rfl <;> simp [U]), by decide, by decide, rfl⟩
  · exact ⟨fun x hx => (by simp [Nl] at hx; rcases hx with rfl | rfl | rfl | rfl <;> simp [U]), by decide, by decide, rfl⟩
theorem l_question_ok {μ : List (Int × Int)} (ok : Ok μ) {g : Int} (g0 : 0 ≤ g) (g1 : g < 3) : ∃ (q : Qn) (μ' : List (Int × Int)), F_u_law_question [.pt 0, .fz (.int 4), .fz (.int g)] μ = some (.fz q.enc, μ') ∧ Ok μ' ∧ q.ok ∧ q.as.length ≤ 4 ∧ ∃ ns : List Str, ns.length ≤ 4 ∧ ∀ x ∈ namesA q.as, x ∈ ns := by
  obtain ⟨r, μ1, e1, ok1, r0, r1⟩ := draw_ok ok (n := 3) (by decide) (by decide)
  have d1 : ∀ ρ, cal F_u_law_draw [.pt 0, .fz (.int 3)] ⟨ρ, μ⟩ = some (.fz (.int r), ⟨ρ, μ1⟩) := fun ρ => cal_fz e1
  obtain ⟨nU, n0, n1, ns⟩ := nl_ok r0 r1
  obtain ⟨k, μ2, e2, ok2, k0, k1⟩ := draw_ok ok1 (n := 4) (by decide) (by decide)
  have d2 : ∀ ρ, cal F_u_law_draw [.pt 0, .fz (.int 4)] ⟨ρ, μ1⟩ = some (.fz (.int k), ⟨ρ, μ2⟩) := fun ρ => cal_fz e2
  have hrg : ∀ e, rng1M (consM (op2 addG (fzM (.int 1)) (callM F_u_law_draw (consM (slM 0) (consM (slM 1) (ret []))))) (ret [])) ⟨some (.pt 0) :: some (.fz (.int 4)) :: e, μ1⟩ = some ((rngL 0 (1 + k).toNat, none), ⟨some (.pt 0) :: some (.fz (.int 4)) :: e, μ2⟩) := fun e => rng1_ap _ _ _ [.fz (.int (1 + k))] (1 + k) (by simp [d2, add_int]) rfl rfl (by omega) (by omega)
  obtain ⟨as, o6, o7, o8, μ3, l1, ok3, a1, al, h7, aN⟩ := l_q_loop (s1 := some (.fz (.int 4))) (s2 := some (.fz (.int g))) nU n0 n1 (rngL 0 (1 + k).toNat) ok2 (as := []) (fun a ha => (by cases ha)) (fun a ha => (by cases ha)) (by simp [rngL_len]; omega) (o6 := none) (o7 := none) (o8 := none) (.inl rfl) (.inl rfl) (.inl rfl)
  rw [rngL_len] at al
  simp only [List.length_nil] at al
  obtain ⟨p7, p10, l2⟩ := l_q_loop2 (μ := μ3) (s0 := some (.pt 0)) (s1 := some (.fz (.int 4))) (s2 := some (.fz (.int g))) (s4 := some (.ow (.list Vs))) (s5 := some (.bo (.list (encS as)))) (o6 := o6) (o8 := o8) nU as [] a1 (by simp; omega) (o10 := none) h7 (.inl rfl)
  rw [List.nil_append, List.map_nil] at l2
  have tl := thS_len (nl := Nl r) a1
  have th63 : (thS (Nl r) as).length < 63 := by omega
  have thU : NmsU (sset (thS (Nl r) as)) := sset_U fun x hx => by
    obtain ⟨a, ha, h2⟩ := List.mem_flatMap.mp hx
    obtain ⟨t, ht, h3⟩ := List.mem_filterMap.mp h2
    exact nU x (th1_some h3).2
  have thl := ne_nilS _ thU
  have sl : (sset (thS (Nl r) as)).length < 1000000 := by
    have := len_sset (thS (Nl r) as)
    omega
  obtain ⟨hd, μ4, h1, ok4, h3⟩ := lcR_rel (own := [12]) (t := tgN 12) (c := DV.ret true) (el := C_u_law_question_2) Ok (fun _ o => o ∈ (sset (thS (Nl r) as)).map PyData.str ∨ o ∈ Vs) (ds := rngL 0 g.toNat) (ρ := [some (.pt 0), some (.fz (.int 4)), some (.fz (.int g)), some (.ow (.list ((Nl r).map .str))), some (.ow (.list Vs)), some (.ow (.list (encS as))), o6, p7, o8, some (.ow (.list ((sset (thS (Nl r) as)).map .str))), p10, none, none, none]) (μ := μ3) (by rfl) ok3 (by
    intro d _ μ ok
    obtain ⟨v, hv1, μv, ev, okv⟩ := pick_ok ok (s := .bo (.list Vs)) (.inr rfl) (by decide) (by decide)
    have v0 : ∀ ρ, cal F_u_law_pick [.pt 0, .bo (.list Vs)] ⟨ρ, μ⟩ = some (.fz v, ⟨ρ, μv⟩) := fun ρ => cal_fz ev
    by_cases c : sset (thS (Nl r) as) = []
    · have c2 : decide (sset (thS (Nl r) as) ≠ []) = false := by simp [c]
      rw [c2] at thl
      refine ⟨v, μv, ?_, okv, .inr hv1⟩
      simp [wipeR, C_u_law_question_2, thl, v0]
    · have c2 : decide (sset (thS (Nl r) as) ≠ []) = true := by simp [c]
      rw [c2] at thl
      obtain ⟨w, μ1, e1, ok1, r0, r1⟩ := draw_ok ok (n := 7) (by decide) (by decide)
      have e0 : ∀ ρ, cal F_u_law_draw [.pt 0, .fz (.int 7)] ⟨ρ, μ⟩ = some (.fz (.int w), ⟨ρ, μ1⟩) := fun ρ => cal_fz e1
      by_cases cw : 0 < w
      · obtain ⟨x, hx1, μ2, e2, ok2⟩ := pick_ok ok1 (s := .bo (.list ((sset (thS (Nl r) as)).map .str))) (.inr rfl) (by have := List.length_pos_iff.mpr c; simpa using this) (by simpa using sl)
        have p0 : ∀ ρ, cal F_u_law_pick [.pt 0, .bo (.list ((sset (thS (Nl r) as)).map .str))] ⟨ρ, μ1⟩ = some (.fz x, ⟨ρ, μ2⟩) := fun ρ => cal_fz e2
        refine ⟨x, μ2, ?_, ok2, .inl hx1⟩
        simp [wipeR, C_u_law_question_2, thl, e0, p0, cw]
      · obtain ⟨v, hv1, μv, ev, okv⟩ := pick_ok ok1 (s := .bo (.list Vs)) (.inr rfl) (by decide) (by decide)
        have v0 : ∀ ρ, cal F_u_law_pick [.pt 0, .bo (.list Vs)] ⟨ρ, μ1⟩ = some (.fz v, ⟨ρ, μv⟩) := fun ρ => cal_fz ev
        refine ⟨v, μv, ?_, okv, .inr hv1⟩
        simp [wipeR, C_u_law_question_2, thl, e0, v0, cw])
  have hrg2 : ∀ e, rng1M (consM (slM 2) (ret [])) ⟨some (.pt 0) :: some (.fz (.int 4)) :: some (.fz (.int g)) :: e, μ3⟩ = some ((rngL 0 g.toNat, none), ⟨some (.pt 0) :: some (.fz (.int 4)) :: some (.fz (.int g)) :: e, μ3⟩) := fun e => rng1_ap _ _ _ [.fz (.int g)] g rfl rfl rfl (by omega) (by omega)
  have hlen : hd.length ≤ 2 := by
    have := all2_len h3
    rw [rngL_len] at this
    omega
  have hmem := all2_mem h3
  refine ⟨⟨hd, as⟩, μ4, ?_, ok4, ⟨a1, ?_, ?_, fun t ht => ?_, hlen, fun x hx => ?_⟩, ?_, Nl r, ?_, fun x hx => ?_⟩
  · have z := tk_ok ok ok4
    have l0 : encS [] = [] := rfl
    rw [l0] at l1
    unfold Vs at l1 l2 h1
    simp [F_u_law_question, B_u_law_question, d1, add_int, ns, hrg, forR_none, l1, forR_ap, lockable, lock1, l2, unlock1, ssetG, strL_map, th63, hrg2, h1, tupleG, z, Qn.enc]
  · show 1 ≤ as.length; omega
  · show as.length ≤ 5; omega
  · rcases hmem t ht with q | q
    · obtain ⟨y, hy, rfl⟩ := List.mem_map.mp q
      exact thU y hy
    · exact vsU t q
  · obtain ⟨t, ht, e⟩ := List.mem_filterMap.mp hx
    rcases hmem t ht with q | q
    · obtain ⟨y, hy, rfl⟩ := List.mem_map.mp q
      obtain ⟨a, ha, h2⟩ := List.mem_flatMap.mp ((mem_sset y _).mp hy)
      obtain ⟨t, ht, h3⟩ := List.mem_filterMap.mp h2
      obtain ⟨rfl, _⟩ := th1_some h3
      exact List.mem_flatMap.mpr ⟨a, ha, List.mem_filterMap.mpr ⟨_, ht, e⟩⟩
    · rw [vs_nm t q] at e; cases e
  · show as.length ≤ 4; omega
  · show ((["x", "y", "z", "u"] : List Str).take (2 + r.toNat)).length ≤ 4
    rw [List.length_take]
    exact Nat.min_le_right _ _
  · obtain ⟨a, ha, h2⟩ := List.mem_flatMap.mp hx
    exact aN a ha x h2
end K63
end
section
set_option Elab.async false
set_option linter.all false
set_option maxRecDepth 100000
set_option maxHeartbeats 4000000
namespace K63
open PySem PySem.Spec PyProof.Rows L2 DV PySem.W
def cut_to (xs : List D) (i : Nat) (h : i ≤ xs.length) : slG (.list xs) none (some (i : Int)) = some (.fr (.list (xs.take i))) := by
  show some (Rs.fr (.list (cutL xs none (some (i : Int))))) = _
  unfold cutL
  rw [HT.sIx_none, HT.sIx_nat, Nat.min_eq_left h]; rfl
theorem cut_from (xs : List D) (i : Nat) (h : i ≤ xs.length) : slG (.list xs) (some (i : Int)) none = some (.fr (.list (xs.drop i))) := by
  show some (Rs.fr (.list (cutL xs (some (i : Int)) none))) = _
  unfold cutL
  rw [HT.sIx_none, HT.sIx_nat, Nat.min_eq_left h, List.take_of_length_le (by simp)]
theorem cutT_to (xs : List D) (i : Nat) (h : i ≤ xs.length) : slG (.tuple xs) none (some (i : Int)) = some (.fz (.tuple (xs.take i))) := by
  show some (Rs.fz (.tuple (cutL xs none (some (i : Int))))) = _
  unfold cutL
  rw [HT.sIx_none, HT.sIx_nat, Nat.min_eq_left h]; rfl
theorem cutT_from (xs : List D) (i : Nat) (h : i ≤ xs.length) : slG (.tuple xs) (some (i : Int)) none = some (.fz (.tuple (xs.drop i))) := by
  show some (Rs.fz (.tuple (cutL xs (some (i : Int)) none))) = _
  unfold cutL
  rw [HT.sIx_none, HT.sIx_nat, Nat.min_eq_left h, List.take_of_length_le (by simp)]
theorem atI_nat {α : Type} (xs : List α) (i : Nat) : atI xs (i : Int) = xs[i]? := by
  unfold atI ixN
  rw [if_pos (by omega)]
  by_cases c : i < xs.length
  · rw [if_pos (by omega)]; rfl
  · rw [if_neg (by omega), List.getElem?_eq_none (by omega)]; rfl
instance : Inhabited At := ⟨⟨.none, []⟩⟩
abbrev Pr := List At × List At
def encP (p : Pr) : D := .tuple [.list (encS p.1), .list (encS p.2)]
def stp1 (p : Pr) : List Pr := (List.range p.2.length).map fun i => (p.1 ++ [p.2.getD i default], p.2.eraseIdx i)
def stp (ps : List Pr) : List Pr := ps.flatMap stp1
theorem seq_el {μ : List (Int × Int)} {ρ0 ρ1 ρ2 ρ3 : Option Sl} {p : Pr} (h1 : p.1.length ≤ 900) (h2 : p.2.length ≤ 900) {i : Nat} (hi : i < p.2.length) :
    lcW [6] (tgN 6) (DV.ret true) C_u_law_sequences_1 (.int (0 + (i : Int))) ⟨[ρ0, ρ1, ρ2, ρ3, some (.fz (.list (encS p.1))), some (.fz (.list (encS p.2))), none], μ⟩ = some (some (encP (p.1 ++ [p.2.getD i default], p.2.eraseIdx i)), ⟨[ρ0, ρ1, ρ2, ρ3, some (.fz (.list (encS p.1))), some (.fz (.list (encS p.2))), none], μ⟩) := by
  have el : (encS p.2).length = p.2.length := by simp [encS]
  have el1 : (encS p.1).length = p.1.length := by simp [encS]
  have e0 : (0 : Int) + (i : Int) = (i : Int) := by omega
  have ix : ixG (.list (encS p.2)) (.int (i : Int)) = some (.fz (p.2.getD i default).enc) := by
    show (atI (encS p.2) (i : Int)).map _ = _
    rw [atI_nat]
    have : p.2[i]? = some p.2[i] := List.getElem?_eq_getElem hi
    simp [encS, this]
  have c1 := cut_to (encS p.2) i (by omega)
  have c2 := cut_from (encS p.2) (i + 1) (by omega)
  have c3 : ((i : Int) + 1) = ((i + 1 : Nat) : Int) := by omega
  have a1 := add_one (encS p.1) (p.2.getD i default).enc (by omega)
  have a2 : addG (.list ((encS p.2).take i)) (.list ((encS p.2).drop (i + 1))) = some (.fr (.list (encS (p.2.eraseIdx i)))) := by
    show (if _ then _ else none) = _
    rw [if_pos (by simp; omega), List.eraseIdx_eq_take_drop_succ]
    simp [encS]
  rw [← c3] at c2
  have ea : encS (p.1 ++ [p.2.getD i default]) = encS p.1 ++ [(p.2.getD i default).enc] := by simp [encS]
  unfold encP
  rw [ea]
  generalize p.2.getD i default = x at ix a1
  generalize encS (p.2.eraseIdx i) = ys at a2
  simp only [e0]
  simp [wipeR, C_u_law_sequences_1, ix, c1, c2, add_int, a1, a2]
theorem seq_inner {μ : List (Int × Int)} {ρ0 ρ1 ρ2 : Option Sl} : ∀ (ps acc : List Pr), (∀ p ∈ ps, p.1.length ≤ 900 ∧ p.2.length ≤ 5) → acc.length + 5 * ps.length ≤ 90000 → ∀ {o4 o5 : Option Sl}, Pl o4 → Pl o5 →
    ∃ o4' o5', forL (tgT 2 (tgCons (tgN 4) (tgCons (tgN 5) tgNil))) L_u_law_sequences_1 (ps.map encP) ⟨[ρ0, ρ1, ρ2, some (.ow (.list (acc.map encP))), o4, o5, none], μ⟩ =
      some (.nx, ⟨[ρ0, ρ1, ρ2, some (.ow (.list ((acc ++ stp ps).map encP))), o4', o5', none], μ⟩) ∧ Pl o4' ∧ Pl o5'
  | [], acc, _, _, o4, o5, h4, h5 => ⟨o4, o5, by rw [show stp [] = [] from rfl, List.append_nil]; rfl, h4, h5⟩
  | p :: ps, acc, h, hl, o4, o5, h4, h5 => by
    obtain ⟨p1, p2⟩ := h p (List.mem_cons_self ..)
    simp only [List.length_cons] at hl
    have sl : (stp1 p).length = p.2.length := by simp [stp1]
    obtain ⟨o4', o5', ih, k4, k5⟩ := seq_inner (μ := μ) (ρ0 := ρ0) (ρ1 := ρ1) (ρ2 := ρ2) ps (acc ++ stp1 p) (fun q hq => h q (List.mem_cons_of_mem _ hq)) (by simp only [List.length_append]; omega) (.inr ⟨.list (encS p.1), rfl⟩) (.inr ⟨.list (encS p.2), rfl⟩)
    refine ⟨o4', o5', ?_, k4, k5⟩
    rw [List.map_cons, forL_next (e2 := ⟨[ρ0, ρ1, ρ2, some (.ow (.list ((acc ++ stp1 p).map encP))), some (.fz (.list (encS p.1))), some (.fz (.list (encS p.2))), none], μ⟩)]
    · rw [ih, List.append_assoc]; rfl
    · have hr : rng1M (consM (opN (g1 lenG) (consM (slM 5) (ret []))) (ret [])) ⟨[ρ0, ρ1, ρ2, some (.ow (.list (acc.map encP))), some (.fz (.list (encS p.1))), some (.fz (.list (encS p.2))), none], μ⟩ = some ((rngL 0 p.2.length, none), ⟨[ρ0, ρ1, ρ2, some (.ow (.list (acc.map encP))), some (.fz (.list (encS p.1))), some (.fz (.list (encS p.2))), none], μ⟩) := rng1_ap _ _ _ [.fz (.int p.2.length)] p.2.length (by simp [encS]) rfl rfl (by omega) (by omega)
      have lc : lcR [6] (tgN 6) (DV.ret true) C_u_law_sequences_1 (rngL 0 p.2.length, none) ⟨[ρ0, ρ1, ρ2, some (.ow (.list (acc.map encP))), some (.fz (.list (encS p.1))), some (.fz (.list (encS p.2))), none], μ⟩ = some (.fr (.list ((stp1 p).map encP)), ⟨[ρ0, ρ1, ρ2, some (.ow (.list (acc.map encP))), some (.fz (.list (encS p.1))), some (.fz (.list (encS p.2))), none], μ⟩) := by
        have := lcR_mapG (own := [6]) (t := tgN 6) (c := DV.ret true) (el := C_u_law_sequences_1) (fun i : Nat => PyData.int (0 + (i : Int))) (fun i : Nat => encP (p.1 ++ [p.2.getD i default], p.2.eraseIdx i)) (l := List.range p.2.length) (lk := none) (ρ := [ρ0, ρ1, ρ2, some (.ow (.list (acc.map encP))), some (.fz (.list (encS p.1))), some (.fz (.list (encS p.2))), none]) (μ := μ) rfl rfl fun i hi => seq_el p1 (by omega) (List.mem_range.mp hi)
        rw [show (stp1 p).map encP = (List.range p.2.length).map fun i : Nat => encP (p.1 ++ [p.2.getD i default], p.2.eraseIdx i) by simp [stp1]]
        exact this
      have hsz : acc.length + (stp1 p).length ≤ 100000 := by omega
      have key : L_u_law_sequences_1 ⟨[ρ0, ρ1, ρ2, some (.ow (.list (acc.map encP))), some (.fz (.list (encS p.1))), some (.fz (.list (encS p.2))), none], μ⟩ = some (.nx, ⟨[ρ0, ρ1, ρ2, some (.ow (.list ((acc ++ stp1 p).map encP))), some (.fz (.list (encS p.1))), some (.fz (.list (encS p.2))), none], μ⟩) := by
        simp [L_u_law_sequences_1, hr, lc, hsz]
      rcases h4 with rfl | ⟨d, rfl⟩ <;> rcases h5 with rfl | ⟨d2, rfl⟩ <;> simp [key, encP]
/-- whole sequences so far -/
structure Sq (as : List At) (m : Nat) (ps : List Pr) : Prop where
  s : ∀ p ∈ ps, (p.1 ++ p.2).Perm as ∧ p.2.length = m
  c : ∀ q : List At, q.Perm as → ∃ p ∈ ps, ∃ t, q = p.1 ++ t ∧ t.Perm p.2
theorem sq_step {as : List At} {m : Nat} {ps : List Pr} (h : Sq as (m + 1) ps) : Sq as m (stp ps) where
  s := fun p hp => by
    obtain ⟨q, hq, h2⟩ := List.mem_flatMap.mp hp
    obtain ⟨i, hi, rfl⟩ := List.mem_map.mp h2
    have hi := List.mem_range.mp hi
    obtain ⟨s1, s2⟩ := h.s q hq
    have e : q.2[i]? = some (q.2.getD i default) := by simp [List.getElem?_eq_getElem hi]
    have pe := perm_erase q.2 i _ e
    refine ⟨?_, ?_⟩
    · show ((q.1 ++ [q.2.getD i default]) ++ q.2.eraseIdx i).Perm as
      rw [List.append_assoc]
      exact (List.Perm.append_left q.1 pe.symm).trans s1
    · show (q.2.eraseIdx i).length = m
      have := pe.length_eq
      simp only [List.length_cons] at this
      omega
  c := fun q hq => by
    obtain ⟨p, hp, t, rfl, ht⟩ := h.c q hq
    obtain ⟨s1, s2⟩ := h.s p hp
    cases t with
    | nil => have := ht.length_eq; simp at this; omega
    | cons x t =>
      have hx : x ∈ p.2 := ht.mem_iff.mp (List.mem_cons_self ..)
      obtain ⟨i, hi, e⟩ := List.mem_iff_getElem.mp hx
      have e1 : p.2[i]? = some x := by rw [List.getElem?_eq_getElem hi, e]
      have e2 : p.2.getD i default = x := by simp [List.getD_eq_getElem?_getD, e1]
      refine ⟨(p.1 ++ [p.2.getD i default], p.2.eraseIdx i), List.mem_flatMap.mpr ⟨p, hp, List.mem_map.mpr ⟨i, List.mem_range.mpr hi, rfl⟩⟩, t, ?_, ?_⟩
      · rw [e2]; simp
      · exact (ht.trans (perm_erase p.2 i x e1)).cons_inv
theorem stp_len : ∀ {ps : List Pr}, (∀ p ∈ ps, p.2.length ≤ 5) → (stp ps).length ≤ 5 * ps.length
  | [], _ => by simp [stp]
  | p :: ps, h => by
    have ih := stp_len (ps := ps) fun q hq => h q (List.mem_cons_of_mem _ hq)
    have hp := h p (List.mem_cons_self ..)
    show (stp1 p ++ stp ps).length ≤ _
    have sl : (stp1 p).length = p.2.length := by simp [stp1]
    simp only [List.length_append, List.length_cons]
    omega
theorem seq_outer {μ : List (Int × Int)} {ρ0 : Option Sl} {as : List At} (ha : as.length ≤ 5) : ∀ (ds : List D) (ps : List Pr), Sq as ds.length ps → ps.length * 5 ^ ds.length ≤ 4000 → ∀ {o2 o3 o4 o5 : Option Sl}, Pl o2 → Pw o3 → Pl o4 → Pl o5 →
    ∃ ps' o2' o3' o4' o5', forL (tgN 2) L_u_law_sequences_2 ds ⟨[ρ0, some (.ow (.list (ps.map encP))), o2, o3, o4, o5, none], μ⟩ =
      some (.nx, ⟨[ρ0, some (.ow (.list (ps'.map encP))), o2', o3', o4', o5', none], μ⟩) ∧ Sq as 0 ps' ∧ Pl o4' ∧ Pl o5'
  | [], ps, h, _, o2, o3, o4, o5, h2, h3, h4, h5 => ⟨ps, o2, o3, o4, o5, rfl, h, h4, h5⟩
  | d :: ds, ps, h, hl, o2, o3, o4, o5, h2, h3, h4, h5 => by
    have hp : ∀ p ∈ ps, p.1.length ≤ 900 ∧ p.2.length ≤ 5 := fun p hp => by
      have := (h.s p hp).1.length_eq
      simp only [List.length_append] at this
      omega
    have sl := stp_len fun p q => (hp p q).2
    simp only [List.length_cons] at hl h
    have pos : 0 < 5 ^ ds.length := Nat.pow_pos (by decide)
    have e5 : 5 ^ (ds.length + 1) = 5 ^ ds.length * 5 := Nat.pow_succ ..
    have hl2 : (stp ps).length * 5 ^ ds.length ≤ 4000 := by
      refine Nat.le_trans (Nat.mul_le_mul_right _ sl) ?_
      rw [e5, Nat.mul_comm (5 ^ ds.length) 5, ← Nat.mul_assoc, Nat.mul_comm ps.length 5] at hl
      exact hl
    have hl3 : ps.length ≤ 4000 := Nat.le_trans (Nat.le_mul_of_pos_right _ (Nat.pow_pos (by decide))) hl
    obtain ⟨q4, q5, l1, h4', h5'⟩ := seq_inner (μ := μ) (ρ0 := ρ0) (ρ1 := some (.bo (.list (ps.map encP)))) (ρ2 := some (.fz d)) ps [] hp (by simp; omega) h4 h5
    rw [List.nil_append, List.map_nil] at l1
    obtain ⟨ps', p2, p3, p4, p5, ih, s', k4, k5⟩ := seq_outer (μ := μ) (ρ0 := ρ0) ha ds (stp ps) (sq_step h) hl2 (o2 := some (.fz d)) (o3 := none) (.inr ⟨d, rfl⟩) (.inl rfl) h4' h5'
    refine ⟨ps', p2, p3, p4, p5, ?_, s', k4, k5⟩
    rw [forL_next (e2 := ⟨[ρ0, some (.ow (.list ((stp ps).map encP))), some (.fz d), none, q4, q5, none], μ⟩)]
    · exact ih
    · have key : L_u_law_sequences_2 ⟨[ρ0, some (.ow (.list (ps.map encP))), some (.fz d), o3, o4, o5, none], μ⟩ = some (.nx, ⟨[ρ0, some (.ow (.list ((stp ps).map encP))), some (.fz d), none, q4, q5, none], μ⟩) := by
        rcases h3 with rfl | ⟨d3, rfl⟩ | ⟨d3, rfl⟩ <;> simp [L_u_law_sequences_2, forR_ap, lockable, lock1, l1, unlock1]
      rcases h2 with rfl | ⟨d2, rfl⟩ <;> simp [key]
theorem l_sequences_ok (μ : List (Int × Int)) {as : List At} (ha : as.length ≤ 5) : ∃ ps : List (List At), F_u_law_sequences [.fz (.tuple (encS as))] μ = some (.fr (.list (ps.map fun p => .list (encS p))), μ) ∧ ∀ q, q ∈ ps ↔ q.Perm as := by
  have s0 : Sq as as.length [([], as)] := ⟨fun p hp => by rw [List.mem_singleton.mp hp]; exact ⟨List.Perm.refl _, rfl⟩, fun q hq => ⟨_, List.mem_singleton.mpr rfl, q, rfl, hq⟩⟩
  have rl := rngL_len as.length
  have p5 : 5 ^ as.length ≤ 5 ^ 5 := Nat.pow_le_pow_right (by decide) ha
  obtain ⟨ps, o2, o3, o4, o5, l1, S, h4, h5⟩ := seq_outer (μ := μ) (ρ0 := some (.fz (.tuple (encS as)))) ha (rngL 0 as.length) [([], as)] (by rw [rl]; exact s0) (by rw [rl]; simp; omega) (o2 := none) (o3 := none) (o4 := none) (o5 := none) (.inl rfl) (.inl rfl) (.inl rfl) (.inl rfl)
  refine ⟨ps.map Prod.fst, ?_, fun q => ⟨fun hq => ?_, fun hq => ?_⟩⟩
  · have hr : ∀ ρ, rng1M (consM (opN (g1 lenG) (consM (slM 0) (ret []))) (ret [])) ⟨some (.fz (.tuple (encS as))) :: ρ, μ⟩ = some ((rngL 0 as.length, none), ⟨some (.fz (.tuple (encS as))) :: ρ, μ⟩) := fun ρ => rng1_ap _ _ _ [.fz (.int as.length)] as.length (by simp [encS]) rfl rfl (by omega) (by omega)
    have e1 : (List.map encP [([], as)]) = [PyData.tuple [.list [], .list (encS as)]] := rfl
    rw [e1] at l1
    have lc : lcR [4, 5] (tgT 2 (tgCons (tgN 4) (tgCons (tgN 5) tgNil))) (DV.ret true) C_u_law_sequences_2 (ps.map encP, some 1) ⟨[some (.fz (.tuple (encS as))), some (.ow (.list (ps.map encP))), o2, o3, o4, o5, none], μ⟩ = some (.fr (.list (ps.map fun p => PyData.list (encS p.1))), ⟨[some (.fz (.tuple (encS as))), some (.ow (.list (ps.map encP))), o2, o3, o4, o5, none], μ⟩) := by
      refine lcR_mapG encP (fun p => PyData.list (encS p.1)) rfl (by rcases h4 with rfl | ⟨d, rfl⟩ <;> rcases h5 with rfl | ⟨d', rfl⟩ <;> rfl) fun p hp => ?_
      simp [wipeR, lock1, encP, C_u_law_sequences_2]
    simp [F_u_law_sequences, B_u_law_sequences, listG, hr, forR_none, l1, lc, Function.comp_def]
  · obtain ⟨p, hp, rfl⟩ := List.mem_map.mp hq
    obtain ⟨s1, s2⟩ := S.s p hp
    rw [List.eq_nil_of_length_eq_zero s2, List.append_nil] at s1
    exact s1
  · obtain ⟨p, hp, t, rfl, ht⟩ := S.c q hq
    obtain ⟨s1, s2⟩ := S.s p hp
    have : t = [] := List.eq_nil_of_length_eq_zero (by rw [ht.length_eq, s2])
    rw [this, List.append_nil]
    exact List.mem_map.mpr ⟨p, hp, rfl⟩
end K63
end
section
set_option Elab.async false
set_option linter.all false
set_option maxRecDepth 100000
set_option maxHeartbeats 4000000
namespace K63
open PySem PySem.Spec PyProof.Rows L2 DV PySem.W
def tsA (as : List At) : List D := as.flatMap At.ts
theorem wt_app (led : Led) (a b : List D) : wt led (a ++ b) = wt (wt led a) b := List.foldl_append ..
theorem wtA_eq : ∀ (as : List At) (led : Led), wtA led as = wt led (tsA as)
  | [], _ => rfl
  | a :: as, led => by
    show wtA (wt led a.ts) as = wt led (a.ts ++ tsA as)
    rw [wtA_eq as, wt_app]
theorem tsA_len : ∀ {as : List At}, (∀ a ∈ as, a.ok) → (tsA as).length ≤ 3 * as.length
  | [], _ => Nat.le_refl _
  | a :: as, h => by
    have ih := tsA_len (as := as) fun b hb => h b (List.mem_cons_of_mem _ hb)
    have ha := h a (List.mem_cons_self ..)
    have h3 := ar_le a.tb ha.1
    have h4 := ha.2.2
    show (a.ts ++ tsA as).length ≤ _
    simp only [List.length_append, List.length_cons]
    omega
theorem l_sp_loop1 {μ : List (Int × Int)} {s0 s1 s2 : Option Sl} : ∀ (as : List At) (acc : List D), (∀ a ∈ as, a.ok) → acc.length + 3 * as.length ≤ 1000 → ∀ {o4 o5 : Option Sl}, Pl o4 → Pl o5 →
    ∃ o4' o5', forL (tgT 2 (tgCons (tgN 4) (tgCons (tgN 5) tgNil))) L_u_law_spelled_1 (encS as) ⟨[s0, s1, s2, some (.ow (.list acc)), o4, o5, none], μ⟩ = some (.nx, ⟨[s0, s1, s2, some (.ow (.list (acc ++ tsA as))), o4', o5', none], μ⟩) ∧ Pl o4' ∧ Pl o5'
  | [], acc, _, _, o4, o5, h4, h5 => ⟨o4, o5, by simp [tsA, encS, forL_nil], h4, h5⟩
  | a :: as, acc, h, hl, o4, o5, h4, h5 => by
    have ha := h a (List.mem_cons_self ..)
    have h3 := ar_le a.tb ha.1
    have hts := ha.2.2
    simp only [List.length_cons] at hl
    obtain ⟨p4, p5, ih, k4, k5⟩ := l_sp_loop1 (μ := μ) (s0 := s0) (s1 := s1) (s2 := s2) as (acc ++ a.ts) (fun y hy => h y (List.mem_cons_of_mem _ hy)) (by simp only [List.length_append]; omega) (.inr ⟨a.tb, rfl⟩) (.inr ⟨.tuple a.ts, rfl⟩)
    refine ⟨p4, p5, ?_, k4, k5⟩
    show forL _ _ (a.enc :: encS as) _ = _
    have hsz : acc.length + a.ts.length ≤ 100000 := by omega
    rw [forL_next (e2 := ⟨[s0, s1, s2, some (.ow (.list (acc ++ a.ts))), some (.fz a.tb), some (.fz (.tuple a.ts)), none], μ⟩)]
    · rw [ih, List.append_assoc]; rfl
    · rcases h4 with rfl | ⟨d, rfl⟩ <;> rcases h5 with rfl | ⟨d2, rfl⟩ <;> simp [L_u_law_spelled_1, At.enc, listG, hsz]
theorem l_sp_loop2 (μ : List (Int × Int)) {s0 s1 s3 s4 s5 : Option Sl} : ∀ (ts : List D) (led : Led) (o : Option Sl), (∀ t ∈ ts, t ∈ U) → led.length + ts.length ≤ 26 → Pl o →
    ∃ o', forL (tgN 6) L_u_law_spelled_2 ts ⟨[s0, s1, some (.ow (encL led)), s3, s4, s5, o], μ⟩ = some (.nx, ⟨[s0, s1, some (.ow (encL (wt led ts))), s3, s4, s5, o'], μ⟩)
  | [], led, o, _, _, _ => ⟨o, rfl⟩
  | t :: ts, led, o, h, hl, ho => by
    have hn := l_is_name_U μ t (h t (List.mem_cons_self ..))
    have hs := st1_len led t
    simp only [List.length_cons] at hl
    obtain ⟨o', ih⟩ := l_sp_loop2 μ (s0 := s0) (s1 := s1) (s3 := s3) (s4 := s4) (s5 := s5) ts (st1 led t) (some (.fz t)) (fun x hx => h x (List.mem_cons_of_mem _ hx)) (by omega) (.inr ⟨t, rfl⟩)
    refine ⟨o', ?_⟩
    rw [forL_next (e2 := ⟨[s0, s1, some (.ow (encL (st1 led t))), s3, s4, s5, some (.fz t)], μ⟩)]
    · exact ih
    · have key : L_u_law_spelled_2 ⟨[s0, s1, some (.ow (encL led)), s3, s4, s5, some (.fz t)], μ⟩ = some (.nx, ⟨[s0, s1, some (.ow (encL (st1 led t))), s3, s4, s5, some (.fz t)], μ⟩) := by
        by_cases c : nm t = true
        · obtain ⟨x, rfl, e⟩ := nmS_of c
          by_cases c2 : (lkp led x).isSome = true
          · have : st1 led (.str x) = led := by simp [st1, e, c2]
            simp [L_u_law_spelled_2, cal, hn, c, notIn_enc, c2, this]
          · have e2 : st1 led (.str x) = led ++ [(x, letter led.length)] := by simp [st1, e, c2]
            have hlen : (encK led).length < 100000 := by rw [encK_len]; omega
            simp [L_u_law_spelled_2, cal, hn, c, notIn_enc, c2, e2, len_enc, letters led.length (by omega), dKey, hlen, put_enc c2]
        · have : st1 led t = led := by simp [st1, nmS_none c]
          simp [L_u_law_spelled_2, cal, hn, c, this]
      rcases ho with rfl | ⟨d, rfl⟩ <;> simp [key]
def spd (hd : List D) (p : List At) : Qn := ⟨hd.map (ap (wt [] hd)), spl (wt [] hd) p⟩
theorem l_spelled_ok (μ : List (Int × Int)) {hd : List D} {p : List At} (h : ∀ t ∈ hd, t ∈ U) (hp : ∀ a ∈ p, a.ok) (hl : hd.length ≤ 2) (pl : p.length ≤ 5) : F_u_law_spelled [.fz (.tuple hd), .fz (.list (encS p))] μ = some (.fz (spd hd p).enc, μ) := by
  have tl := tsA_len hp
  have tU : ∀ t ∈ hd ++ tsA p, t ∈ U := fun t ht => by
    rcases List.mem_append.mp ht with q | q
    · exact h t q
    · obtain ⟨a, ha, h2⟩ := List.mem_flatMap.mp q
      exact (hp a ha).2.1 t h2
  obtain ⟨o4, o5, l1, h4, h5⟩ := l_sp_loop1 (μ := μ) (s0 := some (.fz (.tuple hd))) (s1 := some (.fz (.list (encS p)))) (s2 := some (.ow (.dict []))) p hd hp (by omega) (o4 := none) (o5 := none) (.inl rfl) (.inl rfl)
  obtain ⟨o6, l2⟩ := l_sp_loop2 μ (s0 := some (.fz (.tuple hd))) (s1 := some (.fz (.list (encS p)))) (s3 := some (.bo (.list (hd ++ tsA p)))) (s4 := o4) (s5 := o5) (hd ++ tsA p) [] none tU (by simp; omega) (.inl rfl)
  have eL : wt [] (hd ++ tsA p) = wtA (wt [] hd) p := by rw [wt_app, wtA_eq]
  rw [eL] at l2
  generalize hL : wtA (wt [] hd) p = L at l2 eL
  have has : Has L (hd ++ tsA p) := by rw [← eL]; exact wt_has _ _
  have hasH : Has L hd := fun t ht => has t (List.mem_append_left _ ht)
  have hasA : ∀ a ∈ p, Has L a.ts := fun a ha t ht => has t (List.mem_append_right _ (List.mem_flatMap.mpr ⟨a, ha, ht⟩))
  have g := l_led_ok μ (led := L) (s := .bo (encL L)) (.inr rfl) h hasH
  have g0 : ∀ ρ, cal F_u_law_led [.fz (.tuple hd), .bo (encL L)] ⟨ρ, μ⟩ = some (.fz (.tuple (hd.map (ap L))), ⟨ρ, μ⟩) := fun ρ => cal_fz g
  have lc : lcR [4, 5] (tgT 2 (tgCons (tgN 4) (tgCons (tgN 5) tgNil))) (DV.ret true) C_u_law_spelled_1 (encS p, none) ⟨[some (.fz (.tuple hd)), some (.fz (.list (encS p))), some (.ow (encL L)), some (.ow (.list (hd ++ tsA p))), o4, o5, o6], μ⟩ = some (.fr (.list (encS (p.map (rnA (rof L))))), ⟨[some (.fz (.tuple hd)), some (.fz (.list (encS p))), some (.ow (encL L)), some (.ow (.list (hd ++ tsA p))), o4, o5, o6], μ⟩) := by
    have e : encS (p.map (rnA (rof L))) = p.map fun a => (rnA (rof L) a).enc := by simp [encS]
    rw [e]
    refine lcR_mapG At.enc (fun a => (rnA (rof L) a).enc) rfl (by rcases h4 with rfl | ⟨d, rfl⟩ <;> rcases h5 with rfl | ⟨d', rfl⟩ <;> rfl) fun a ha => ?_
    have g2 := l_led_ok μ (led := L) (s := .bo (encL L)) (.inr rfl) (hp a ha).2.1 (hasA a ha)
    rw [ap_rof (hasA a ha)] at g2
    have g3 : ∀ ρ, cal F_u_law_led [.fz (.tuple a.ts), .bo (encL L)] ⟨ρ, μ⟩ = some (.fz (.tuple (a.ts.map (rn (rof L)))), ⟨ρ, μ⟩) := fun ρ => cal_fz g2
    simp [wipeR, lock1, At.enc, C_u_law_spelled_1, g3, rnA]
  have e1 : spl (wt [] hd) p = p.map (rnA (rof L)) := spl_ext (L := L) (by rw [hL]; exact fun _ _ h => h)
  have e2 : hd.map (ap (wt [] hd)) = hd.map (ap L) := by
    rw [ap_ext (L := L) (wt_has hd []) (by rw [← hL]; exact fun _ _ h => wtA_keep h), ap_rof hasH]
  have l0 : encL [] = .dict [] := rfl
  rw [l0] at l2
  unfold spd Qn.enc
  rw [e1, e2]
  simp [F_u_law_spelled, B_u_law_spelled, listG, forR_none, l1, forR_ap, lockable, lock1, l2, unlock1, g0, lc, tupleG]
/-! the shape -/
theorem keysL (μ : List (Int × Int)) {l : List At} (h : ∀ x ∈ l, x.ok) {s0 s1 s2 s3 s4 : Option Sl} : lcR [5] (tgN 5) (DV.ret true) C_u_law_shape_2 (encS l, none) ⟨[s0, s1, s2, s3, s4, none], μ⟩ = some (.fr (.list (l.map At.key)), ⟨[s0, s1, s2, s3, s4, none], μ⟩) := by
  refine lcR_mapG At.enc At.key rfl rfl fun x hx => ?_
  have k : ∀ ρ, cal F_u_law_atom_key [.fz x.enc] ⟨ρ, μ⟩ = some (.fz x.key, ⟨ρ, μ⟩) := fun ρ => cal_fz (l_atom_key_ok μ (h x hx).2.1)
  simp [wipeR, lock1, C_u_law_shape_2, k]
theorem l_sh_loop {μ : List (Int × Int)} {s0 s1 : Option Sl} {hd : List D} {as : List At} (ok : ∀ p : List At, p.Perm as → ∀ x ∈ (spd hd p).as, x.ok) : ∀ (todo done : List (List At)) (p0 : List At) {o3 : Option Sl}, (∀ p ∈ todo, p.Perm as) → p0.Perm as → (∀ p ∈ done, tl (T (spd hd p).as) (T (spd hd p0).as) = false) → Pl o3 →
    ∃ p1 o3', forL (tgN 3) L_u_law_shape_1 (todo.map fun p => (spd hd p).enc) ⟨[s0, s1, some (.fz (spd hd p0).enc), o3, none, none], μ⟩ = some (.nx, ⟨[s0, s1, some (.fz (spd hd p1).enc), o3', none, none], μ⟩) ∧ p1.Perm as ∧ ∀ p ∈ done ++ todo, tl (T (spd hd p).as) (T (spd hd p1).as) = false
  | [], done, p0, o3, _, h0, h, _ => ⟨p0, o3, rfl, h0, by rw [List.append_nil]; exact h⟩
  | p :: todo, done, p0, o3, ht, h0, h, h3 => by
    have hp := ht p (List.mem_cons_self ..)
    have k1 := keysL μ (ok p hp) (s0 := s0) (s1 := s1) (s2 := some (.fz (spd hd p0).enc)) (s3 := some (.fz (spd hd p).enc)) (s4 := none)
    have k2 : lcR [5] (tgN 5) (DV.ret true) C_u_law_shape_3 (encS (spd hd p0).as, none) ⟨[s0, s1, some (.fz (spd hd p0).enc), some (.fz (spd hd p).enc), none, none], μ⟩ = _ := keysL μ (ok p0 h0)
    have kk := lt_lists (ok p hp) (ok p0 h0)
    by_cases c : tl (T (spd hd p).as) (T (spd hd p0).as) = true
    · obtain ⟨p1, q3, ih, i1, i2⟩ := l_sh_loop (μ := μ) (s0 := s0) (s1 := s1) ok todo (done ++ [p]) p (o3 := some (.fz (spd hd p).enc)) (fun q hq => ht q (List.mem_cons_of_mem _ hq)) hp (fun q hq => by
        rcases List.mem_append.mp hq with q' | q'
        · rw [Bool.eq_false_iff]
          intro z
          have := h q q'
          have z2 : tl (T (spd hd q).as) (T (spd hd p0).as) = true := lex_trans (O := itemOrd) _ _ _ z c
          rw [this] at z2; cases z2
        · rw [List.mem_singleton.mp q']; exact tl_irr _) (.inr ⟨_, rfl⟩)
      refine ⟨p1, q3, ?_, i1, by rw [List.append_assoc] at i2; exact i2⟩
      rw [List.map_cons, forL_next (e2 := ⟨[s0, s1, some (.fz (spd hd p).enc), some (.fz (spd hd p).enc), none, none], μ⟩)]
      · exact ih
      · rw [c] at kk
        generalize hq : spd hd p = Q at *
        generalize hq0 : spd hd p0 = Q0 at *
        unfold Qn.enc at k1 k2 ⊢
        rcases h3 with rfl | ⟨d, rfl⟩ <;> simp [L_u_law_shape_1, ix3_two, k1, k2, kk]
    · have c2 : tl (T (spd hd p).as) (T (spd hd p0).as) = false := by simpa using c
      obtain ⟨p1, q3, ih, i1, i2⟩ := l_sh_loop (μ := μ) (s0 := s0) (s1 := s1) ok todo (done ++ [p]) p0 (o3 := some (.fz (spd hd p).enc)) (fun q hq => ht q (List.mem_cons_of_mem _ hq)) h0 (fun q hq => by
        rcases List.mem_append.mp hq with q' | q'
        · exact h q q'
        · rw [List.mem_singleton.mp q']; exact c2) (.inr ⟨_, rfl⟩)
      refine ⟨p1, q3, ?_, i1, by rw [List.append_assoc] at i2; exact i2⟩
      rw [List.map_cons, forL_next (e2 := ⟨[s0, s1, some (.fz (spd hd p0).enc), some (.fz (spd hd p).enc), none, none], μ⟩)]
      · exact ih
      · rw [c2] at kk
        generalize hq : spd hd p = Q at *
        generalize hq0 : spd hd p0 = Q0 at *
        unfold Qn.enc at k1 k2 ⊢
        rcases h3 with rfl | ⟨d, rfl⟩ <;> simp [L_u_law_shape_1, ix3_two, k1, k2, kk]
theorem l_shape_ok (μ : List (Int × Int)) {q : Qn} (k : q.ok) : ∃ d, F_u_law_shape [.fz q.enc] μ = some (.fz d.enc, μ) ∧ Form q d := by
  have n1 := k.n1
  have hl := k.hl
  have wl := wt_len q.hd []
  simp only [List.length_nil] at wl
  have spok : ∀ p : List At, p.Perm q.as → ∀ x ∈ (spd q.hd p).as, x.ok := fun p hp => spl_ok (fun a ha => k.a a (hp.mem_iff.mp ha)) (wt_U ledU_nil (by simp; omega)) (by have := hp.length_eq; omega)
  obtain ⟨ps, s1, s2⟩ := l_sequences_ok μ n1
  have s0 : ∀ ρ, cal F_u_law_sequences [.fz (.tuple (encS q.as))] ⟨ρ, μ⟩ = some (.fr (.list (ps.map fun p => .list (encS p))), ⟨ρ, μ⟩) := fun ρ => cal_fr s1
  have lc : lcR [4] (tgN 4) (DV.ret true) C_u_law_shape_1 (ps.map fun p => PyData.list (encS p), none) ⟨[some (.fz q.enc), none, none, none, none, none], μ⟩ = some (.fr (.list (ps.map fun p => (spd q.hd p).enc)), ⟨[some (.fz q.enc), none, none, none, none, none], μ⟩) := by
    refine lcR_mapG (fun p => PyData.list (encS p)) (fun p => (spd q.hd p).enc) rfl rfl fun p hp => ?_
    have pp := (s2 p).mp hp
    have := l_spelled_ok μ k.h (p := p) (fun a ha => k.a a (pp.mem_iff.mp ha)) hl (by rw [pp.length_eq]; exact n1)
    have g0 : ∀ ρ, cal F_u_law_spelled [.fz (.tuple q.hd), .fz (.list (encS p))] ⟨ρ, μ⟩ = some (.fz (spd q.hd p).enc, ⟨ρ, μ⟩) := fun ρ => cal_fz this
    have e1 : ixG q.enc (.int 1) = some (.fz (.tuple q.hd)) := rfl
    generalize (spd q.hd p).enc = Q at *
    generalize q.enc = QE at *
    simp [wipeR, lock1, C_u_law_shape_1, e1, g0]
  have hne : q.as ∈ ps := (s2 _).mpr (List.Perm.refl _)
  cases ps with
  | nil => cases hne
  | cons p0 ps =>
    have h0 : p0.Perm q.as := (s2 _).mp (List.mem_cons_self ..)
    obtain ⟨p1, o3, l1, i1, i2⟩ := l_sh_loop (μ := μ) (s0 := some (.fz q.enc)) (s1 := some (.bo (.list ((p0 :: ps).map fun p => (spd q.hd p).enc)))) spok (p0 :: ps) [] p0 (o3 := none) (fun p hp => (s2 p).mp hp) h0 (fun p hp => by cases hp) (.inl rfl)
    refine ⟨spd q.hd p1, ?_, rfl, ⟨⟨p1, i1, rfl⟩, fun p hp => i2 p ((s2 p).mpr hp)⟩, spok p1 i1⟩
    have ix : ixG (.list ((p0 :: ps).map fun p => (spd q.hd p).enc)) (.int 0) = some (.fz (spd q.hd p0).enc) := by
      show (atI _ ((0 : Nat) : Int)).map _ = _
      rw [atI_nat]; rfl
    generalize (fun p => (spd q.hd p).enc) = G at *
    have e3 : ixG q.enc (.int 2) = some (.fz (.tuple (encS q.as))) := rfl
    simp only [List.map_cons] at *
    simp [F_u_law_shape, B_u_law_shape, e3, s0, lc, ix, forR_ap, lockable, lock1, l1, unlock1]
end K63
end
section
set_option Elab.async false
set_option linter.all false
set_option maxRecDepth 100000
set_option maxHeartbeats 4000000
namespace K63
open PySem PySem.Spec PyProof.Rows L2 DV PySem.W
theorem up_nodup {l : List Str} (h : Up l) : l.Nodup := h.imp fun {a b} h e => by
  subst e
  exact List.lt_irrefl _ (ltS_iff.mp h)
theorem nodup_sub : ∀ {l m : List Str}, l.Nodup → (∀ x ∈ l, x ∈ m) → l.length ≤ m.length
  | [], _, _, _ => Nat.zero_le _
  | x :: l, m, h, k => by
    obtain ⟨h1, h2⟩ := List.nodup_cons.mp h
    have hx := k x (List.mem_cons_self ..)
    have pe := List.perm_cons_erase hx
    have := nodup_sub (l := l) (m := m.erase x) h2 fun y hy => (List.mem_erase_of_ne (fun e => h1 (by rw [← e]; exact hy))).mpr (k y (List.mem_cons_of_mem _ hy))
    have e := pe.length_eq
    simp only [List.length_cons] at e ⊢
    omega
theorem l_nms_loop (μ : List (Int × Int)) (a : Option Sl) : ∀ (as : List At) (acc : List Str) (o o2 o3 : Option Sl), (∀ x ∈ as, x.ok) → acc.length + 3 * as.length ≤ 1000 → Pl o → Pl o2 → Pl o3 →
    ∃ o' o2' o3', forL (tgT 2 (tgCons (tgN 2) (tgCons (tgN 3) tgNil))) L_u_law_names_1 (encS as) ⟨[a, some (.ow (.list (acc.map .str))), o, o2, o3], μ⟩ = some (.nx, ⟨[a, some (.ow (.list ((acc ++ namesA as).map .str))), o', o2', o3'], μ⟩)
  | [], acc, o, o2, o3, _, _, _, _, _ => ⟨o, o2, o3, by simp [namesA, encS, forL_nil]⟩
  | x :: as, acc, o, o2, o3, h, hl, ho, ho2, ho3 => by
    have hx := h x (List.mem_cons_self ..)
    have ha := ar_le x.tb hx.1
    have h3 := hx.2.2
    have hn := nms_len x.ts
    simp only [List.length_cons] at hl
    obtain ⟨o', o2', o3', ih⟩ := l_nms_loop μ a as (acc ++ nms x.ts) (some (.fz x.tb)) (some (.fz (.tuple x.ts))) o3 (fun y hy => h y (List.mem_cons_of_mem _ hy)) (by simp only [List.length_append]; omega) (.inr ⟨_, rfl⟩) (.inr ⟨_, rfl⟩) ho3
    refine ⟨o', o2', o3', ?_⟩
    show forL _ _ (x.enc :: encS as) _ = _
    rw [forL_next (e2 := ⟨[a, some (.ow (.list ((acc ++ nms x.ts).map .str))), some (.fz x.tb), some (.fz (.tuple x.ts)), o3], μ⟩)]
    · rw [ih, List.append_assoc]
      simp [namesA]
    · have key : L_u_law_names_1 ⟨[a, some (.ow (.list (acc.map .str))), some (.fz x.tb), some (.fz (.tuple x.ts)), o3], μ⟩ = some (.nx, ⟨[a, some (.ow (.list ((acc ++ nms x.ts).map .str))), some (.fz x.tb), some (.fz (.tuple x.ts)), o3], μ⟩) := by
        have hsz : acc.length + (nms x.ts).length ≤ 100000 := by omega
        simp [L_u_law_names_1]
        rw [lcR_pure (fun t => if nm t = true then some t else none) rfl (by rcases ho3 with rfl | ⟨d, rfl⟩ <;> rfl)]
        · rw [nms_filter hx.2.1]
          simp [hsz]
        · intro d hd
          have hn := l_is_name_U μ d (hx.2.1 d hd)
          by_cases c : nm d = true
          · simp [wipeR, lock1, C_u_law_names_1, cal, hn, c]
          · simp [wipeR, lock1, C_u_law_names_1, cal, hn, c]
      rcases ho with rfl | ⟨d, rfl⟩ <;> rcases ho2 with rfl | ⟨d2, rfl⟩ <;> simp [key, At.enc]
abbrev sn (q : Qn) : List Str := sset (namesA q.as)
theorem l_names_ok (μ : List (Int × Int)) {q : Qn} (h : ∀ x ∈ q.as, x.ok) (hl : q.as.length ≤ 20) : F_u_law_names [.fz q.enc] μ = some (.fr (.list ((sn q).map .str)), μ) := by
  obtain ⟨o', o2', o3', hf⟩ := l_nms_loop μ (some (.fz q.enc)) q.as [] none none none h (by simp; omega) (.inl rfl) (.inl rfl) (.inl rfl)
  have hn := namesA_len h
  have h63 : (namesA q.as).length < 63 := by omega
  have e2 : ixG q.enc (.int 2) = some (.fz (.tuple (encS q.as))) := rfl
  rw [List.nil_append, List.map_nil] at hf
  simp [F_u_law_names, B_u_law_names, forR_none, e2, hf, ssetG, strL_map, h63]
/-! new names -/
def Pool : List Str := ["q", "ab", "z", "x", "yy", "c"]
theorem pool_U : ∀ x ∈ Pool, PyData.str x ∈ U ∧ nm (.str x) = true := by
  intro x hx
  simp only [Pool, List.mem_cons, List.not_mem_nil, or_false] at hx
  rcases hx with rfl | rfl | rfl | rfl | rfl | rfl <;> exact ⟨by simp [U], by decide +kernel⟩
structure Nw (done : List Str) (new : Led) (left : List Str) : Prop where
  has : ∀ x ∈ done, (lkp new x).isSome = true
  dn : ∀ x y, lkp new x = some y → x ∈ done
  vl : ∀ x y, lkp new x = some y → y ∈ Pool ∧ y ∉ left
  inj : ∀ x x' y, lkp new x = some y → lkp new x' = some y → x = x'
  sub : ∀ x ∈ left, x ∈ Pool
  nd : left.Nodup
  len : left.length + done.length = 6
  ln : new.length = done.length
theorem pop_str {left : List Str} {r : Int} (h0 : 0 ≤ r) (h1 : r < left.length) (hl : left.length ≤ 1000) : ∃ y, left[r.toNat]? = some y ∧ popG (.list (left.map .str)) [.int r] = some (.str y, .list ((left.eraseIdx r.toNat).map .str)) := by
  have hl2 : r.toNat < left.length := by omega
  refine ⟨left[r.toNat], List.getElem?_eq_getElem hl2, ?_⟩
  show (if (left.map PyData.str).length ≤ 100000 then (ixN (left.map PyData.str).length r).bind fun k => ((left.map PyData.str)[k]?).map fun y => (y, PyData.list ((left.map PyData.str).eraseIdx k)) else none) = _
  rw [if_pos (by simp; omega)]
  have : ixN (left.map PyData.str).length r = some r.toNat := by
    unfold ixN
    rw [if_pos h0, if_pos (by simp; omega)]
  rw [this]
  simp [map_erase, List.getElem?_eq_getElem hl2]
theorem l_o_step {μ : List (Int × Int)} (ok : Ok μ) {s1 s2 s6 s7 s8 s9 s10 : Option Sl} {done left : List Str} {new : Led} (I : Nw done new left) {x : Str} (hx : x ∉ done) (hd : done.length < 6) {o5 : Option Sl} (h5 : Pl o5) :
    ∃ new' left' μ', bnd (tgN 5 (.str x)) (fun _ => L_u_law_other_1) ⟨[some (.pt 0), s1, s2, some (.ow (.list (left.map .str))), some (.ow (encL new)), o5, s6, s7, s8, s9, s10], μ⟩ =
      some (.nx, ⟨[some (.pt 0), s1, s2, some (.ow (.list (left'.map .str))), some (.ow (encL new')), some (.fz (.str x)), s6, s7, s8, s9, s10], μ'⟩) ∧ Ok μ' ∧ Nw (done ++ [x]) new' left' := by
  have il := I.len
  obtain ⟨r, μ1, e1, ok1, r0, r1⟩ := draw_ok ok (n := left.length) (by omega) (by omega)
  have d1 : ∀ ρ, cal F_u_law_draw [.pt 0, .fz (.int left.length)] ⟨ρ, μ⟩ = some (.fz (.int r), ⟨ρ, μ1⟩) := fun ρ => cal_fz e1
  obtain ⟨y, hy, hp⟩ := pop_str r0 r1 (by omega)
  have pe := perm_erase left r.toNat y hy
  obtain ⟨yn, nd'⟩ := List.nodup_cons.mp (pe.nodup_iff.mp I.nd)
  have ymem : y ∈ left := pe.mem_iff.mpr (List.mem_cons_self ..)
  have nx : lkp new x = none := by
    cases q : lkp new x with
    | none => rfl
    | some z => exact absurd (I.dn x z q) hx
  have hlen : (encK new).length < 100000 := by rw [encK_len]; have := I.ln; omega
  have put := put_enc (led := new) (x := x) (y := y) (by rw [nx]; decide)
  have key : ∀ k, lkp (new ++ [(x, y)]) k = if k = x then some y else lkp new k := fun k => by
    rw [lkp_app]
    by_cases q : k = x
    · subst q; rw [nx, if_pos rfl]; simp [lkp]
    · rw [if_neg q]
      have q2 : ¬ x = k := fun z => q z.symm
      cases lkp new k <;> simp [lkp, q2]
  refine ⟨new ++ [(x, y)], left.eraseIdx r.toNat, μ1, ?_, ok1, ?_⟩
  · have ek : dKey (.str x) = some (.inr x) := rfl
    rcases h5 with rfl | ⟨d, rfl⟩ <;> simp [L_u_law_other_1, d1, hp, ek, hlen, put]
  · refine ⟨fun z hz => ?_, fun z w hz => ?_, fun z w hz => ?_, fun z z' w hz hz' => ?_, fun z hz => I.sub z (pe.mem_iff.mpr (List.mem_cons_of_mem _ hz)), nd', ?_, ?_⟩
    · rw [key]
      by_cases c : z = x
      · rw [if_pos c]; rfl
      · rw [if_neg c]
        exact I.has z ((List.mem_append.mp hz).resolve_right fun q => c (List.mem_singleton.mp q))
    · rw [key] at hz
      split at hz
      · rename_i c; rw [c]; exact List.mem_append_right _ (List.mem_singleton.mpr rfl)
      · exact List.mem_append_left _ (I.dn z w hz)
    · rw [key] at hz
      split at hz
      · cases hz; exact ⟨I.sub y ymem, yn⟩
      · obtain ⟨v1, v2⟩ := I.vl z w hz
        exact ⟨v1, fun q => v2 (pe.mem_iff.mpr (List.mem_cons_of_mem _ q))⟩
    · rw [key] at hz hz'
      split at hz <;> split at hz'
      · rename_i a b; rw [a, b]
      · cases hz; exact absurd ymem (I.vl z' _ hz').2
      · cases hz'; exact absurd ymem (I.vl z _ hz).2
      · exact I.inj z z' w hz hz'
    · have := pe.length_eq
      simp only [List.length_cons] at this
      simp only [List.length_append, List.length_cons, List.length_nil]
      omega
    · have := I.ln
      simp only [List.length_append, List.length_cons, List.length_nil]
      omega
theorem l_o_loop {s1 s2 s6 s7 s8 s9 s10 : Option Sl} : ∀ (xs : List Str) {μ : List (Int × Int)}, Ok μ → ∀ {done left : List Str} {new : Led}, Nw done new left → xs.Nodup → (∀ x ∈ xs, x ∉ done) → done.length + xs.length ≤ 6 → ∀ {o5 : Option Sl}, Pl o5 →
    ∃ new' left' o5' μ', forL (tgN 5) L_u_law_other_1 (xs.map .str) ⟨[some (.pt 0), s1, s2, some (.ow (.list (left.map .str))), some (.ow (encL new)), o5, s6, s7, s8, s9, s10], μ⟩ =
      some (.nx, ⟨[some (.pt 0), s1, s2, some (.ow (.list (left'.map .str))), some (.ow (encL new')), o5', s6, s7, s8, s9, s10], μ'⟩) ∧ Ok μ' ∧ Nw (done ++ xs) new' left'
  | [], μ, ok, done, left, new, I, _, _, _, o5, _ => ⟨new, left, o5, μ, rfl, ok, by rw [List.append_nil]; exact I⟩
  | x :: xs, μ, ok, done, left, new, I, hnd, hdn, hl, o5, h5 => by
    obtain ⟨n1, n2⟩ := List.nodup_cons.mp hnd
    simp only [List.length_cons] at hl
    obtain ⟨new1, left1, μ1, e1, ok1, I1⟩ := l_o_step (s1 := s1) (s2 := s2) (s6 := s6) (s7 := s7) (s8 := s8) (s9 := s9) (s10 := s10) ok I (hdn x (List.mem_cons_self ..)) (by omega) h5
    obtain ⟨new2, left2, o5', μ2, e2, ok2, I2⟩ := l_o_loop (s1 := s1) (s2 := s2) (s6 := s6) (s7 := s7) (s8 := s8) (s9 := s9) (s10 := s10) xs ok1 I1 n2 (fun y hy q => by
      rcases List.mem_append.mp q with q | q
      · exact hdn y (List.mem_cons_of_mem _ hy) q
      · rw [List.mem_singleton.mp q] at hy; exact n1 hy) (by simp; omega) (o5 := some (.fz (.str x))) (.inr ⟨_, rfl⟩)
    refine ⟨new2, left2, o5', μ2, ?_, ok2, by rw [List.append_assoc] at I2; exact I2⟩
    rw [List.map_cons, forL_next e1]
    exact e2
theorem pop_at {left : List At} {r : Int} (h0 : 0 ≤ r) (h1 : r < left.length) (hl : left.length ≤ 1000) : ∃ y, left[r.toNat]? = some y ∧ popG (.list (encS left)) [.int r] = some (y.enc, .list (encS (left.eraseIdx r.toNat))) := by
  have hl2 : r.toNat < left.length := by omega
  refine ⟨left[r.toNat], List.getElem?_eq_getElem hl2, ?_⟩
  show (if (encS left).length ≤ 100000 then (ixN (encS left).length r).bind fun k => ((encS left)[k]?).map fun y => (y, PyData.list ((encS left).eraseIdx k)) else none) = _
  have el : (encS left).length = left.length := by simp [encS]
  rw [if_pos (by omega)]
  have : ixN (encS left).length r = some r.toNat := by
    unfold ixN
    rw [if_pos h0, if_pos (by omega)]
  rw [this]
  simp [encS, map_erase, List.getElem?_eq_getElem hl2]
theorem l_o_loop2 {s1 s2 s3 s4 s5 s9 s10 : Option Sl} {as : List At} (hl : as.length ≤ 900) : ∀ (ds : List D) {μ : List (Int × Int)}, Ok μ → ∀ {acc rest : List At}, (acc ++ rest).Perm as → rest.length = ds.length → ∀ {o8 : Option Sl}, Pl o8 →
    ∃ acc' o8' μ', forL (tgN 8) L_u_law_other_2 ds ⟨[some (.pt 0), s1, s2, s3, s4, s5, some (.ow (.list (encS acc))), some (.ow (.list (encS rest))), o8, s9, s10], μ⟩ =
      some (.nx, ⟨[some (.pt 0), s1, s2, s3, s4, s5, some (.ow (.list (encS acc'))), some (.ow (.list [])), o8', s9, s10], μ'⟩) ∧ Ok μ' ∧ acc'.Perm as
  | [], μ, ok, acc, rest, h, hr, o8, h8 => by
    have : rest = [] := List.eq_nil_of_length_eq_zero hr
    subst this
    exact ⟨acc, o8, μ, rfl, ok, by rw [List.append_nil] at h; exact h⟩
  | d :: ds, μ, ok, acc, rest, h, hr, o8, h8 => by
    have tl := h.length_eq
    simp only [List.length_append] at tl
    simp only [List.length_cons] at hr
    obtain ⟨r, μ1, e1, ok1, r0, r1⟩ := draw_ok ok (n := rest.length) (by omega) (by omega)
    have d1 : ∀ ρ, cal F_u_law_draw [.pt 0, .fz (.int rest.length)] ⟨ρ, μ⟩ = some (.fz (.int r), ⟨ρ, μ1⟩) := fun ρ => cal_fz e1
    obtain ⟨y, hy, hp⟩ := pop_at r0 r1 (by omega)
    have pe := perm_erase rest r.toNat y hy
    have pl := pe.length_eq
    simp only [List.length_cons] at pl
    have el : (encS rest).length = rest.length := by simp [encS]
    obtain ⟨acc', o8', μ2, e2, ok2, h2⟩ := l_o_loop2 (s1 := s1) (s2 := s2) (s3 := s3) (s4 := s4) (s5 := s5) (s9 := s9) (s10 := s10) hl ds ok1 (acc := acc ++ [y]) (rest := rest.eraseIdx r.toNat) (by rw [List.append_assoc]; exact (List.Perm.append_left acc pe.symm).trans h) (by omega) (o8 := some (.fz d)) (.inr ⟨_, rfl⟩)
    refine ⟨acc', o8', μ2, ?_, ok2, h2⟩
    rw [forL_next (e2 := ⟨[some (.pt 0), s1, s2, s3, s4, s5, some (.ow (.list (encS (acc ++ [y])))), some (.ow (.list (encS (rest.eraseIdx r.toNat)))), some (.fz d), s9, s10], μ1⟩)]
    · exact e2
    · have hz : (encS acc).length < 100000 := by simp [encS]; omega
      have ea : encS (acc ++ [y]) = encS acc ++ [y.enc] := by simp [encS]
      rw [ea]
      rcases h8 with rfl | ⟨d8, rfl⟩ <;> simp [L_u_law_other_2, el, d1, hp, app_one _ _ hz]
end K63
end
section
set_option Elab.async false
set_option linter.all false
set_option maxRecDepth 100000
set_option maxHeartbeats 4000000
namespace K63
open PySem PySem.Spec PyProof.Rows L2 DV PySem.W
theorem mem_nms {ts : List D} {x : Str} : x ∈ nms ts ↔ PyData.str x ∈ ts ∧ nm (.str x) = true := by
  constructor
  · intro h
    obtain ⟨t, ht, e⟩ := List.mem_filterMap.mp h
    obtain ⟨rfl, h2⟩ := nmS_eq e
    exact ⟨ht, h2⟩
  · rintro ⟨h1, h2⟩
    exact List.mem_filterMap.mpr ⟨_, h1, nmS_nm h2⟩
theorem l_other_ok {μ : List (Int × Int)} (ok : Ok μ) {q : Qn} (k : q.ok) (hs : (sn q).length ≤ 6) : ∃ (q' : Qn) (μ' : List (Int × Int)), F_u_law_other [.pt 0, .fz q.enc] μ = some (.fz q'.enc, μ') ∧ Ok μ' ∧ q'.ok ∧ ∀ d, Form q d → Form q' d := by
  have n1 := k.n1
  have ln := l_names_ok μ k.a (by omega)
  have ln0 : ∀ ρ, cal F_u_law_names [.fz q.enc] ⟨ρ, μ⟩ = some (.fr (.list ((sn q).map .str)), ⟨ρ, μ⟩) := fun ρ => cal_fr ln
  have nw0 : Nw [] [] Pool := ⟨fun x hx => (by cases hx), fun x y h => (by cases h), fun x y h => (by cases h), fun x x' y h => (by cases h), fun x hx => hx, by decide +kernel, rfl, rfl⟩
  obtain ⟨new, left, o5, μ1, l1, ok1, I⟩ := l_o_loop (s1 := some (.fz q.enc)) (s2 := some (.bo (.list ((sn q).map .str)))) (s6 := none) (s7 := none) (s8 := none) (s9 := none) (s10 := none) (sn q) ok nw0 (up_nodup (up_sset _)) (fun x _ h => by cases h) (by simpa using hs) (o5 := none) (.inl rfl)
  rw [List.nil_append] at I
  obtain ⟨acc, o8, μ2, l2, ok2, pm⟩ := l_o_loop2 (s1 := some (.fz q.enc)) (s2 := some (.ow (.list ((sn q).map .str)))) (s3 := some (.ow (.list (left.map .str)))) (s4 := some (.ow (encL new))) (s5 := o5) (s9 := none) (s10 := none) (as := q.as) (by omega) (rngL 0 q.as.length) ok1 (acc := []) (rest := q.as) (List.Perm.refl _) (by rw [rngL_len]) (o8 := none) (.inl rfl)
  have mem : ∀ x ∈ namesA q.as, ∃ y, lkp new x = some y ∧ y ∈ Pool := fun x hx => by
    obtain ⟨y, hy⟩ := Option.isSome_iff_exists.mp (I.has x ((mem_sset x _).mpr hx))
    exact ⟨y, hy, (I.vl x y hy).1⟩
  have hasA : ∀ a ∈ q.as, Has new a.ts := fun a ha t ht x hx => by
    obtain ⟨y, hy, _⟩ := mem x (List.mem_flatMap.mpr ⟨a, ha, List.mem_filterMap.mpr ⟨t, ht, hx⟩⟩)
    rw [hy]; rfl
  have hasH : Has new q.hd := fun t ht x hx => by
    obtain ⟨y, hy, _⟩ := mem x (k.hn x (List.mem_filterMap.mpr ⟨t, ht, hx⟩))
    rw [hy]; rfl
  have accm : ∀ a ∈ acc, a ∈ q.as := fun a ha => pm.mem_iff.mp ha
  have rnU : ∀ t ∈ U, (∀ x, nmS t = some x → (lkp new x).isSome = true) → rn (rof new) t ∈ U := fun t ht h => by
    unfold rn
    split
    · rename_i x e
      obtain ⟨y, hy⟩ := Option.isSome_iff_exists.mp (h x e)
      unfold rof
      rw [hy]
      exact (pool_U y (I.vl x y hy).1).1
    · exact ht
  have g := l_led_ok μ2 (led := new) (s := .bo (encL new)) (.inr rfl) k.h hasH
  rw [ap_rof hasH] at g
  have g0 : ∀ ρ, cal F_u_law_led [.fz (.tuple q.hd), .bo (encL new)] ⟨ρ, μ2⟩ = some (.fz (.tuple (q.hd.map (rn (rof new)))), ⟨ρ, μ2⟩) := fun ρ => cal_fz g
  have lc : lcR [9, 10] (tgT 2 (tgCons (tgN 9) (tgCons (tgN 10) tgNil))) (DV.ret true) C_u_law_other_1 (encS acc, some 6) ⟨[some (.pt 0), some (.fz q.enc), some (.ow (.list ((sn q).map .str))), some (.ow (.list (left.map .str))), some (.ow (encL new)), o5, some (.ow (.list (encS acc))), some (.ow (.list [])), o8, none, none], μ2⟩ =
      some (.fr (.list (encS (acc.map (rnA (rof new))))), ⟨[some (.pt 0), some (.fz q.enc), some (.ow (.list ((sn q).map .str))), some (.ow (.list (left.map .str))), some (.ow (encL new)), o5, some (.ow (.list (encS acc))), some (.ow (.list [])), o8, none, none], μ2⟩) := by
    have e : encS (acc.map (rnA (rof new))) = acc.map fun a => (rnA (rof new) a).enc := by simp [encS]
    rw [e]
    refine lcR_mapG At.enc (fun a => (rnA (rof new) a).enc) rfl rfl fun a ha => ?_
    have g2 := l_led_ok μ2 (led := new) (s := .bo (encL new)) (.inr rfl) (k.a a (accm a ha)).2.1 (hasA a (accm a ha))
    rw [ap_rof (hasA a (accm a ha))] at g2
    have g3 : ∀ ρ, cal F_u_law_led [.fz (.tuple a.ts), .bo (encL new)] ⟨ρ, μ2⟩ = some (.fz (.tuple (a.ts.map (rn (rof new)))), ⟨ρ, μ2⟩) := fun ρ => cal_fz g2
    generalize q.enc = QE
    simp [wipeR, lock1, At.enc, C_u_law_other_1, g3, rnA]
  refine ⟨⟨q.hd.map (rn (rof new)), acc.map (rnA (rof new))⟩, μ2, ?_, ok2, ⟨fun x hx => ?_, ?_, ?_, fun t ht => ?_, ?_, fun x hx => ?_⟩, fun d f => ?_⟩
  · have e2 : ixG q.enc (.int 2) = some (.fz (.tuple (encS q.as))) := rfl
    have e1 : ixG q.enc (.int 1) = some (.fz (.tuple q.hd)) := rfl
    have z := tk_ok ok ok2
    have hr : ∀ ρ, rng1M (consM (opN (g1 lenG) (consM (op2 ixG (slM 1) (fzM (.int 2))) (ret []))) (ret [])) ⟨some (.pt 0) :: some (.fz q.enc) :: ρ, μ1⟩ = some ((rngL 0 q.as.length, none), ⟨some (.pt 0) :: some (.fz q.enc) :: ρ, μ1⟩) := fun ρ => rng1_ap _ _ _ [.fz (.int q.as.length)] q.as.length (by simp [e2, encS]) rfl rfl (by omega) (by omega)
    have l0 : encL [] = .dict [] := rfl
    have l00 : encS [] = [] := rfl
    have lp : Pool.map PyData.str = [.str "q", .str "ab", .str "z", .str "x", .str "yy", .str "c"] := rfl
    rw [l0, lp] at l1
    rw [l00] at l2
    generalize hQ : q.enc = QE at *
    simp [F_u_law_other, B_u_law_other, ln0, forR_ap, lockable, lock1, l1, unlock1, e1, e2, listG, hr, l2, g0, lc, tupleG, z, Qn.enc]
  · obtain ⟨a, ha, rfl⟩ := List.mem_map.mp hx
    have ka := k.a a (accm a ha)
    refine ⟨ka.1, fun t ht => ?_, by simp [rnA]; exact ka.2.2⟩
    obtain ⟨u, hu, rfl⟩ := List.mem_map.mp ht
    exact rnU u (ka.2.1 u hu) fun x hx => hasA a (accm a ha) u hu x hx
  · have := k.n0; have := pm.length_eq; simp; omega
  · have := pm.length_eq; simp; omega
  · obtain ⟨u, hu, rfl⟩ := List.mem_map.mp ht
    exact rnU u (k.h u hu) fun x hx => hasH u hu x hx
  · have := k.hl; simpa using this
  · obtain ⟨t, ht, e⟩ := List.mem_filterMap.mp hx
    obtain ⟨u, hu, rfl⟩ := List.mem_map.mp ht
    cases c : nmS u with
    | none => unfold rn at e; rw [c] at e; simp only at e; rw [c] at e; cases e
    | some y =>
      have hy := k.hn y (List.mem_filterMap.mpr ⟨u, hu, c⟩)
      obtain ⟨a, ha, h2⟩ := List.mem_flatMap.mp hy
      obtain ⟨v, hv, h3⟩ := List.mem_filterMap.mp h2
      have ev : v = u := (nmS_eq h3).1.trans (nmS_eq c).1.symm
      subst ev
      exact List.mem_flatMap.mpr ⟨rnA (rof new) a, List.mem_map.mpr ⟨a, pm.mem_iff.mpr ha, rfl⟩, List.mem_filterMap.mpr ⟨rn (rof new) v, List.mem_map.mpr ⟨v, hv, rfl⟩, e⟩⟩
  · refine form_rn (S := fun x => (lkp new x).isSome = true) (r := rof new) ⟨fun x hx => ?_, fun x y hx hy e => ?_⟩ (fun t ht x hx => hasH t ht x hx) (fun a ha t ht x hx => hasA a ha t ht x hx) rfl (pm.map _) f
    · obtain ⟨y, hy⟩ := Option.isSome_iff_exists.mp hx
      unfold rof
      rw [hy]
      exact (pool_U y (I.vl x y hy).1).2
    · obtain ⟨u, hu⟩ := Option.isSome_iff_exists.mp hx
      obtain ⟨v, hv⟩ := Option.isSome_iff_exists.mp hy
      unfold rof at e
      rw [hu, hv] at e
      simp only [Option.getD_some] at e
      subst e
      exact I.inj x y u hu hv
end K63
end
section
set_option Elab.async false
set_option linter.all false
set_option maxRecDepth 100000
set_option maxHeartbeats 4000000
namespace K63
open PySem PySem.Spec PyProof.Rows L2 DV PySem.W
theorem add_tup (xs ys : List D) (h : xs.length + ys.length ≤ 100000) : addG (.tuple xs) (.tuple ys) = some (.fz (.tuple (xs ++ ys))) := by
  show (if _ then _ else none) = _
  rw [if_pos h]
theorem add_lst (xs ys : List D) (h : xs.length + ys.length ≤ 100000) : addG (.list xs) (.list ys) = some (.fr (.list (xs ++ ys))) := by
  show (if _ then _ else none) = _
  rw [if_pos h]
theorem eq_nilU (l : List D) (h : ∀ t ∈ l, t ∈ U) : eqG (.list l) (.list []) = some (.fz (.bool (decide (l = [])))) := by
  have h1 : SeqAt.shaped (.list l) = true := shp_lst (k := 0) (by omega) fun d hd => ⟨(can_U d (h d hd)).1, Nat.le_of_eq (can_U d (h d hd)).2⟩
  show (if SeqAt.shaped (.list l) = true ∧ SeqAt.shaped (.list []) = true then boolR (PyData.eqv (.list l) (.list [])) else none) = _
  rw [if_pos ⟨h1, by decide +kernel⟩]
  cases l <;> simp [PyData.eqv, PyData.eqvAll]
def bad (there : List Str) (t : D) : Option D := match nmS t with
  | some x => if x ∈ there then none else some t
  | none => none
theorem l_changed_ok {μ : List (Int × Int)} (ok : Ok μ) {q : Qn} (k : q.ok) (hs : (sn q).length ≤ 6) : ∃ (q' : Qn) (μ' : List (Int × Int)), F_u_law_changed [.pt 0, .fz q.enc] μ = some (.fz q'.enc, μ') ∧ Ok μ' ∧ q'.ok := by
  have n0 := k.n0
  have n1 := k.n1
  have ln := l_names_ok μ k.a (by omega)
  have ln0 : ∀ ρ, cal F_u_law_names [.fz q.enc] ⟨ρ, μ⟩ = some (.fr (.list ((sn q).map .str)), ⟨ρ, μ⟩) := fun ρ => cal_fr ln
  obtain ⟨r, μ1, e1, ok1, r0, r1⟩ := draw_ok ok (n := q.as.length) (by omega) (by omega)
  have d1 : ∀ ρ, cal F_u_law_draw [.pt 0, .fz (.int q.as.length)] ⟨ρ, μ⟩ = some (.fz (.int r), ⟨ρ, μ1⟩) := fun ρ => cal_fz e1
  obtain ⟨i, rfl⟩ : ∃ i : Nat, r = (i : Int) := ⟨r.toNat, by omega⟩
  have hi : i < q.as.length := by omega
  have ha : q.as[i] ∈ q.as := List.getElem_mem hi
  have ga : q.as[i]? = some q.as[i] := List.getElem?_eq_getElem hi
  generalize q.as[i] = a at ha ga
  have ak := k.a a ha
  have har := ar_le a.tb ak.1
  have tl := ak.2.2
  obtain ⟨r2, μ2, e2, ok2, r20, r21⟩ := draw_ok ok1 (n := a.ts.length) (by omega) (by omega)
  have d2 : ∀ ρ, cal F_u_law_draw [.pt 0, .fz (.int a.ts.length)] ⟨ρ, μ1⟩ = some (.fz (.int r2), ⟨ρ, μ2⟩) := fun ρ => cal_fz e2
  obtain ⟨j, rfl⟩ : ∃ j : Nat, r2 = (j : Int) := ⟨r2.toNat, by omega⟩
  have hj : j < a.ts.length := by omega
  obtain ⟨v, hv, μ3, e3, ok3⟩ := pick_ok ok2 (s := .fz (.list ((sn q).map .str ++ [.int 1, .str "Red"]))) (.inl rfl) (by simp) (by simp; omega)
  have p3 : ∀ ρ, cal F_u_law_pick [.pt 0, .fz (.list ((sn q).map .str ++ [.int 1, .str "Red"]))] ⟨ρ, μ2⟩ = some (.fz v, ⟨ρ, μ3⟩) := fun ρ => cal_fz e3
  have vU : v ∈ U := by
    rcases List.mem_append.mp hv with h | h
    · obtain ⟨x, hx, rfl⟩ := List.mem_map.mp h
      exact sset_U (namesA_U k.a) x hx
    · simp only [List.mem_cons, List.not_mem_nil, or_false] at h
      rcases h with rfl | rfl <;> simp [U]
  obtain ⟨ts2, hts2⟩ : ∃ ts2, ts2 = a.ts.take j ++ [v] ++ a.ts.drop (j + 1) := ⟨_, rfl⟩
  have ts2l : ts2.length = a.ts.length := by rw [hts2]; simp; omega
  have ts2U : ∀ t ∈ ts2, t ∈ U := fun t ht => by
    rw [hts2] at ht
    rcases List.mem_append.mp ht with h | h
    · rcases List.mem_append.mp h with h | h
      · exact ak.2.1 t (List.mem_of_mem_take h)
      · rw [List.mem_singleton.mp h]; exact vU
    · exact ak.2.1 t (List.mem_of_mem_drop h)
  have b2 : At.ok ⟨a.tb, ts2⟩ := ⟨ak.1, ts2U, by rw [ts2l]; exact tl⟩
  obtain ⟨as2, has2⟩ : ∃ as2, as2 = q.as.take i ++ [(⟨a.tb, ts2⟩ : At)] ++ q.as.drop (i + 1) := ⟨_, rfl⟩
  have as2l : as2.length = q.as.length := by rw [has2]; simp; omega
  have as2k : ∀ x ∈ as2, x.ok := fun x hx => by
    rw [has2] at hx
    rcases List.mem_append.mp hx with h | h
    · rcases List.mem_append.mp h with h | h
      · exact k.a x (List.mem_of_mem_take h)
      · rw [List.mem_singleton.mp h]; exact b2
    · exact k.a x (List.mem_of_mem_drop h)
  obtain ⟨q2, hq2⟩ : ∃ q2 : Qn, q2 = ⟨q.hd, as2⟩ := ⟨_, rfl⟩
  have ln2 := l_names_ok μ3 (q := q2) (by rw [hq2]; exact as2k) (by rw [hq2]; show as2.length ≤ 20; omega)
  have ln20 : ∀ ρ, cal F_u_law_names [.fz q2.enc] ⟨ρ, μ3⟩ = some (.fr (.list ((sn q2).map .str)), ⟨ρ, μ3⟩) := fun ρ => cal_fr ln2
  have s2U : NmsU (sn q2) := sset_U (namesA_U (by rw [hq2]; exact as2k))
  have lc : ∀ (s2 s3 s4 s5 s6 s7 s8 : Option Sl), lcR [10] (tgN 10) (andM (tstM (callM F_u_law_is_name (consM (slM 10) (ret [])))) (tstM (op2 notInG (slM 10) (slM 9)))) C_u_law_changed_1 (q.hd, none) ⟨[some (.pt 0), some (.fz q.enc), s2, s3, s4, s5, s6, s7, s8, some (.ow (.list ((sn q2).map .str))), none], μ3⟩ =
      some (.fr (.list (q.hd.filterMap (bad (sn q2)))), ⟨[some (.pt 0), some (.fz q.enc), s2, s3, s4, s5, s6, s7, s8, some (.ow (.list ((sn q2).map .str))), none], μ3⟩) := fun s2 s3 s4 s5 s6 s7 s8 => by
    refine lcR_pure (bad (sn q2)) rfl rfl fun d hd => ?_
    have hn := l_is_name_U μ3 d (k.h d hd)
    have hn0 : ∀ ρ, cal F_u_law_is_name [.fz d] ⟨ρ, μ3⟩ = some (.fz (.bool (nm d)), ⟨ρ, μ3⟩) := fun ρ => cal_fz hn
    by_cases c : nm d = true
    · obtain ⟨x, rfl, e⟩ := nmS_of c
      have hx := isIn_names (k.h _ hd) s2U
      have hx2 : notInG (.str x) (.list ((sn q2).map .str)) = some (.fz (.bool (!decide (x ∈ sn q2)))) := by
        unfold notInG; rw [hx]; rfl
      have eb : bad (sn q2) (.str x) = if x ∈ sn q2 then none else some (.str x) := by unfold bad; rw [e]
      rw [eb]
      generalize sn q2 = L at *
      by_cases c3 : x ∈ L <;> simp [wipeR, lock1, hn0, c, hx2, c3, C_u_law_changed_1]
    · have eb : bad (sn q2) d = none := by unfold bad; rw [nmS_none c]
      rw [eb]
      simp [wipeR, lock1, hn0, c]
  have badU : ∀ t ∈ q.hd.filterMap (bad (sn q2)), t ∈ U := fun t ht => by
    obtain ⟨u, hu, e⟩ := List.mem_filterMap.mp ht
    unfold bad at e
    split at e
    · split at e
      · cases e
      · cases e; exact k.h _ hu
    · cases e
  have enil := eq_nilU _ badU
  have el : (encS q.as).length = q.as.length := by simp [encS]
  have ex1 : ixG q.enc (.int 1) = some (.fz (.tuple q.hd)) := rfl
  have ex2 : ixG q.enc (.int 2) = some (.fz (.tuple (encS q.as))) := rfl
  have ix : ixG (.tuple (encS q.as)) (.int (i : Int)) = some (.fz (.tuple [a.tb, .tuple a.ts])) := by
    show (atI (encS q.as) (i : Int)).map _ = _
    rw [atI_nat]
    simp [encS, ga, At.enc]
  have al := add_lst ((sn q).map .str) [.int 1, .str "Red"] (by simp; omega)
  have c1 := cutT_to a.ts j (by omega)
  have c2 := cutT_from a.ts (j + 1) (by omega)
  have c4 := cutT_to (encS q.as) i (by omega)
  have c5 := cutT_from (encS q.as) (i + 1) (by omega)
  rw [show ((j + 1 : Nat) : Int) = (j : Int) + 1 by omega] at c2
  rw [show ((i + 1 : Nat) : Int) = (i : Int) + 1 by omega] at c5
  have a1 := add_tup (a.ts.take j) [v] (by simp; omega)
  have a2 := add_tup (a.ts.take j ++ [v]) (a.ts.drop (j + 1)) (by simp; omega)
  rw [← hts2] at a2
  have a3 := add_tup ((encS q.as).take i) [.tuple [a.tb, .tuple ts2]] (by simp; omega)
  have a4 := add_tup ((encS q.as).take i ++ [.tuple [a.tb, .tuple ts2]]) ((encS q.as).drop (i + 1)) (by simp; omega)
  have ea : (encS q.as).take i ++ [.tuple [a.tb, .tuple ts2]] ++ (encS q.as).drop (i + 1) = encS as2 := by
    rw [has2]; simp [encS, At.enc]
  rw [ea] at a4
  have eq2 : q2.enc = .tuple [.str "ask", .tuple q.hd, .tuple (encS as2)] := by rw [hq2]; rfl
  rw [eq2] at ln20
  have z := tk_ok ok ok3
  have lenE : lenG (.tuple (encS q.as)) = some (.fz (.int q.as.length)) := by rw [len_tuple, el]
  by_cases cb : q.hd.filterMap (bad (sn q2)) = []
  · refine ⟨q2, μ3, ?_, ok3, ?_⟩
    · rw [decide_eq_true cb] at enil
      rw [eq2]
      generalize hQ : q.enc = QE at *
      generalize q.hd.filterMap (bad (sn q2)) = BB at *
      generalize encS q.as = ES at *
      simp [F_u_law_changed, B_u_law_changed, ln0, ex2, lenE, d1, ix, d2, c1, al, p3, a1, c2, add_int, a2, ex1, c4, c5, a3, a4, ln20, lc, enil, z, -List.append_assoc, -List.cons_append, -List.take_append_drop, -len_tuple]
      simp [ex2, lenE, d1, ix, d2, c1, al, p3, a1, c2, add_int, a2, ex1, c4, c5, a3, a4, ln20, lc, enil, z, -List.append_assoc, -List.cons_append]
    · rw [hq2]
      refine ⟨as2k, by show 1 ≤ as2.length; omega, by show as2.length ≤ 5; omega, k.h, k.hl, fun x hx => ?_⟩
      obtain ⟨t, ht, e⟩ := List.mem_filterMap.mp hx
      by_cases c : x ∈ sn q2
      · have := (mem_sset x _).mp c
        rw [hq2] at this; exact this
      · have : t ∈ q.hd.filterMap (bad (sn q2)) := List.mem_filterMap.mpr ⟨t, ht, by unfold bad; rw [e]; simp only; rw [if_neg c]⟩
        rw [cb] at this; cases this
  · refine ⟨q, μ3, ?_, ok3, k⟩
    rw [decide_eq_false cb] at enil
    generalize hQ : q.enc = QE at *
    generalize q.hd.filterMap (bad (sn q2)) = BB at *
    generalize encS q.as = ES at *
    simp [F_u_law_changed, B_u_law_changed, ln0, ex2, lenE, d1, ix, d2, c1, al, p3, a1, c2, add_int, a2, ex1, c4, c5, a3, a4, ln20, lc, enil, z, -List.append_assoc, -List.cons_append, -List.take_append_drop, -len_tuple]
    simp [ex2, lenE, d1, ix, d2, c1, al, p3, a1, c2, add_int, a2, ex1, c4, c5, a3, a4, ln20, lc, enil, z, -List.append_assoc, -List.cons_append]
end K63
end
section
set_option Elab.async false
set_option linter.all false
set_option maxRecDepth 100000
set_option maxHeartbeats 4000000
namespace K63
open PySem PySem.Spec PyProof.Rows L2 DV PySem.W
/-! repr -/
def so (x : Str) : Prop := PyData.strOk x = true
theorem so_app {a b : Str} (h : so a) (k : so b) : so (a ++ b) := by
  have e : (a ++ b).cps = a.cps ++ b.cps := rfl
  unfold so PyData.strOk at *
  rw [e, Array.all_append, h, k]; rfl
theorem so_join {s : Str} (hs : so s) : ∀ {ts : List Str}, (∀ t ∈ ts, so t) → so (Str.join s ts)
  | [], _ => by show PyData.strOk Str.empty = true; decide +kernel
  | [x], h => h x (List.mem_cons_self ..)
  | x :: y :: r, h => so_app (so_app (h x (List.mem_cons_self ..)) hs) (so_join hs fun t ht => h t (List.mem_cons_of_mem _ ht))
theorem so_from : ∀ {ts : List Str} {k : Nat} {acc : Str}, so acc → (∀ t ∈ ts, so t) → so (textFrom k acc ts)
  | [], _, _, h, _ => h
  | t :: ts, k, acc, h, ht => by
    unfold textFrom
    refine so_from (so_app (so_app h ?_) (ht t (List.mem_cons_self ..))) fun u hu => ht u (List.mem_cons_of_mem _ hu)
    split
    · exact (by decide +kernel : PyData.strOk (", " : String) = true)
    · exact (by decide +kernel : PyData.strOk ("" : String) = true)
structure Gd (k w : Nat) (d : D) : Prop where
  c : d.canLay0 = true
  e : d.depth ≤ k
  w : d.weight ≤ w
  i : d.intsShort 13 = true
  s : d.showable = true
  t : so d.shown
theorem gd_all {k w : Nat} : ∀ {ds : List D}, (∀ d ∈ ds, Gd k w d) → PyData.canLayAll0 ds = true ∧ PyData.depthAll ds ≤ k ∧ PyData.weightAll ds ≤ ds.length * (w + 1) ∧ PyData.intsShortAll 13 ds = true ∧ PyData.showableAll ds = true ∧ ∀ t ∈ PyData.shownAll ds, so t
  | [], _ => ⟨rfl, Nat.zero_le _, by simp [PyData.weightAll], by simp [PyData.intsShortAll], by simp [PyData.showableAll], fun t ht => by simp [PyData.shownAll] at ht⟩
  | d :: ds, h => by
    obtain ⟨h1, h2, h3, h4, h5, h6⟩ := gd_all (ds := ds) fun x hx => h x (List.mem_cons_of_mem _ hx)
    have g := h d (List.mem_cons_self ..)
    refine ⟨by simp [PyData.canLayAll0, g.c, h1], ?_, ?_, by simp [PyData.intsShortAll, g.i, h4], by simp [PyData.showableAll, g.s, h5], fun t ht => ?_⟩
    · have := g.e; simp only [PyData.depthAll]; omega
    · have := g.w
      simp only [PyData.weightAll, List.length_cons, Nat.add_mul, Nat.one_mul]
      omega
    · simp only [PyData.shownAll, List.mem_cons] at ht
      rcases ht with rfl | ht
      · exact g.t
      · exact h6 t ht
theorem gd_lst {k w n : Nat} {ds : List D} (h : ∀ d ∈ ds, Gd k w d) (hn : ds.length ≤ n) : Gd (k + 1) (n * (w + 1)) (.list ds) := by
  obtain ⟨h1, h2, h3, h4, h5, h6⟩ := gd_all h
  refine ⟨by simp [PyData.canLay0, h1], by simp only [PyData.depth]; omega, ?_, by simp [PyData.intsShort, h4], by simp [PyData.showable, h5], ?_⟩
  · simp only [PyData.weight]; exact Nat.le_trans h3 (Nat.mul_le_mul_right _ hn)
  · simp only [PyData.shown]
    exact so_app (so_from (by show PyData.strOk _ = true; decide +kernel) h6) (by show PyData.strOk _ = true; decide +kernel)
theorem gd_tup {k w n : Nat} {ds : List D} (h : ∀ d ∈ ds, Gd k w d) (hn : ds.length ≤ n) : Gd (k + 1) (n * (w + 1)) (.tuple ds) := by
  obtain ⟨h1, h2, h3, h4, h5, h6⟩ := gd_all h
  refine ⟨by simp [PyData.canLay0, h1], by simp only [PyData.depth]; omega, ?_, by simp [PyData.intsShort, h4], by simp [PyData.showable, h5], ?_⟩
  · simp only [PyData.weight]; exact Nat.le_trans h3 (Nat.mul_le_mul_right _ hn)
  · simp only [PyData.shown]
    refine so_app (so_app (by show PyData.strOk _ = true; decide +kernel) (so_join (by show PyData.strOk _ = true; decide +kernel) h6)) ?_
    split <;> (show PyData.strOk _ = true; decide +kernel)
theorem gd_mono {k w k' w' : Nat} {d : D} (h : Gd k w d) (hk : k ≤ k') (hw : w ≤ w') : Gd k' w' d := ⟨h.c, Nat.le_trans h.e hk, Nat.le_trans h.w hw, h.i, h.s, h.t⟩
theorem gd_U : ∀ d ∈ U, Gd 0 9 d := by
  refine U_ind ⟨?_, ?_, ?_, ?_, ?_, ?_, ?_, ?_, ?_, ?_, ?_, ?_, ?_, ?_, ?_, ?_, ?_, ?_, ?_, ?_, ?_, ?_, ?_, ?_, ?_, ?_, ?_, ?_, ?_, ?_, ?_⟩ <;> exact ⟨by decide +kernel, by decide +kernel, by decide +kernel, by decide +kernel, by decide +kernel, by show PyData.strOk _ = true; decide +kernel⟩
theorem gd_Tb : ∀ d ∈ Tb, Gd 0 9 d := by
  refine Tb_ind ⟨?_, ?_, ?_⟩ <;> exact ⟨by decide +kernel, by decide +kernel, by decide +kernel, by decide +kernel, by decide +kernel, by show PyData.strOk _ = true; decide +kernel⟩
theorem gd_at {a : At} (h : a.ok) : Gd 2 100 a.enc := by
  have har := ar_le a.tb h.1
  have h3 := h.2.2
  refine gd_mono (gd_tup (k := 1) (w := 40) (n := 2) (fun d hd => ?_) (by simp)) (by omega) (by omega)
  simp only [List.mem_cons, List.not_mem_nil, or_false] at hd
  rcases hd with rfl | rfl
  · exact gd_mono (gd_Tb _ h.1) (by omega) (by omega)
  · exact gd_mono (gd_tup (k := 0) (w := 9) (n := 3) (fun d hd => gd_U d (h.2.1 d hd)) (by omega)) (by omega) (by omega)
theorem gd_qn {q : Qn} (k : q.pl) (h1 : q.hd.length ≤ 2) (h2 : q.as.length ≤ 5) : Gd 4 3000 q.enc := by
  refine gd_mono (gd_tup (k := 3) (w := 600) (n := 3) (fun d hd => ?_) (by simp)) (by omega) (by omega)
  simp only [List.mem_cons, List.not_mem_nil, or_false] at hd
  rcases hd with rfl | rfl | rfl
  · exact ⟨by decide +kernel, by decide +kernel, by decide +kernel, by decide +kernel, by decide +kernel, by show PyData.strOk _ = true; decide +kernel⟩
  · exact gd_mono (gd_tup (k := 0) (w := 9) (n := 2) (fun d hd => gd_U d (k.h d hd)) h1) (by omega) (by omega)
  · refine gd_mono (gd_tup (k := 2) (w := 100) (n := 5) (fun d hd => ?_) (by simpa [encS] using h2)) (by omega) (by omega)
    obtain ⟨x, hx, rfl⟩ := List.mem_map.mp hd
    exact gd_at (k.a x hx)
theorem repr_gd {ds : List D} {k w : Nat} (h : Gd k w (.list ds)) (hk : k ≤ 64) (hw : w ≤ 2 ^ 20) : reprG (.list ds) = some (.fz (.str (PyData.list ds).shown)) := by
  have e : (PyData.list ds).layable0 = true := by
    unfold PyData.layable0
    have h1 := h.e
    have h2 := h.w
    rw [h.c, decide_eq_true (show (PyData.list ds).depth ≤ 64 by omega), decide_eq_true (show (PyData.list ds).weight ≤ 2 ^ 20 by omega)]; rfl
  show (if (PyData.list ds).layable0 = true ∧ (PyData.list ds).intsShort 13 = true ∧ (PyData.list ds).showable = true then strR (PyData.list ds).shown else none) = _
  rw [if_pos ⟨e, h.i, h.s⟩]; rfl
theorem ne_self {x : Str} (h : so x) : neG (.str x) (.str x) = some (.fz (.bool false)) := by
  have h : SeqAt.shaped (.str x) = true := by
    unfold SeqAt.shaped
    rw [show (PyData.str x).canLay0 = PyData.strOk x from rfl, show PyData.strOk x = true from h]; rfl
  show (if SeqAt.shaped (.str x) = true ∧ SeqAt.shaped (.str x) = true then boolR (!PyData.eqv (.str x) (.str x)) else none) = _
  rw [if_pos ⟨h, h⟩, eqv_str]
  simp
/-! the pot -/
theorem pot_ok (ns : List Int) : ∃ x y : Int, F_u_law_pot [.fz (.list (ns.map .int)), .fz (.int 0)] [] = some (.fr (.list [.int x, .int y]), []) := by
  have p1 : intG powF (.int 10) (.int 18) = some (.fz (.int (10 ^ 18))) := by kernel_rfl
  have m0 : mulG (.int 13513) (.int 0) = some (.fz (.int 0)) := rfl
  have m1 : mulG (.int 13411) (.int 0) = some (.fz (.int 0)) := rfl
  have sb : ∀ i j : Int, subG (.int i) (.int j) = some (.fz (.int (i - j))) := fun _ _ => rfl
  have mx : ∀ i j : Int, maxG (.int i) (.int j) = some (.fz (.int (if j > i then j else i))) := fun _ _ => rfl
  have ab : ∀ i : Int, absG (.int i) = some (.fz (.int (if i < 0 then -i else i))) := fun _ => rfl
  have lt : ∀ i j : Int, ltG (.int i) (.int j) = some (.fz (.bool (decide (i < j)))) := fun _ _ => rfl
  have md1 : ∀ i : Int, intG modF (.int i) (.int 2147483549) = some (.fz (.int (i % 2147483549))) := fun i => mod_int i _ (by decide)
  have md2 : ∀ i : Int, intG modF (.int i) (.int 2147483563) = some (.fz (.int (i % 2147483563))) := fun i => mod_int i _ (by decide)
  have ml : ∀ i : Int, mulG (.int i) (.int 13003) = some (.fz (.int (i * 13003))) := fun i => mul_r i _ (by decide)
  cases ns with
  | nil =>
    simp [F_u_law_pot, B_u_law_pot, lt, m0, m1, add_int, p1, sb, mx, int1_int, md1, md2, ml]
  | cons n ns =>
    have pos : (0 : Int) < (ns.length : Int) + 1 := by omega
    have ix : ixG (.list (.int n :: ns.map .int)) (.int 0) = some (.fz (.int n)) := by
      show (atI _ ((0 : Nat) : Int)).map _ = _
      rw [atI_nat]; rfl
    simp [F_u_law_pot, B_u_law_pot, lt, pos, ix, ab, m0, m1, add_int, p1, sb, mx, int1_int, md1, md2, ml]
end K63
end
section
set_option Elab.async false
set_option linter.all false
set_option maxRecDepth 100000
set_option maxHeartbeats 8000000
namespace K63
open PySem PySem.Spec PyProof.Rows L2 DV PySem.W
theorem hn_rn {q : Qn} {p : List At} {r : Str → Str} (h : ∀ x ∈ nms q.hd, x ∈ namesA q.as) (pm : p.Perm q.as) : ∀ x ∈ nms (q.hd.map (rn r)), x ∈ namesA (p.map (rnA r)) := fun x hx => by
  obtain ⟨t, ht, e⟩ := List.mem_filterMap.mp hx
  obtain ⟨u, hu, rfl⟩ := List.mem_map.mp ht
  cases c : nmS u with
  | none => unfold rn at e; rw [c] at e; simp only at e; rw [c] at e; cases e
  | some y =>
    have hy := h y (List.mem_filterMap.mpr ⟨u, hu, c⟩)
    obtain ⟨a, ha, h2⟩ := List.mem_flatMap.mp hy
    obtain ⟨v, hv, h3⟩ := List.mem_filterMap.mp h2
    have ev : v = u := (nmS_eq h3).1.trans (nmS_eq c).1.symm
    subst ev
    exact List.mem_flatMap.mpr ⟨rnA r a, List.mem_map.mpr ⟨a, pm.mem_iff.mpr ha, rfl⟩, List.mem_filterMap.mpr ⟨rn r v, List.mem_map.mpr ⟨v, hv, rfl⟩, e⟩⟩
theorem form_ok {q d : Qn} (k : q.ok) (f : Form q d) : d.ok := by
  have ml := min_len f.m
  have n0 := k.n0
  have n1 := k.n1
  refine ⟨f.o, by omega, by omega, (form_pl k f).h, by rw [f.h]; simpa using k.hl, ?_⟩
  obtain ⟨p, p1, p2⟩ := f.m.1
  have e1 : d.as = p.map (rnA (rof (wtA (wt [] q.hd) p))) := by rw [p2]; exact spl_ext fun _ _ h => h
  have e2 : d.hd = q.hd.map (rn (rof (wtA (wt [] q.hd) p))) := by rw [f.h]; exact ap_ext (wt_has _ _) fun _ _ h => wtA_keep h
  rw [e1, e2]
  exact hn_rn k.hn p1
theorem repr_bb (b : Bool) : ∃ Y, reprG (.list [.bool true, .bool b, .bool b]) = some (.fz (.str Y)) ∧ neG (.str Y) (.str Y) = some (.fz (.bool false)) := by
  have g : ∀ d ∈ [PyData.bool true, .bool b, .bool b], Gd 0 0 d := fun d hd => by
    simp only [List.mem_cons, List.not_mem_nil, or_false] at hd
    have t : Gd 0 0 (.bool true) := ⟨by decide +kernel, by decide +kernel, by decide +kernel, by decide +kernel, by decide +kernel, by show PyData.strOk _ = true; decide +kernel⟩
    have f : Gd 0 0 (.bool false) := ⟨by decide +kernel, by decide +kernel, by decide +kernel, by decide +kernel, by decide +kernel, by show PyData.strOk _ = true; decide +kernel⟩
    rcases hd with rfl | rfl | rfl
    · exact t
    · cases b
      · exact f
      · exact t
    · cases b
      · exact f
      · exact t
  have h := gd_lst (n := 3) g (by simp)
  exact ⟨_, repr_gd h (by omega) (by omega), ne_self h.t⟩
structure Facts (q1 : Qn) (μ2 : List (Int × Int)) (d q' q'' e : Qn) (b : Bool) (X Y : Str) (μ3 μ4 : List (Int × Int)) : Prop where
  ok : Ok μ4
  f1 : ∀ ρ, cal F_u_law_shape [.fz q1.enc] ⟨ρ, μ2⟩ = some (.fz d.enc, ⟨ρ, μ2⟩)
  f2 : ∀ ρ, cal F_u_law_other [.pt 0, .fz q1.enc] ⟨ρ, μ2⟩ = some (.fz q'.enc, ⟨ρ, μ3⟩)
  f3 : ∀ ρ, cal F_u_law_changed [.pt 0, .fz q1.enc] ⟨ρ, μ3⟩ = some (.fz q''.enc, ⟨ρ, μ4⟩)
  f4 : ∀ ρ, cal F_form_of [.fz q1.enc] ⟨ρ, μ4⟩ = some (.fz d.enc, ⟨ρ, μ4⟩)
  f5 : ∀ ρ, cal F_form_of [.fz q'.enc] ⟨ρ, μ4⟩ = some (.fz d.enc, ⟨ρ, μ4⟩)
  f6 : ∀ ρ, cal F_form_of [.fz d.enc] ⟨ρ, μ4⟩ = some (.fz d.enc, ⟨ρ, μ4⟩)
  r1 : reprG (.list [d.enc, d.enc, d.enc]) = some (.fz (.str X))
  r2 : neG (.str X) (.str X) = some (.fz (.bool false))
  f7 : ∀ ρ, cal F_u_law_shape [.fz q''.enc] ⟨ρ, μ4⟩ = some (.fz e.enc, ⟨ρ, μ4⟩)
  f8 : eqG e.enc d.enc = some (.fz (.bool b))
  f9 : ∀ ρ, cal F_are_one_form [.fz q1.enc, .fz q'.enc] ⟨ρ, μ4⟩ = some (.fz (.bool true), ⟨ρ, μ4⟩)
  f10 : ∀ ρ, cal F_are_one_form [.fz q1.enc, .fz q''.enc] ⟨ρ, μ4⟩ = some (.fz (.bool b), ⟨ρ, μ4⟩)
  f11 : ∀ ρ, cal F_are_one_form [.fz q''.enc, .fz q'.enc] ⟨ρ, μ4⟩ = some (.fz (.bool b), ⟨ρ, μ4⟩)
  r3 : reprG (.list [.bool true, .bool b, .bool b]) = some (.fz (.str Y))
  r4 : neG (.str Y) (.str Y) = some (.fz (.bool false))
open Classical in
theorem law_facts {q1 : Qn} (k : q1.ok) (hs : (sn q1).length ≤ 6) {μ2 : List (Int × Int)} (ok : Ok μ2) : ∃ d q' q'' e b X Y μ3 μ4, Facts q1 μ2 d q' q'' e b X Y μ3 μ4 := by
  obtain ⟨d, s1, fd⟩ := l_shape_ok μ2 k
  obtain ⟨q', μ3, o1, ok3, k', ff⟩ := l_other_ok ok k hs
  obtain ⟨q'', μ4, c1, ok4, k''⟩ := l_changed_ok ok3 k hs
  have fd' := ff d fd
  have dk := form_ok k fd
  have fdd := form_self k fd
  obtain ⟨d1, g1, h1⟩ := form_of_ok μ4 k
  cases form_uniq fd h1
  obtain ⟨d2, g2, h2⟩ := form_of_ok μ4 k'
  cases form_uniq fd' h2
  obtain ⟨d3, g3, h3⟩ := form_of_ok μ4 dk
  cases form_uniq fdd h3
  obtain ⟨e, s2, fe⟩ := l_shape_ok μ4 k''
  have gd : ∀ x ∈ [d.enc, d.enc, d.enc], Gd 4 3000 x := fun x hx => by
    simp only [List.mem_cons, List.not_mem_nil, or_false, or_self] at hx
    rw [hx]
    exact gd_qn dk.pl dk.hl dk.n1
  have gl := gd_lst (n := 3) gd (by simp)
  obtain ⟨Y, y1, y2⟩ := repr_bb (decide (e = d))
  have ek := form_ok k'' fe
  have a1 := are_one_ok μ4 k k' fd fd'
  have a2 := are_one_ok μ4 k k'' fd fe
  have a3 := are_one_ok μ4 k'' k' fe fd'
  have sy : decide (d = e) = decide (e = d) := decide_eq_decide.mpr ⟨Eq.symm, Eq.symm⟩
  rw [sy] at a2
  rw [decide_eq_true rfl] at a1
  exact ⟨d, q', q'', e, decide (e = d), _, Y, μ3, μ4, ok4, fun ρ => cal_fz s1, fun ρ => cal_fz o1, fun ρ => cal_fz c1, fun ρ => cal_fz g1, fun ρ => cal_fz g2, fun ρ => cal_fz g3, repr_gd gl (by omega) (by omega), ne_self gl.t, fun ρ => cal_fz s2, qn_eq ek.pl dk.pl, fun ρ => cal_fz a1, fun ρ => cal_fz a2, fun ρ => cal_fz a3, y1, y2⟩
def Fst (o2 o3 o4 o5 o6 o7 o8 : Option Sl) : Prop := (o2 = none ∧ o3 = none ∧ o4 = none ∧ o5 = none ∧ o6 = none ∧ o7 = none ∧ o8 = none) ∨
  ∃ d2 d3 d4 d5 d6 d7 d8 : D, o2 = some (.fz d2) ∧ o3 = some (.fz d3) ∧ o4 = some (.fz d4) ∧ o5 = some (.fz d5) ∧ o6 = some (.fz d6) ∧ o7 = some (.fz d7) ∧ o8 = some (.ow d8)
theorem law_step {μ : List (Int × Int)} (ok : Ok μ) {s : D} {i : Int} {o2 o3 o4 o5 o6 o7 o8 : Option Sl} (h : Fst o2 o3 o4 o5 o6 o7 o8) :
    ∃ p2 p3 p4 p5 p6 p7 p8 μ', bnd (tgN 2 (.int i)) (fun _ => L_law_1) ⟨[some (.fz s), some (.pt 0), o2, o3, o4, o5, o6, o7, o8], μ⟩ = some (.nx, ⟨[some (.fz s), some (.pt 0), p2, p3, p4, p5, p6, p7, p8], μ'⟩) ∧ Ok μ' ∧ Fst p2 p3 p4 p5 p6 p7 p8 := by
  obtain ⟨g, μ1, e1, ok1, g0, g1⟩ := draw_ok ok (n := 3) (by decide) (by decide)
  have d1 : ∀ ρ, cal F_u_law_draw [.pt 0, .fz (.int 3)] ⟨ρ, μ⟩ = some (.fz (.int g), ⟨ρ, μ1⟩) := fun ρ => cal_fz e1
  obtain ⟨q, μ2, e2, ok2, k, k4, ns, nl, nm⟩ := l_question_ok ok1 g0 g1
  have d2 : ∀ ρ, cal F_u_law_question [.pt 0, .fz (.int 4), .fz (.int g)] ⟨ρ, μ1⟩ = some (.fz q.enc, ⟨ρ, μ2⟩) := fun ρ => cal_fz e2
  have n0 := k.n0
  by_cases c : i = 0
  · subst c
    obtain ⟨q1, hq1⟩ : ∃ q1 : Qn, q1 = ⟨q.hd, q.as ++ q.as.take 1⟩ := ⟨_, rfl⟩
    have memA : ∀ x ∈ namesA q1.as, x ∈ namesA q.as := fun x hx => by
      rw [hq1] at hx
      obtain ⟨a, ha, h2⟩ := List.mem_flatMap.mp hx
      refine List.mem_flatMap.mpr ⟨a, ?_, h2⟩
      exact (List.mem_append.mp ha).elim id List.mem_of_mem_take
    have k1 : q1.ok := by
      rw [hq1]
      refine ⟨fun x hx => k.a x ((List.mem_append.mp hx).elim id List.mem_of_mem_take), ?_, ?_, k.h, k.hl, fun x hx => ?_⟩
      · show 1 ≤ (q.as ++ q.as.take 1).length
        simp only [List.length_append]; omega
      · show (q.as ++ q.as.take 1).length ≤ 5
        simp only [List.length_append, List.length_take]; omega
      · obtain ⟨a, ha, h2⟩ := List.mem_flatMap.mp (k.hn x hx)
        exact List.mem_flatMap.mpr ⟨a, List.mem_append_left _ ha, h2⟩
    have s1 : (sn q1).length ≤ 6 := by
      have := nodup_sub (l := sn q1) (m := ns) (up_nodup (up_sset _)) fun x hx => nm x (memA x ((mem_sset x _).mp hx))
      omega
    obtain ⟨d, q', q'', e, b, X, Y, μ3, μ4, F⟩ := law_facts k1 s1 ok2
    obtain ⟨okF, f1, f2, f3, f4, f5, f6, r1, r2, f7, f8, f9, f10, f11, r3, r4⟩ := F
    have eq1 : q1.enc = .tuple [.str "ask", .tuple q.hd, .tuple (encS q.as ++ (encS q.as).take 1)] := by rw [hq1]; simp [Qn.enc, encS]
    have el : (encS q.as).length = q.as.length := by simp [encS]
    have ex1 : ixG q.enc (.int 1) = some (.fz (.tuple q.hd)) := rfl
    have ex2 : ixG q.enc (.int 2) = some (.fz (.tuple (encS q.as))) := rfl
    have cu : slG (.tuple (encS q.as)) none (some (1 : Int)) = some (.fz (.tuple ((encS q.as).take 1))) := cutT_to (encS q.as) 1 (by omega)
    have ad := add_tup (encS q.as) ((encS q.as).take 1) (by simp; omega)
    rw [eq1] at f1 f2 f3 f4 f9 f10
    refine ⟨some (.fz (.int 0)), some (.fz q1.enc), some (.fz d.enc), some (.fz q'.enc), some (.fz q''.enc), some (.fz (.bool b)), some (.ow (.list [.bool true, .bool b, .bool b])), μ4, ?_, okF, .inr ⟨_, _, _, _, _, _, _, rfl, rfl, rfl, rfl, rfl, rfl, rfl⟩⟩
    rw [eq1]
    generalize q.enc = QE at *
    generalize d.enc = DE at *
    generalize q'.enc = QE1 at *
    generalize q''.enc = QE2 at *
    generalize e.enc = EE at *
    generalize encS q.as = ES at *
    rcases h with ⟨rfl, rfl, rfl, rfl, rfl, rfl, rfl⟩ | ⟨_, _, _, _, _, _, _, rfl, rfl, rfl, rfl, rfl, rfl, rfl⟩ <;>
      simp [L_law_1, d1, d2, ex1, ex2, cu, ad, f1, f2, f3, f4, f5, f6, pick, r1, repD, r2, f7, f8, f9, f10, f11, r3, r4]
  · have c2 : (i == 0) = false := by simpa using c
    have s1 : (sn q).length ≤ 6 := by
      have := nodup_sub (l := sn q) (m := ns) (up_nodup (up_sset _)) fun x hx => nm x ((mem_sset x _).mp hx)
      omega
    obtain ⟨d, q', q'', e, b, X, Y, μ3, μ4, F⟩ := law_facts k s1 ok2
    obtain ⟨okF, f1, f2, f3, f4, f5, f6, r1, r2, f7, f8, f9, f10, f11, r3, r4⟩ := F
    refine ⟨some (.fz (.int i)), some (.fz q.enc), some (.fz d.enc), some (.fz q'.enc), some (.fz q''.enc), some (.fz (.bool b)), some (.ow (.list [.bool true, .bool b, .bool b])), μ4, ?_, okF, .inr ⟨_, _, _, _, _, _, _, rfl, rfl, rfl, rfl, rfl, rfl, rfl⟩⟩
    generalize q.enc = QE at *
    generalize d.enc = DE at *
    generalize q'.enc = QE1 at *
    generalize q''.enc = QE2 at *
    generalize e.enc = EE at *
    rcases h with ⟨rfl, rfl, rfl, rfl, rfl, rfl, rfl⟩ | ⟨_, _, _, _, _, _, _, rfl, rfl, rfl, rfl, rfl, rfl, rfl⟩ <;>
      simp [L_law_1, d1, d2, c, c2, f1, f2, f3, f4, f5, f6, pick, r1, repD, r2, f7, f8, f9, f10, f11, r3, r4]
theorem law_loop {s : D} : ∀ (is : List Int) {μ : List (Int × Int)}, Ok μ → ∀ {o2 o3 o4 o5 o6 o7 o8 : Option Sl}, Fst o2 o3 o4 o5 o6 o7 o8 →
    ∃ p2 p3 p4 p5 p6 p7 p8 μ', forL (tgN 2) L_law_1 (is.map .int) ⟨[some (.fz s), some (.pt 0), o2, o3, o4, o5, o6, o7, o8], μ⟩ = some (.nx, ⟨[some (.fz s), some (.pt 0), p2, p3, p4, p5, p6, p7, p8], μ'⟩)
  | [], μ, _, o2, o3, o4, o5, o6, o7, o8, _ => ⟨o2, o3, o4, o5, o6, o7, o8, μ, rfl⟩
  | i :: is, μ, ok, o2, o3, o4, o5, o6, o7, o8, h => by
    obtain ⟨p2, p3, p4, p5, p6, p7, p8, μ1, e1, ok1, h1⟩ := law_step ok (s := s) (i := i) h
    obtain ⟨r2, r3, r4, r5, r6, r7, r8, μ2, e2⟩ := law_loop (s := s) is ok1 h1
    refine ⟨r2, r3, r4, r5, r6, r7, r8, μ2, ?_⟩
    rw [List.map_cons, forL_next e1]
    exact e2
theorem pure_law (ns : List Int) : F_law [.fz (.list (ns.map .int))] [] = some (.fz (.bool true), []) := by
  obtain ⟨x, y, e⟩ := pot_ok ns
  have e0 : ∀ ρ, cal F_u_law_pot [.fz (.list (ns.map .int)), .fz (.int 0)] ⟨ρ, []⟩ = some (.fr (.list [.int x, .int y]), ⟨ρ, []⟩) := fun ρ => cal_fr e
  obtain ⟨p2, p3, p4, p5, p6, p7, p8, μ1, e1⟩ := law_loop (s := .list (ns.map .int)) [0, 1, 2] (μ := [(x, y)]) ⟨x, y, rfl⟩ (o2 := none) (o3 := none) (o4 := none) (o5 := none) (o6 := none) (o7 := none) (o8 := none) (.inl ⟨rfl, rfl, rfl, rfl, rfl, rfl, rfl⟩)
  have hr : ∀ e, rng1M (consM (fzM (.int 3)) (ret [])) e = some (([.int 0, .int 1, .int 2], none), e) := fun e => rng1_ap _ _ e [.fz (.int 3)] 3 rfl rfl rfl (by decide) (by decide)
  have em : ([0, 1, 2] : List Int).map PyData.int = [.int 0, .int 1, .int 2] := rfl
  rw [em] at e1
  generalize PyData.list (ns.map PyData.int) = S at *
  simp [F_law, B_law, e0, hr, forR_none, e1]
end K63
end
section
set_option Elab.async false
set_option linter.all false
set_option maxRecDepth 100000
set_option maxHeartbeats 0
namespace K63
open PySem PySem.Spec PyProof.Rows L2 DV
abbrev R : PySem.W.OpenRow := PySem.W.OpenLaw.row PySem.Challenge.rw_markedrows_k63_whole_forms
abbrev hk : PySem.W.Hook := He.hookD 4 fas fns
def ob (s : PySem.W.SharedT) : He.AlD := He.obsDG 4 fas fns (HandSHeadRun.getT s)
theorem ob_eq (s : PySem.W.SharedT) : ob s = hk.obs s.abs := He.obsDG_eq (HandSHeadRun.getT_eq s)
def looseA : List Str := ["RowError", "InvalidQuestion", "MOST_NAME", "MOST_WORD", "MOST_VALUE", "SMALL", "CAPITALS", "DIGITS", "is_integer", "is_row", "is_name", "is_word", "is_value", "is_term", "value_key", "ASK", "MOST_HEAD", "MOST_TERMS", "MOST_ATOMS", "is_terms", "is_atom", "unlike_table", "names_in", "is_question_of", "led_terms", "want_question", "LETTERS", "term_key", "atom_key", "with_terms"]
def looseB : List Str := ["least_from", "form_in", "form_of", "are_one_form", "_law_pot", "_law_draw", "_law_pick", "_law_terms", "_law_question", "_law_is_name", "_law_names", "_law_led", "_law_term_key", "_law_atom_key", "_law_sequences", "_law_spelled", "_law_shape", "_law_other", "_law_changed"]
abbrev loose : List Str := looseA ++ looseB
theorem run (w : World) : HandSHeadRun.RunEq R (PySem.W.view R.prog [54]) hk ob 4000 loose w := by
  intro os
  kernel_rfl
end K63
end
set_option Elab.async false
set_option linter.all false
set_option maxRecDepth 100000
set_option maxHeartbeats 0
namespace K63
open PySem PySem.Spec PyProof.Rows L2 DV
end K63
open PySem PySem.W PySem.Calls PyProof.Rows
theorem PySem.Challenge.cw_markedrows_k63_whole_forms_holds : PySem.Challenge.rw_markedrows_k63_whole_forms.Holds := by
  w_on; o_law
  refine HandSHeadRun.head_any (r := OpenLaw.row PySem.Challenge.rw_markedrows_k63_whole_forms) (q := view (OpenLaw.row PySem.Challenge.rw_markedrows_k63_whole_forms).prog [54]) (H := K63.hk) (ob := K63.ob) (M := 4000) (loose := K63.loose)
    (d := HandSHeadRun.topDef (OpenLaw.row PySem.Challenge.rw_markedrows_k63_whole_forms).prog 54) (kwd := []) K63.ob_eq
    (by kernel_rfl) (fun s => by kernel_rfl) K63.run (by kernel_rfl) (by kernel_rfl) (by kernel_rfl) (by rfl) (by first | assumption | decide +kernel) (by decide +kernel) ⟨rfl, rfl, rfl, rfl, rfl, by decide +kernel⟩ ?hw ?hc
  case hw => w_witness2
  case hc =>
    refine DV.law_walk (l := PySem.Challenge.rw_markedrows_k63_whole_forms) (n := 63) (x := "script") rfl (by decide) (by kernel_rfl) ?F
    intro w mg fa h Y G hmg0
    obtain ⟨K, KX, c⟩ := Y
    have hmg : mg ("law" : PySem.Str) = some (.ref fa) := by
      have e : (HandSHeadRun.topDef (OpenLaw.row PySem.Challenge.rw_markedrows_k63_whole_forms).prog 54).name = ("law" : PySem.Str) := by kernel_rfl
      rw [← e]
      exact hmg0
    obtain ⟨W, fd, F⟩ := K63.world KX G hmg c
    have b := L2.FunD.bindsA (ps := ["script"]) F fun _ _ _ _ _ _ us hl => match us, hl with | [_], _ => rfl
    exact ⟨K, fd, K63.F_law, KX, fun s v => b s [v] rfl, fun ns _ => K63.pure_law ns, fun base _ _ => K63.ok_law W F⟩
