import PyProof.Rows.All
import Wide.All
import OpenK.AllK
import Wide.FinOn
import HandS.ForMost
import HandS.Star
import HandS.TupAny
import HandS.Wide
import HandS.SortInts
import HandS.Conv
import HandS.Strs
import HandS.SetFor
import HandS.Style
import PyProof.ReprRoads
import HandS.Iter
import HandS.Zip
import HandS.EndBits
import HandS.WideBits
import HandS.TryOnly
import KE.GoesZip
import KE.GoesMore
import KE.DataCmp
import KE.KRevSl
import KE.GoesEnum
import PyProof.Rows.ChunkLeaf
import HandS.Flow
import HandS.IsInst
import KE.SortData
import KE.KDictPairs
import PySem.Challenge.RW_canpath_k10_certificates_returned
set_option Elab.async false
set_option linter.all false
set_option maxRecDepth 100000
set_option maxHeartbeats 4000000
namespace PL
open PySem L2
/-- a tuple whose object bears no dict -/
def TupB (H : Hp) (p : Addr) (xs : List V) : Prop := ∃ o : Obj, H p = some (.frz o (.tup xs)) ∧ o.dict = none
theorem TupB.sq {K : PySem.W.Frag} {H : Hp} {p : Addr} {xs : List V} (h : TupB H p xs) : SqT K H p xs := by
  obtain ⟨o, e, _⟩ := h
  exact .inl (.inr ⟨o, e⟩)
theorem TupB.at_ {H H' : Hp} {p : Addr} {xs : List V} (h : TupB H p xs) (k : ∀ o, H p = some o → H' p = some o) : TupB H' p xs := by
  obtain ⟨o, e, d⟩ := h
  exact ⟨o, k _ e, d⟩
theorem TupB.there {H : Hp} {p : Addr} {xs : List V} (h : TupB H p xs) : H p ≠ none := by
  obtain ⟨o, e, _⟩ := h
  rw [e]
  intro z
  cases z
def bareT (its : List Value) : Obj := { cls := .type "tuple", data := .seq its.toArray }
/-- what is laid new -/
def NewT (H : Hp) (xs : List V) (Q : VK) : Prop := ∀ (p : Addr) (o : Obj), H p = none → o.dict = none → Q (.ref p) (upd H p (.frz o (.tup xs)))
theorem layT {X : Cx} {pins : List (Addr × Obj)} {σ : St} {H : Hp} {s : Shared} {xs : List V} {its : List Value} {Q : VK} (I : Inv X pins σ H s) (r : Vals xs its) (hz : xs.length ≤ sizeLine) (q : NewT H xs Q) :
    EP X pins σ Q (.ref s.heap.objs.size) { s with heap := s.heap.push (bareT its) } := by
  have fr := I.hok.fresh (Nat.le_refl s.heap.objs.size)
  have new : ObjOk X.prog X.w (upd H s.heap.objs.size (.frz (bareT its) (.tup xs))) (s.heap.push (bareT its)) s.heap.objs.size (.frz (bareT its) (.tup xs)) := ⟨Heap.get?_push_size _ rfl, hz, its, r, bareT its, Heap.get?_push_size _ rfl, rfl, _, rfl⟩
  exact ⟨.ref s.heap.objs.size, _, I.laid (t' := s.toks) (fun b u e => Heap.get?_push_of_some _ e) (Nat.le_refl _) new, rfl, q _ _ fr rfl⟩
section
variable {X : Cx}
/-- a display -/
def tTupB (t : TA) : TE := fun σ H Q => t σ H fun xs H1 => xs.length ≤ sizeLine ∧ NewT H1 xs Q
theorem pe_tupB {es : List Expr} {pos : Pos} {t : TA} {x1 : Nat} (h : PA X es t) : PE X (.Tuple es x1 pos) (tTupB t) := by
  constructor
  intro pins s σ H Q I hq
  apply wpAny_Tuple_spliced
  refine thn (h.run pos pins s σ H _ I hq) ?_
  rintro us s1 ⟨xs, H1, I1, r, z, q⟩
  exact ⟨by rw [← r.length]; exact z, layT I1 r z q⟩
/-- tuple(list), tuple(tuple) -/
def rTupB (K : PySem.W.Frag) : List V → Hp → VK → Prop := fun vs H Q => ∃ (p : Addr) (ys : List V), vs = [.ref p] ∧ SqL K H p ys ∧ NewT H ys Q
theorem cr_tupB : CallR X (.type "tuple") (rTupB X.K) := by
  intro pins s σ H xs us Q I r h
  obtain ⟨p, ys, rfl, hq, q⟩ := h
  obtain ⟨u, rfl, rx⟩ := vals1 r
  obtain rfl : u = Value.ref p := rx
  obtain ⟨its, rv, pl, hz⟩ := I.list hq
  have hlen : its.length ≤ sizeLine := by
    rw [← rv.length]
    exact hz
  apply call_tuple_list pl.isList _ (by rw [List.size_toArray]; exact hlen)
  intro h' kp
  exact layT (I.kept (t' := s.toks) kp) rv hz q
/-- t + u -/
def rCatB (K : PySem.W.Frag) : R2 := fun x y H Q => ∃ (a b : Addr) (xs ys : List V), x = .ref a ∧ y = .ref b ∧ SqT K H a xs ∧ SqT K H b ys ∧ xs.length + ys.length ≤ sizeLine ∧
  (xs = [] → Q (.ref b) H) ∧ (xs ≠ [] → ys = [] → Q (.ref a) H) ∧ (xs ≠ [] → ys ≠ [] → NewT H (xs ++ ys) Q)
theorem op_catB : OpR X (binaryOp .Add) (rCatB X.K) := by
  intro pins s σ H x y v u Q I rx ry h
  obtain ⟨a, b, xs, ys, rfl, rfl, ha, hb, hz, q0, q1, q2⟩ := h
  obtain rfl : v = Value.ref a := rx
  obtain rfl : u = Value.ref b := ry
  obtain ⟨i1, r1, p1, _⟩ := I.tuple ha
  obtain ⟨i2, r2, p2, _⟩ := I.tuple hb
  by_cases hx : xs = []
  · subst hx
    cases r1
    exact cat_tup0 p1 p2 ⟨.ref b, H, I, rfl, q0 rfl⟩
  · have n1 : i1 ≠ [] := fun z => hx (r1.nil_iff.mp z)
    have n2 : i1.length + i2.length ≤ sizeLine := by
      rw [← r1.length, ← r2.length]
      exact hz
    apply HT.cat_tup p1 p2 n1 _ _ n2
    · intro z
      exact ⟨.ref a, H, I, rfl, q1 hx (r2.nil_iff.mp z)⟩
    · intro z
      exact layT I (r1.append r2) (by rw [List.length_append]; exact hz) (q2 hx fun w => z (r2.nil_iff.mpr w))
/-- t[lo:hi] -/
def rSlB (K : PySem.W.Frag) : V → Option Int → Option Int → Hp → VK → Prop := fun x lo hi H Q => ∃ (a : Addr) (xs : List V), x = .ref a ∧ SqT K H a xs ∧
  ((HT.sIx xs.length 0 lo = 0 ∧ HT.sIx xs.length xs.length hi = xs.length) → Q (.ref a) H) ∧ (¬ (HT.sIx xs.length 0 lo = 0 ∧ HT.sIx xs.length xs.length hi = xs.length) → NewT H (cutV xs lo hi) Q)
theorem sl_tupB : SlR X (rSlB X.K) := by
  intro pins s σ H x v vl vu lo hi sl Q I rx hs pl pu h
  obtain ⟨a, xs, rfl, hx, q1, q2⟩ := h
  obtain rfl : v = Value.ref a := rx
  obtain ⟨its, r, ht, hz⟩ := I.tuple hx
  have hlen : its.toArray.size = xs.length := by
    rw [List.size_toArray]
    exact r.length.symm
  refine ⟨"tuple", _, PyProof.Rows.slot_tuple_getitem.lookup, ht.typeIs, ?_⟩
  by_cases hw : HT.sIx xs.length 0 lo = 0 ∧ HT.sIx xs.length xs.length hi = xs.length
  · apply getItem_tuple_whole ht hs pl pu
    · rw [hlen]
      exact hw
    · exact ⟨.ref a, H, I, rfl, q1 hw⟩
  · apply HT.getItem_tuple_cut ht hs pl pu
    · rw [hlen]
      exact hw
    · rw [hlen]
      exact layT I ((r.drop _).take _) (Nat.le_trans (cutV_length xs lo hi) hz) (q2 hw)
    · rw [hlen]
      exact hz
end
end PL

namespace PL
open PySem L2

abbrev M (S A : Type) := S → Option (A × S)
section
variable {S A B C : Type}
def pureM (a : A) : M S A := fun s => some (a, s)
def failM : M S A := fun _ => none
def bindM (m : M S A) (k : A → M S B) : M S B := fun s => match m s with
  | none => none
  | some (a, s') => k a s'
def ofO (o : Option A) : M S A := fun s => o.map fun a => (a, s)
def mapM1 (f : A → B) (m : M S A) : M S B := bindM m fun a => pureM (f a)
def guardM (c : Prop) [Decidable c] (m : M S A) : M S A := if c then m else failM
@[simp] theorem bind_pure (a : A) (k : A → M S B) : bindM (pureM a) k = k a := rfl
@[simp] theorem bind_fail (k : A → M S B) : bindM (failM : M S A) k = failM := rfl
@[simp] theorem map_pure (f : A → B) (a : A) : mapM1 f (pureM a : M S A) = pureM (f a) := rfl
@[simp] theorem ofO_some (a : A) : (ofO (some a) : M S A) = pureM a := rfl
@[simp] theorem ofO_none : (ofO (none : Option A) : M S A) = failM := rfl
theorem bind_assoc (m : M S A) (f : A → M S B) (g : B → M S C) : bindM (bindM m f) g = bindM m fun a => bindM (f a) g := by
  funext s
  show (match bindM m f s with | none => none | some (a, s') => g a s') = _
  unfold bindM
  cases m s with
  | none => rfl
  | some p => rfl
theorem bind_some {m : M S A} {k : A → M S B} {s s' : S} {b : B} (h : bindM m k s = some (b, s')) : ∃ a s1, m s = some (a, s1) ∧ k a s1 = some (b, s') := by
  unfold bindM at h
  cases e : m s with
  | none =>
    rw [e] at h
    cases h
  | some p =>
    obtain ⟨a, s1⟩ := p
    rw [e] at h
    exact ⟨a, s1, rfl, h⟩
theorem ofO_eq {o : Option A} {s s' : S} {a : A} (h : (ofO o : M S A) s = some (a, s')) : o = some a ∧ s = s' := by
  unfold ofO at h
  cases o with
  | none => cases h
  | some x =>
    cases h
    exact ⟨rfl, rfl⟩
theorem pure_eq {a b : A} {s s' : S} (h : (pureM a : M S A) s = some (b, s')) : a = b ∧ s = s' := by
  cases h
  exact ⟨rfl, rfl⟩
theorem guard_eq {c : Prop} [Decidable c] {m : M S A} {s : S} {r : A × S} (h : guardM c m s = some r) : c ∧ m s = some r := by
  unfold guardM at h
  by_cases hc : c
  · rw [if_pos hc] at h
    exact ⟨hc, h⟩
  · rw [if_neg hc] at h
    cases h
@[simp] theorem guard_true {c : Prop} [Decidable c] (h : c) (m : M S A) : guardM c m = m := if_pos h
end

class Enc (A : Type) where
  enc : A → PyData
open Enc (enc)
/-- a tuple of items of one type (a list of them is a Python list) -/
def Tup (A : Type) := List A
def toTup {A : Type} (l : List A) : Tup A := l
def unTup {A : Type} (l : Tup A) : List A := l
structure T3 (A B C : Type) where
  a : A
  b : B
  c : C
structure T4 (A B C D : Type) where
  a : A
  b : B
  c : C
  d : D
instance : Enc Int := ⟨.int⟩
instance : Enc Bool := ⟨.bool⟩
instance : Enc Str := ⟨.str⟩
instance : Enc Unit := ⟨fun _ => .none⟩
instance : Enc PyData := ⟨id⟩
instance {A : Type} [Enc A] : Enc (List A) := ⟨fun l => .list (l.map enc)⟩
instance {A : Type} [Enc A] : Enc (Tup A) := ⟨fun l => .tuple (List.map enc l)⟩
instance {A B : Type} [Enc A] [Enc B] : Enc (A × B) := ⟨fun p => .tuple [enc p.1, enc p.2]⟩
instance {A B C : Type} [Enc A] [Enc B] [Enc C] : Enc (T3 A B C) := ⟨fun p => .tuple [enc p.a, enc p.b, enc p.c]⟩
instance {A B C D : Type} [Enc A] [Enc B] [Enc C] [Enc D] : Enc (T4 A B C D) := ⟨fun p => .tuple [enc p.a, enc p.b, enc p.c, enc p.d]⟩
instance {A : Type} [Enc A] : Enc (Option A) := ⟨fun o => match o with | none => .none | some a => enc a⟩

def kD : Key → PyData
  | .inl i => .int i
  | .inr x => .str x
mutual
inductive Rp (Z : Addr → Prop) (H : Hp) : V → PyData → Prop
  | non : Rp Z H .non .none
  | bl (b : Bool) : Rp Z H (.bl b) (.bool b)
  | int (i : Int) : Rp Z H (.int i) (.int i)
  | str (x : Str) : Rp Z H (.str x) (.str x)
  | lst {a : Addr} {xs : List V} {ds : List PyData} : ¬ Z a → H a = some (.lst xs) → RpL Z H xs ds → Rp Z H (.ref a) (.list ds)
  | tup {a : Addr} {xs : List V} {ds : List PyData} : ¬ Z a → TupB H a xs → RpL Z H xs ds → Rp Z H (.ref a) (.tuple ds)
  | dic {a : Addr} {kvs : List (Key × V)} {ds : List (PyData × PyData)} : ¬ Z a → Rd H a (.dK kvs) → RpK Z H kvs ds → Rp Z H (.ref a) (.dict ds)
inductive RpL (Z : Addr → Prop) (H : Hp) : List V → List PyData → Prop
  | nil : RpL Z H [] []
  | cons {v : V} {vs : List V} {d : PyData} {ds : List PyData} : Rp Z H v d → RpL Z H vs ds → RpL Z H (v :: vs) (d :: ds)
inductive RpK (Z : Addr → Prop) (H : Hp) : List (Key × V) → List (PyData × PyData) → Prop
  | nil : RpK Z H [] []
  | cons {k : Key} {v : V} {r : List (Key × V)} {d : PyData} {ds : List (PyData × PyData)} : Rp Z H v d → RpK Z H r ds → RpK Z H ((k, v) :: r) ((kD k, d) :: ds)
end
/-- what stood outside Z stands; what is new in Z' was not there -/
def Ext (Z : Addr → Prop) (H : Hp) (Z' : Addr → Prop) (H' : Hp) : Prop :=
  (∀ b o, ¬ Z b → H b = some o → H' b = some o) ∧ ∀ b, Z' b → Z b ∨ H b = none
theorem Ext.not {Z Z' : Addr → Prop} {H H' : Hp} (e : Ext Z H Z' H') {a : Addr} {o : HO} (hz : ¬ Z a) (h : H a = some o) : ¬ Z' a := fun z => by
  rcases e.2 a z with z | z
  · exact hz z
  · rw [h] at z
    cases z
theorem Ext.trans {Z Z1 Z2 : Addr → Prop} {H H1 H2 : Hp} (e : Ext Z H Z1 H1) (f : Ext Z1 H1 Z2 H2) : Ext Z H Z2 H2 :=
  ⟨fun b o hz h => f.1 b o (e.not hz h) (e.1 b o hz h), fun b z => by
    rcases f.2 b z with z | z
    · exact e.2 b z
    · by_cases hb : Z b
      · exact .inl hb
      · cases q : H b with
        | none => exact .inr rfl
        | some o =>
          rw [e.1 b o hb q] at z
          cases z⟩
theorem Ext.refl (Z : Addr → Prop) (H : Hp) : Ext Z H Z H := ⟨fun _ _ _ h => h, fun _ z => .inl z⟩
theorem Ext.less {Z Z' : Addr → Prop} {H : Hp} (h : ∀ b, Z' b → Z b) : Ext Z H Z' H := ⟨fun _ _ _ h => h, fun b z => .inl (h b z)⟩
mutual
theorem Rp.ext {Z Z' : Addr → Prop} {H H' : Hp} (e : Ext Z H Z' H') : ∀ {v : V} {d : PyData}, Rp Z H v d → Rp Z' H' v d
  | _, _, .non => .non
  | _, _, .bl b => .bl b
  | _, _, .int i => .int i
  | _, _, .str x => .str x
  | _, _, .lst n h r => .lst (e.not n h) (e.1 _ _ n h) (RpL.ext e r)
  | _, _, .tup n h r => .tup (fun z => n ((e.2 _ z).resolve_right h.there)) (h.at_ fun o q => e.1 _ o n q) (RpL.ext e r)
  | _, _, .dic n h r => .dic (h.elim (fun h => e.not n h) fun ⟨_, h⟩ => e.not n h) (h.imp (fun h => e.1 _ _ n h) fun ⟨o, h⟩ => ⟨o, e.1 _ _ n h⟩) (RpK.ext e r)
theorem RpL.ext {Z Z' : Addr → Prop} {H H' : Hp} (e : Ext Z H Z' H') : ∀ {v : List V} {d : List PyData}, RpL Z H v d → RpL Z' H' v d
  | _, _, .nil => .nil
  | _, _, .cons h t => .cons (Rp.ext e h) (RpL.ext e t)
theorem RpK.ext {Z Z' : Addr → Prop} {H H' : Hp} (e : Ext Z H Z' H') : ∀ {v : List (Key × V)} {d : List (PyData × PyData)}, RpK Z H v d → RpK Z' H' v d
  | _, _, .nil => .nil
  | _, _, .cons h t => .cons (Rp.ext e h) (RpK.ext e t)
end
theorem RpL.len {Z : Addr → Prop} {H : Hp} : ∀ {v : List V} {d : List PyData}, RpL Z H v d → v.length = d.length
  | _, _, .nil => rfl
  | _, _, .cons _ t => congrArg (· + 1) t.len
theorem RpL.get {Z : Addr → Prop} {H : Hp} : ∀ {v : List V} {d : List PyData} {i : Nat} {x : PyData}, RpL Z H v d → d[i]? = some x → ∃ y, v[i]? = some y ∧ Rp Z H y x
  | _, _, _, _, .nil, h => by simp at h
  | _, _, 0, _, .cons h _, e => by
    simp at e
    subst e
    exact ⟨_, rfl, h⟩
  | _, _, i + 1, _, .cons _ t, e => by
    obtain ⟨y, h1, h2⟩ := RpL.get t (i := i) (by simpa using e)
    exact ⟨y, by simpa using h1, h2⟩
theorem RpL.append {Z : Addr → Prop} {H : Hp} : ∀ {v w : List V} {d e : List PyData}, RpL Z H v d → RpL Z H w e → RpL Z H (v ++ w) (d ++ e)
  | _, _, _, _, .nil, h => h
  | _, _, _, _, .cons h t, u => .cons h (t.append u)
theorem RpL.drop {Z : Addr → Prop} {H : Hp} : ∀ (n : Nat) {v : List V} {d : List PyData}, RpL Z H v d → RpL Z H (v.drop n) (d.drop n)
  | 0, _, _, h => h
  | _ + 1, _, _, .nil => .nil
  | n + 1, _, _, .cons _ t => RpL.drop n t
theorem RpL.take {Z : Addr → Prop} {H : Hp} : ∀ (n : Nat) {v : List V} {d : List PyData}, RpL Z H v d → RpL Z H (v.take n) (d.take n)
  | 0, _, _, _ => .nil
  | _ + 1, _, _, .nil => .nil
  | n + 1, _, _, .cons h t => .cons h (RpL.take n t)
theorem RpL.rev {Z : Addr → Prop} {H : Hp} : ∀ {v : List V} {d : List PyData}, RpL Z H v d → RpL Z H v.reverse d.reverse
  | _, _, .nil => .nil
  | _, _, .cons h t => by
    rw [List.reverse_cons, List.reverse_cons]
    exact t.rev.append (.cons h .nil)
theorem RpL.rep {Z : Addr → Prop} {H : Hp} {v : List V} {d : List PyData} (h : RpL Z H v d) : ∀ k : Nat, RpL Z H (List.replicate k v).flatten (List.replicate k d).flatten
  | 0 => .nil
  | k + 1 => by
    rw [List.replicate_succ, List.replicate_succ, List.flatten_cons, List.flatten_cons]
    exact h.append (RpL.rep h k)
theorem RpL.set {Z : Addr → Prop} {H : Hp} {y : V} {x : PyData} (r : Rp Z H y x) : ∀ (i : Nat) {v : List V} {d : List PyData}, RpL Z H v d → RpL Z H (v.set i y) (d.set i x)
  | _, _, _, .nil => .nil
  | 0, _, _, .cons _ t => .cons r t
  | i + 1, _, _, .cons h t => .cons h (RpL.set r i t)
theorem RpL.ints {Z : Addr → Prop} {H : Hp} : ∀ {v : List V} {ns : List Int}, RpL Z H v (ns.map enc) → v = ns.map V.int
  | _, [], .nil => rfl
  | _, n :: ns, .cons (.int _) t => by
    rw [RpL.ints t]
    rfl
theorem RpL.of_ints {Z : Addr → Prop} {H : Hp} : ∀ (ns : List Int), RpL Z H (ns.map V.int) (ns.map enc)
  | [] => .nil
  | n :: ns => .cons (.int n) (RpL.of_ints ns)
theorem RpL.nil_iff {Z : Addr → Prop} {H : Hp} {v : List V} {d : List PyData} (r : RpL Z H v d) : v = [] ↔ d = [] := by
  cases r <;> simp

/-- what a slot holds: nothing known; a value; data; an object of the frame's own that may change -/
inductive Sl where
  | un
  | raw (v : V)
  | dat (d : PyData)
  | own (d : PyData)
  | ext (f : (Addr → Prop) → Hp → V → Prop) (st : ∀ Z H Z' H' v, Ext Z H Z' H' → f Z H v → f Z' H' v)
/-- objects that calls change (a deck of draws): their region, their state -/
structure Fm (S : Type) where
  Z : Addr → Prop
  at_ : S → Hp → Prop
  loc : ∀ s H H', (∀ b, Z b → H' b = H b) → at_ s H → at_ s H'
  trk : ∀ s H b, at_ s H → Z b → H b ≠ none
/-- none -/
def fm0 : Fm Unit := ⟨fun _ => False, fun _ _ => True, fun _ _ _ _ h => h, fun _ _ _ _ z => z.elim⟩
def Own (G : List Sl) (t : St) (b : Addr) : Prop := ∃ (i : Nat) (d : PyData), G[i]? = some (Sl.own d) ∧ t[i]? = some (some (V.ref b))
def ZF {S : Type} (F : Fm S) (Zx : Addr → Prop) (G : List Sl) (t : St) (b : Addr) : Prop := F.Z b ∨ Zx b ∨ Own G t b
def OwnC (Z : Addr → Prop) (H : Hp) (p : Addr) : PyData → Prop
  | .list ds => ∃ xs, H p = some (.lst xs) ∧ RpL Z H xs ds
  | .dict ds => ∃ kvs, H p = some (.dK kvs) ∧ RpK Z H kvs ds
  | _ => False
def SlOk (Z : Addr → Prop) (H : Hp) : Sl → Option V → Prop
  | .un, _ => True
  | .raw v, o => o = some v
  | .dat d, o => ∃ v, o = some v ∧ Rp Z H v d
  | .own d, o => ∃ p, o = some (.ref p) ∧ OwnC Z H p d
  | .ext f _, o => ∃ v, o = some v ∧ f Z H v
structure Gd {S : Type} (F : Fm S) (Zx : Addr → Prop) (G : List Sl) (s : S) (t : St) (H : Hp) : Prop where
  len : t.length = G.length
  at_ : F.at_ s H
  trk : ∀ b, Zx b → H b ≠ none
  slot : ∀ (i : Nat) l o, G[i]? = some l → t[i]? = some o → SlOk (ZF F Zx G t) H l o
  inj : ∀ (i j : Nat) d e p, G[i]? = some (.own d) → G[j]? = some (.own e) → t[i]? = some (some (.ref p)) → t[j]? = some (some (.ref p)) → i = j
  sep : ∀ p, Own G t p → ¬ F.Z p ∧ ¬ Zx p
/-- only what F holds may have changed -/
def Fix {S : Type} (F : Fm S) (H H' : Hp) : Prop := ∀ b o, ¬ F.Z b → H b = some o → H' b = some o
section
variable {S : Type} {F : Fm S} {Zx : Addr → Prop} {G : List Sl} {s s' : S} {t : St} {H H' H'' : Hp}
theorem Fix.refl (H : Hp) : Fix F H H := fun _ _ _ h => h
theorem Fix.trans (a : Fix F H H') (b : Fix F H' H'') : Fix F H H'' := fun x o z h => b x o z (a x o z h)
theorem Fix.same (h : Same H H') : Fix F H H' := fun b o _ e => h b o e
theorem Fix.ext (f : Fix F H H') : Ext (ZF F Zx G t) H (ZF F Zx G t) H' := ⟨fun b o z h => f b o (fun q => z (.inl q)) h, fun _ z => .inl z⟩
theorem OwnC.ne {Z : Addr → Prop} {p : Addr} : ∀ {d : PyData}, OwnC Z H p d → H p ≠ none
  | .list _, ⟨_, h, _⟩ => by
    rw [h]
    intro z
    cases z
  | .dict _, ⟨_, h, _⟩ => by
    rw [h]
    intro z
    cases z
theorem OwnC.ext {Z Z' : Addr → Prop} {p : Addr} (e : Ext Z H Z' H') (h : ∀ o, H p = some o → H' p = some o) : ∀ {d : PyData}, OwnC Z H p d → OwnC Z' H' p d
  | .list _, ⟨xs, q, r⟩ => ⟨xs, h _ q, r.ext e⟩
  | .dict _, ⟨xs, q, r⟩ => ⟨xs, h _ q, r.ext e⟩
theorem Gd.ownAt (g : Gd F Zx G s t H) {i : Nat} {d : PyData} {p : Addr} (hi : G[i]? = some (.own d)) (ht : t[i]? = some (some (.ref p))) : OwnC (ZF F Zx G t) H p d := by
  obtain ⟨q, e, h⟩ := g.slot i _ _ hi ht
  cases e
  exact h
theorem Gd.all (g : Gd F Zx G s t H) : ∀ b, ZF F Zx G t b → H b ≠ none := by
  rintro b (z | z | ⟨i, d, h1, h2⟩)
  · exact F.trk s H b g.at_ z
  · exact g.trk b z
  · exact (g.ownAt h1 h2).ne
theorem Gd.new (g : Gd F Zx G s t H) {p : Addr} (h : H p = none) : ¬ ZF F Zx G t p := fun z => g.all p z h
/-- behind a step that changed what F holds alone -/
theorem Gd.fix (g : Gd F Zx G s t H) (f : Fix F H H') (h : F.at_ s' H') : Gd F Zx G s' t H' where
  len := g.len
  at_ := h
  trk := fun b z e => by
    by_cases hb : F.Z b
    · exact F.trk _ _ _ h hb e
    · cases q : H b with
      | none => exact g.trk b z q
      | some o =>
        rw [f b o hb q] at e
        cases e
  slot := fun i l o h1 h2 => by
    have q := g.slot i l o h1 h2
    cases l with
    | un => trivial
    | raw v => exact q
    | dat d =>
      obtain ⟨v, e, r⟩ := q
      exact ⟨v, e, r.ext f.ext⟩
    | ext fu hst =>
      obtain ⟨v, e, r⟩ := q
      exact ⟨v, e, hst _ _ _ _ _ f.ext r⟩
    | own d =>
      obtain ⟨p, e, r⟩ := q
      subst e
      exact ⟨p, rfl, OwnC.ext f.ext (fun o ho => f p o (g.sep p ⟨i, d, h1, h2⟩).1 ho) r⟩
  inj := g.inj
  sep := g.sep
theorem Gd.same (g : Gd F Zx G s t H) (h : Same H H') : Gd F Zx G s t H' :=
  g.fix (Fix.same h) (F.loc s H H' (fun b z => by
    cases q : H b with
    | none => exact absurd q (F.trk _ _ _ g.at_ z)
    | some o => exact h b o q) g.at_)
theorem same_new {p : Addr} {o : HO} (h : H p = none) : Same H (upd H p o) := fun b x e => by
  rw [upd_ne (ne_of_none e h)]
  exact e
/-- data at a value stays -/
theorem Rp.fix {v : V} {d : PyData} (r : Rp (ZF F Zx G t) H v d) (f : Fix F H H') : Rp (ZF F Zx G t) H' v d := r.ext f.ext
theorem RpL.fix {v : List V} {d : List PyData} (r : RpL (ZF F Zx G t) H v d) (f : Fix F H H') : RpL (ZF F Zx G t) H' v d := r.ext f.ext
end
end PL

namespace PL
open PySem L2 Enc

section
variable {I S A B C D : Type} [Enc A] [Enc B] [Enc C] [Enc D]
/-- a reading gives what m gives -/
def TEok (F : Fm S) (G : List Sl) (te : TE) (m : M S A) : Prop :=
  ∀ Zx t H s a s', Gd F Zx G s t H → m s = some (a, s') → ∀ Q : VK, (∀ v H', Gd F Zx G s' t H' → Fix F H H' → Rp (ZF F Zx G t) H' v (enc a) → Q v H') → te t H Q
def TTok (F : Fm S) (G : List Sl) (tt : TT) (m : M S Bool) : Prop :=
  ∀ Zx t H s b s', Gd F Zx G s t H → m s = some (b, s') → ∀ Q : Bool → Hp → Prop, (∀ H', Gd F Zx G s' t H' → Fix F H H' → Q b H') → tt t H Q
def TAok (F : Fm S) (G : List Sl) (ta : TA) {U : Type} (m : M S U) (en : U → List PyData) : Prop :=
  ∀ Zx t H s a s', Gd F Zx G s t H → m s = some (a, s') → ∀ Q : List V → Hp → Prop, (∀ vs H', Gd F Zx G s' t H' → Fix F H H' → RpL (ZF F Zx G t) H' vs (en a) → Q vs H') → ta t H Q
def EV (Xs : I → Cx) (F : Fm S) (G : List Sl) (e : Expr) (m : M S A) : Prop := ∃ te, (∀ i, PE (Xs i) e te) ∧ TEok F G te m
def ET (Xs : I → Cx) (F : Fm S) (G : List Sl) (e : Expr) (m : M S Bool) : Prop := ∃ tt, (∀ i, PT (Xs i) e tt) ∧ TTok F G tt m
def EW (Xs : I → Cx) (F : Fm S) (G : List Sl) (e : Expr) (m : M S Bool) : Prop := ∃ tt, (∀ i, PW (Xs i) e tt) ∧ TTok F G tt m
def EA (Xs : I → Cx) (F : Fm S) (G : List Sl) (es : List Expr) {U : Type} (m : M S U) (en : U → List PyData) : Prop := ∃ ta, (∀ i, PA (Xs i) es ta) ∧ TAok F G ta m en

variable {Xs : I → Cx} {F : Fm S} {G : List Sl} {pos p : Pos} {e a b c : Expr} {es : List Expr} {x : Str}
/-- the monad's laws at a judgement -/
theorem EV.eq {m m' : M S A} (h : EV Xs F G e m) (q : m = m') : EV Xs F G e m' := q ▸ h

theorem ev_var {k : Nat} {y : A} (h : G[k]? = some (.dat (enc y)) := by rfl) (hN : ∀ i, (Xs i).N[k]? = some x := by intro _; rfl)
    (hv : ∀ i, Vis (Xs i).env.scope x := by first | exact fun _ => Or.inl rfl | exact fun _ => Or.inr (Or.inl rfl) | exact fun _ => Or.inr (Or.inr rfl))
    (hd : (x == ("__debug__" : Str)) = false := by decide) (hcd : (x == ("__classdict__" : Str)) = false := by decide) : EV Xs F G (.Name x pos) (pureM y) := by
  refine ⟨tVar k, fun i => pe_var (hN i) (hv i) hd hcd, fun Zx t H s y' s' g hm Q q => ?_⟩
  obtain ⟨rfl, rfl⟩ := pure_eq hm
  obtain ⟨hk, _⟩ := List.getElem?_eq_some_iff.mp h
  have hk' : k < t.length := by rw [g.len]; exact hk
  have ht : t[k]? = some (t[k]'hk') := List.getElem?_eq_getElem hk'
  obtain ⟨v, ev, r⟩ := g.slot k _ _ h ht
  exact ⟨v, by rw [ht, ev], q v H g (Fix.refl H) r⟩
theorem ev_con {te : TE} {v : V} {y : A} (hp : ∀ i, PE (Xs i) e (tC v)) (hv : ∀ Z H, Rp Z H v (enc y)) : EV Xs F G e (pureM y) := by
  refine ⟨tC v, hp, fun Zx t H s y' s' g hm Q q => ?_⟩
  obtain ⟨rfl, rfl⟩ := pure_eq hm
  exact q v H g (Fix.refl H) (hv _ _)
theorem ev_int {n : Int} {j : Nat} : EV Xs F G (.Constant (.int n) j pos) (pureM n) := ev_con (te := tC .non) (fun _ => pe_int) fun _ _ => .int n
theorem ev_str {n : Str} {j : Nat} : EV Xs F G (.Constant (.str n) j pos) (pureM n) := ev_con (te := tC .non) (fun _ => pe_str) fun _ _ => .str n
theorem ev_bool {n : Bool} {j : Nat} : EV Xs F G (.Constant (.bool n) j pos) (pureM n) := ev_con (te := tC .non) (fun _ => pe_bl) fun _ _ => .bl n
theorem ev_none {j : Nat} {y : A} (h : enc y = PyData.none := by rfl) : EV Xs F G (.Constant .none j pos) (pureM y) := ev_con (te := tC .non) (fun _ => pe_non) fun _ _ => by
  rw [h]
  exact .non
/-- an int of the module -/
theorem ev_glob {n : Int} (hm : ∀ i, ∃ t, (Xs i).mg x = some (.int n t)) (hg : ∀ i, Gl (Xs i) x := by intro _; rfl) (hd : (x == ("__debug__" : Str)) = false := by decide) : EV Xs F G (.Name x pos) (pureM n) :=
  ev_con (te := tC .non) (fun i => let ⟨t, h⟩ := hm i; pe_glob (v := .int n) (hg i) h ⟨t, rfl⟩ hd) fun _ _ => .int n
theorem ev_globs {n : Str} (hm : ∀ i, ∃ t, (Xs i).mg x = some (.str n t)) (hg : ∀ i, Gl (Xs i) x := by intro _; rfl) (hd : (x == ("__debug__" : Str)) = false := by decide) : EV Xs F G (.Name x pos) (pureM n) :=
  ev_con (te := tC .non) (fun i => let ⟨t, h⟩ := hm i; pe_glob (v := .str n) (hg i) h ⟨t, rfl⟩ hd) fun _ _ => .str n
/-- the same data under another type -/
theorem ev_as {m : M S A} (f : A → B) (hf : ∀ y, enc (f y) = enc y) (h : EV Xs F G e m) : EV Xs F G e (mapM1 f m) := by
  obtain ⟨te, hp, ho⟩ := h
  refine ⟨te, hp, fun Zx t H s y s' g hm Q q => ?_⟩
  obtain ⟨z, s1, h1, h2⟩ := bind_some hm
  obtain ⟨rfl, rfl⟩ := pure_eq h2
  exact ho Zx t H s z s1 g h1 Q fun v H' g' f' r => q v H' g' f' (by rw [hf]; exact r)
/-- .. where it is of that type -/
theorem ev_of {m : M S A} (f : A → Option B) (hf : ∀ y z, f y = some z → enc z = enc y) (h : EV Xs F G e m) : EV Xs F G e (bindM m fun y => ofO (f y)) := by
  obtain ⟨te, hp, ho⟩ := h
  refine ⟨te, hp, fun Zx t H s y s' g hm Q q => ?_⟩
  obtain ⟨z, s1, h1, h2⟩ := bind_some hm
  obtain ⟨h3, rfl⟩ := ofO_eq h2
  exact ho Zx t H s z s1 g h1 Q fun v H' g' f' r => q v H' g' f' (by rw [hf _ _ h3]; exact r)

theorem ea_nil : EA Xs F G [] (pureM ()) fun _ => [] := by
  refine ⟨tNil, fun _ => pa_nil, fun Zx t H s y s' g hm Q q => ?_⟩
  obtain ⟨rfl, rfl⟩ := pure_eq hm
  exact q [] H g (Fix.refl H) .nil
def pairM {U W : Type} (m : M S U) (n : M S W) : M S (U × W) := bindM m fun u => bindM n fun w => pureM (u, w)
@[simp] theorem pairM_pure {U W : Type} (u : U) (w : W) : pairM (pureM u : M S U) (pureM w) = pureM (u, w) := rfl
theorem ea_cons {U : Type} {m : M S A} {n : M S U} {en : U → List PyData} (h : EV Xs F G e m) (hr : EA Xs F G es n en)
    (hs : ∀ i, starEach (e :: es) (Xs i).env = (false, eval e (Xs i).env) :: starEach es (Xs i).env := by intro _; rfl) : EA Xs F G (e :: es) (pairM m n) fun p => enc p.1 :: en p.2 := by
  obtain ⟨te, hp, ho⟩ := h
  obtain ⟨ta, hq, hb⟩ := hr
  refine ⟨tCons te ta, fun i => pa_cons (hp i) (hq i) (hs i), fun Zx t H s y s' g hm Q q => ?_⟩
  obtain ⟨z, s1, h1, h2⟩ := bind_some hm
  obtain ⟨w, s2, h3, h4⟩ := bind_some h2
  obtain ⟨rfl, rfl⟩ := pure_eq h4
  refine ho Zx t H s z s1 g h1 _ fun v H1 g1 f1 r1 => ?_
  refine hb Zx t H1 s1 w s2 g1 h3 _ fun vs H2 g2 f2 r2 => ?_
  exact q _ H2 g2 (f1.trans f2) (.cons (r1.fix f2) r2)
/-- items of one type -/
theorem el_nil : EA Xs F G [] (pureM ([] : List A)) (List.map enc) := by
  refine ⟨tNil, fun _ => pa_nil, fun Zx t H s y s' g hm Q q => ?_⟩
  obtain ⟨rfl, rfl⟩ := pure_eq hm
  exact q [] H g (Fix.refl H) .nil
def consM {U : Type} (m : M S U) (n : M S (List U)) : M S (List U) := bindM m fun u => bindM n fun w => pureM (u :: w)
def appM {U : Type} (m : M S (List U)) (n : M S (List U)) : M S (List U) := bindM m fun u => bindM n fun w => pureM (u ++ w)
@[simp] theorem consM_pure {U : Type} (u : U) (w : List U) : consM (pureM u : M S U) (pureM w) = pureM (u :: w) := rfl
@[simp] theorem appM_pure {U : Type} (u : List U) (w : List U) : appM (pureM u : M S (List U)) (pureM w) = pureM (u ++ w) := rfl
theorem el_cons {m : M S A} {n : M S (List A)} (h : EV Xs F G e m) (hr : EA Xs F G es n (List.map enc))
    (hs : ∀ i, starEach (e :: es) (Xs i).env = (false, eval e (Xs i).env) :: starEach es (Xs i).env := by intro _; rfl) : EA Xs F G (e :: es) (consM m n) (List.map enc) := by
  obtain ⟨te, hp, ho⟩ := h
  obtain ⟨ta, hq, hb⟩ := hr
  refine ⟨tCons te ta, fun i => pa_cons (hp i) (hq i) (hs i), fun Zx t H s y s' g hm Q q => ?_⟩
  obtain ⟨z, s1, h1, h2⟩ := bind_some hm
  obtain ⟨w, s2, h3, h4⟩ := bind_some h2
  obtain ⟨rfl, rfl⟩ := pure_eq h4
  refine ho Zx t H s z s1 g h1 _ fun v H1 g1 f1 r1 => ?_
  refine hb Zx t H1 s1 w s2 g1 h3 _ fun vs H2 g2 f2 r2 => ?_
  exact q _ H2 g2 (f1.trans f2) (.cons (r1.fix f2) r2)
theorem el_starL {m : M S (List A)} {n : M S (List A)} (h : EV Xs F G e m) (hr : EA Xs F G es n (List.map enc))
    (hs : ∀ i, starEach (.Starred e p :: es) (Xs i).env = (true, eval e (Xs i).env) :: starEach es (Xs i).env := by intro _; rfl) (hk : ∀ i j, (Xs i).K = (Xs j).K := by intro _ _; rfl) (i0 : I) : EA Xs F G (.Starred e p :: es) (appM m n) (List.map enc) := by
  obtain ⟨te, hp, ho⟩ := h
  obtain ⟨ta, hq, hb⟩ := hr
  refine ⟨StX.tStar (Xs i0).K te ta, fun i => by rw [hk i0 i]; exact StX.pa_star (hp i) (hq i) (hs i), fun Zx t H s y s' g hm Q q => ?_⟩
  obtain ⟨z, s1, h1, h2⟩ := bind_some hm
  obtain ⟨w, s2, h3, h4⟩ := bind_some h2
  obtain ⟨rfl, rfl⟩ := pure_eq h4
  refine ho Zx t H s z s1 g h1 _ fun v H1 g1 f1 r1 => ?_
  have r1' : Rp (ZF F Zx G t) H1 v (.list (z.map enc)) := r1
  cases r1' with
  | lst n1 e1 l1 =>
    refine ⟨_, _, rfl, .inr (SqL.of e1), ?_⟩
    refine hb Zx t H1 s1 w s2 g1 h3 _ fun vs H2 g2 f2 r2 => ?_
    exact q _ H2 g2 (f1.trans f2) (by rw [List.map_append]; exact (l1.fix f2).append r2)
theorem el_starT {m : M S (Tup A)} {n : M S (List A)} (h : EV Xs F G e m) (hr : EA Xs F G es n (List.map enc))
    (hs : ∀ i, starEach (.Starred e p :: es) (Xs i).env = (true, eval e (Xs i).env) :: starEach es (Xs i).env := by intro _; rfl) (hk : ∀ i j, (Xs i).K = (Xs j).K := by intro _ _; rfl) (i0 : I) : EA Xs F G (.Starred e p :: es) (appM (mapM1 unTup m) n) (List.map enc) := by
  obtain ⟨te, hp, ho⟩ := h
  obtain ⟨ta, hq, hb⟩ := hr
  refine ⟨StX.tStar (Xs i0).K te ta, fun i => by rw [hk i0 i]; exact StX.pa_star (hp i) (hq i) (hs i), fun Zx t H s y s' g hm Q q => ?_⟩
  obtain ⟨z0, s1, h1, h2⟩ := bind_some hm
  obtain ⟨z, s0, h0, h1⟩ := bind_some h1
  obtain ⟨rfl, rfl⟩ := pure_eq h1
  obtain ⟨w, s2, h3, h4⟩ := bind_some h2
  obtain ⟨rfl, rfl⟩ := pure_eq h4
  refine ho Zx t H s z s0 g h0 _ fun v H1 g1 f1 r1 => ?_
  have r1' : Rp (ZF F Zx G t) H1 v (.tuple (List.map enc z)) := r1
  cases r1' with
  | tup n1 e1 l1 =>
    refine ⟨_, _, rfl, .inl e1.sq, ?_⟩
    refine hb Zx t H1 s0 w s2 g1 h3 _ fun vs H2 g2 f2 r2 => ?_
    exact q _ H2 g2 (f1.trans f2) (by
      show RpL _ _ _ (List.map enc (List.append z w))
      rw [show List.map enc (List.append z w) = List.map enc z ++ List.map enc w from List.map_append]
      exact (l1.fix f2).append r2)

def lenOk (n : Nat) : Prop := n ≤ 16777216
instance (n : Nat) : Decidable (lenOk n) := inferInstanceAs (Decidable (n ≤ 16777216))
theorem lenOk_line {n : Nat} (h : lenOk n) : n ≤ sizeLine := by
  rw [sizeLine_eq]
  exact h
/-- a tuple of known arity: f packs -/
theorem ev_tupF {U : Type} {m : M S U} {en : U → List PyData} (f : U → A) (hf : ∀ u, enc (f u) = .tuple (en u)) (hn : ∀ u, (en u).length ≤ 100) {x1 : Nat} (h : EA Xs F G es m en) : EV Xs F G (.Tuple es x1 pos) (mapM1 f m) := by
  obtain ⟨ta, hp, ho⟩ := h
  refine ⟨tTupB ta, fun i => pe_tupB (hp i), fun Zx t H s y s' g hm Q q => ?_⟩
  obtain ⟨z, s1, h1, h2⟩ := bind_some hm
  obtain ⟨rfl, rfl⟩ := pure_eq h2
  refine ho Zx t H s z s1 g h1 _ fun vs H1 g1 f1 r1 => ⟨?_, fun pp ob hn1 hb => ?_⟩
  · rw [r1.len]
    exact Nat.le_trans (hn z) (by rw [sizeLine_eq]; decide)
  · have sm : Same H1 (upd H1 pp (.frz ob (.tup vs))) := same_new hn1
    refine q _ _ (g1.same sm) (f1.trans (Fix.same sm)) ?_
    rw [hf]
    exact .tup (g1.new hn1) ⟨ob, upd_same, hb⟩ (r1.fix (Fix.same sm))
theorem ev_tup2 {m : M S A} {n : M S B} {x1 : Nat} (h : EV Xs F G a m) (h2 : EV Xs F G b n)
    (hs1 : ∀ i, starEach [a, b] (Xs i).env = (false, eval a (Xs i).env) :: starEach [b] (Xs i).env := by intro _; rfl) (hs2 : ∀ i, starEach [b] (Xs i).env = (false, eval b (Xs i).env) :: starEach [] (Xs i).env := by intro _; rfl) :
    EV Xs F G (.Tuple [a, b] x1 pos) (mapM1 (fun u : A × B × Unit => ((u.1, u.2.1) : A × B)) (pairM m (pairM n (pureM ())))) :=
  ev_tupF (fun u : A × B × Unit => ((u.1, u.2.1) : A × B)) (fun _ => rfl) (fun _ => by show 2 ≤ 100; decide) (ea_cons h (ea_cons h2 ea_nil hs2) hs1)
theorem ev_tup3 {m : M S A} {n : M S B} {o : M S C} {x1 : Nat} (h : EV Xs F G a m) (h2 : EV Xs F G b n) (h3 : EV Xs F G c o)
    (hs1 : ∀ i, starEach [a, b, c] (Xs i).env = (false, eval a (Xs i).env) :: starEach [b, c] (Xs i).env := by intro _; rfl) (hs2 : ∀ i, starEach [b, c] (Xs i).env = (false, eval b (Xs i).env) :: starEach [c] (Xs i).env := by intro _; rfl)
    (hs3 : ∀ i, starEach [c] (Xs i).env = (false, eval c (Xs i).env) :: starEach [] (Xs i).env := by intro _; rfl) :
    EV Xs F G (.Tuple [a, b, c] x1 pos) (mapM1 (fun u : A × B × C × Unit => (⟨u.1, u.2.1, u.2.2.1⟩ : T3 A B C)) (pairM m (pairM n (pairM o (pureM ()))))) :=
  ev_tupF (fun u : A × B × C × Unit => (⟨u.1, u.2.1, u.2.2.1⟩ : T3 A B C)) (fun _ => rfl) (fun _ => by show 3 ≤ 100; decide) (ea_cons h (ea_cons h2 (ea_cons h3 ea_nil hs3) hs2) hs1)
/-- a tuple, a list of items of one type -/
theorem ev_tup {m : M S (List A)} {x1 : Nat} (h : EA Xs F G es m (List.map enc)) : EV Xs F G (.Tuple es x1 pos) (bindM m fun l => guardM (lenOk l.length) (pureM (toTup l))) := by
  obtain ⟨ta, hp, ho⟩ := h
  refine ⟨tTupB ta, fun i => pe_tupB (hp i), fun Zx t H s y s' g hm Q q => ?_⟩
  obtain ⟨z, s1, h1, h2⟩ := bind_some hm
  obtain ⟨hl, h3⟩ := guard_eq h2
  obtain ⟨rfl, rfl⟩ := pure_eq h3
  refine ho Zx t H s z s1 g h1 _ fun vs H1 g1 f1 r1 => ⟨?_, fun pp ob hn1 hb => ?_⟩
  · rw [r1.len, List.length_map]
    exact lenOk_line hl
  · have sm : Same H1 (upd H1 pp (.frz ob (.tup vs))) := same_new hn1
    exact q _ _ (g1.same sm) (f1.trans (Fix.same sm)) (.tup (g1.new hn1) ⟨ob, upd_same, hb⟩ (r1.fix (Fix.same sm)))
theorem ev_lst {m : M S (List A)} (h : EA Xs F G es m (List.map enc)) : EV Xs F G (.List es pos) (bindM m fun l => guardM (lenOk l.length) (pureM l)) := by
  obtain ⟨ta, hp, ho⟩ := h
  refine ⟨tLst ta, fun i => pe_lst (hp i), fun Zx t H s y s' g hm Q q => ?_⟩
  obtain ⟨z, s1, h1, h2⟩ := bind_some hm
  obtain ⟨hl, h3⟩ := guard_eq h2
  obtain ⟨rfl, rfl⟩ := pure_eq h3
  refine ho Zx t H s z s1 g h1 _ fun vs H1 g1 f1 r1 => ⟨?_, fun pp hn1 => ?_⟩
  · rw [r1.len, List.length_map]
    exact lenOk_line hl
  · have sm : Same H1 (upd H1 pp (.lst vs)) := same_new hn1
    exact q _ _ (g1.same sm) (f1.trans (Fix.same sm)) (.lst (g1.new hn1) upd_same (r1.fix (Fix.same sm)))

/-- two values -/
def RV2 (r : R2) (f : A → B → Option C) : Prop := ∀ {S : Type} (F : Fm S) Zx G s t H x y vx vy z, Gd F Zx G s t H → Rp (ZF F Zx G t) H vx (enc x) → Rp (ZF F Zx G t) H vy (enc y) → f x y = some z →
  ∀ Q : VK, (∀ v H', Same H H' → Rp (ZF F Zx G t) H' v (enc z) → Q v H') → r vx vy H Q
def RV1 (r : V → Hp → VK → Prop) (f : A → Option B) : Prop := ∀ {S : Type} (F : Fm S) Zx G s t H x vx z, Gd F Zx G s t H → Rp (ZF F Zx G t) H vx (enc x) → f x = some z →
  ∀ Q : VK, (∀ v H', Same H H' → Rp (ZF F Zx G t) H' v (enc z) → Q v H') → r vx H Q
def RVC (r : List V → Hp → VK → Prop) {U : Type} (en : U → List PyData) (f : U → Option B) : Prop := ∀ {S : Type} (F : Fm S) Zx G s t H u vs z, Gd F Zx G s t H → RpL (ZF F Zx G t) H vs (en u) → f u = some z →
  ∀ Q : VK, (∀ v H', Same H H' → Rp (ZF F Zx G t) H' v (enc z) → Q v H') → r vs H Q
def bin2 (f : A → B → Option C) (m : M S A) (n : M S B) : M S C := bindM m fun x => bindM n fun y => ofO (f x y)
@[simp] theorem bin2_pure (f : A → B → Option C) (x : A) (y : B) : bin2 f (pureM x : M S A) (pureM y) = ofO (f x y) := rfl
theorem ok_op2 {r : R2} {f : A → B → Option C} {ta tb : TE} {m : M S A} {n : M S B} (hr : RV2 r f) (ha : TEok F G ta m) (hb : TEok F G tb n) : TEok F G (tOp r ta tb) (bin2 f m n) := fun Zx t H s y s' g hm Q q => by
  obtain ⟨z, s1, h1, h2⟩ := bind_some hm
  obtain ⟨w, s2, h3, h4⟩ := bind_some h2
  obtain ⟨h5, rfl⟩ := ofO_eq h4
  refine ha Zx t H s z s1 g h1 _ fun v H1 g1 f1 r1 => ?_
  refine hb Zx t H1 s1 w s2 g1 h3 _ fun u H2 g2 f2 r2 => ?_
  exact hr F Zx G s2 t H2 z w v u y g2 (r1.fix f2) r2 h5 _ fun o H3 sm r3 => q o H3 (g2.same sm) ((f1.trans f2).trans (Fix.same sm)) r3
theorem ev_op {op : Operator} {r : R2} {f : A → B → Option C} {m : M S A} {n : M S B} (ho : ∀ i, OpR (Xs i) (binaryOp op) r) (hr : RV2 r f) (h : EV Xs F G a m) (h2 : EV Xs F G b n) : EV Xs F G (.BinOp a op b pos) (bin2 f m n) := by
  obtain ⟨ta, hp, hx⟩ := h
  obtain ⟨tb, hq, hy⟩ := h2
  exact ⟨tOp r ta tb, fun i => pe_op (ho i) (hp i) (hq i), ok_op2 hr hx hy⟩
theorem ev_cmp {op : CmpOp} {r : R2} {f : A → B → Option Bool} {m : M S A} {n : M S B} (ho : ∀ i, OpR (Xs i) (compareOp op) r) (hr : RV2 r f) (h : EV Xs F G a m) (h2 : EV Xs F G b n) (hm : behindInMarks op b = false := by first | exact nomark _ | rfl) :
    EV Xs F G (.Compare a [op] [b] pos) (bin2 f m n) := by
  obtain ⟨ta, hp, hx⟩ := h
  obtain ⟨tb, hq, hy⟩ := h2
  exact ⟨tOp r ta tb, fun i => pe_cmpR (ho i) (hp i) (hq i) hm, ok_op2 hr hx hy⟩
theorem Rp.bool {Z : Addr → Prop} {H : Hp} {v : V} {b : Bool} (r : Rp Z H v (enc b)) : v = .bl b := by
  have r' : Rp Z H v (.bool b) := r
  cases r'
  rfl
theorem Rp.toInt {Z : Addr → Prop} {H : Hp} {v : V} {b : Int} (r : Rp Z H v (enc b)) : v = .int b := by
  have r' : Rp Z H v (.int b) := r
  cases r'
  rfl
theorem Rp.toStr {Z : Addr → Prop} {H : Hp} {v : V} {b : Str} (r : Rp Z H v (enc b)) : v = .str b := by
  have r' : Rp Z H v (.str b) := r
  cases r'
  rfl
theorem et_cmp {op : CmpOp} {r : R2} {f : A → B → Option Bool} {m : M S A} {n : M S B} (ho : ∀ i, OpR (Xs i) (compareOp op) r) (hr : RV2 r f) (h : EV Xs F G a m) (h2 : EV Xs F G b n) (hm : behindInMarks op b = false := by first | exact nomark _ | rfl) :
    ET Xs F G (.Compare a [op] [b] pos) (bin2 f m n) := by
  obtain ⟨ta, hp, hx⟩ := h
  obtain ⟨tb, hq, hy⟩ := h2
  refine ⟨tTest (tOp r ta tb), fun i => pt_cmpR (ho i) (hp i) (hq i) hm, fun Zx t H s y s' g hm Q q => ?_⟩
  exact ok_op2 hr hx hy Zx t H s y s' g hm _ fun v H' g' f' r' => ⟨y, r'.bool, q H' g' f'⟩
/-- a value that is a bool, as a test -/
theorem et_val {m : M S Bool} (h : EV Xs F G e m) (he : ∀ i whole, isTrue e (Xs i).env whole = (do let v ← whole; standAt e.pos; holding [v] (truthy v)) := by intro _ _; rfl) : ET Xs F G e m := by
  obtain ⟨te, hp, hx⟩ := h
  refine ⟨tB te, fun i => pt_val (hp i) (he i), fun Zx t H s y s' g hm Q q => ?_⟩
  exact hx Zx t H s y s' g hm _ fun v H' g' f' r' => ⟨y, r'.bool, q H' g' f'⟩
def andM (m n : M S Bool) : M S Bool := bindM m fun c => if c then n else pureM false
def orM (m n : M S Bool) : M S Bool := bindM m fun c => if c then pureM true else n
def notM (m : M S Bool) : M S Bool := mapM1 (fun c => !c) m
def iteM {U : Type} (m : M S Bool) (x y : M S U) : M S U := bindM m fun c => if c then x else y
@[simp] theorem andM_pure (c : Bool) (n : M S Bool) : andM (pureM c) n = if c then n else pureM false := rfl
@[simp] theorem orM_pure (c : Bool) (n : M S Bool) : orM (pureM c) n = if c then pureM true else n := rfl
@[simp] theorem notM_pure (c : Bool) : notM (pureM c : M S Bool) = pureM (!c) := rfl
@[simp] theorem iteM_pure {U : Type} (c : Bool) (x y : M S U) : iteM (pureM c) x y = if c then x else y := rfl
theorem ok_and {t u : TT} {m n : M S Bool} (h1 : TTok F G t m) (h2 : TTok F G u n) : TTok F G (tAnd t u) (andM m n) := fun Zx st H s y s' g hm Q q => by
  obtain ⟨c, s1, e1, e2⟩ := bind_some hm
  refine h1 Zx st H s c s1 g e1 _ fun H1 g1 f1 => ?_
  cases c with
  | true => exact iteT (h2 Zx st H1 s1 y s' g1 e2 _ fun H2 g2 f2 => q H2 g2 (f1.trans f2))
  | false =>
    obtain ⟨rfl, rfl⟩ := pure_eq e2
    exact iteF (q H1 g1 f1)
theorem ok_or {t u : TT} {m n : M S Bool} (h1 : TTok F G t m) (h2 : TTok F G u n) : TTok F G (tOr t u) (orM m n) := fun Zx st H s y s' g hm Q q => by
  obtain ⟨c, s1, e1, e2⟩ := bind_some hm
  refine h1 Zx st H s c s1 g e1 _ fun H1 g1 f1 => ?_
  cases c with
  | true =>
    obtain ⟨rfl, rfl⟩ := pure_eq e2
    exact iteT (q H1 g1 f1)
  | false => exact iteF (h2 Zx st H1 s1 y s' g1 e2 _ fun H2 g2 f2 => q H2 g2 (f1.trans f2))
theorem ew_one_and {m : M S Bool} (h : ET Xs F G a m) : EW Xs F G (.BoolOp .And [a] pos) m := let ⟨t, hp, ho⟩ := h; ⟨t, fun i => pw_and1 (hp i), ho⟩
theorem ew_one_or {m : M S Bool} (h : ET Xs F G a m) : EW Xs F G (.BoolOp .Or [a] pos) m := let ⟨t, hp, ho⟩ := h; ⟨t, fun i => pw_or1 (hp i), ho⟩
theorem ew_and {m n : M S Bool} (h : ET Xs F G a m) (h2 : EW Xs F G (.BoolOp .And (b :: es) pos) n) : EW Xs F G (.BoolOp .And (a :: b :: es) pos) (andM m n) :=
  let ⟨t, hp, ho⟩ := h; let ⟨u, hq, hw⟩ := h2; ⟨tAnd t u, fun i => pw_and (hp i) (hq i), ok_and ho hw⟩
theorem ew_or {m n : M S Bool} (h : ET Xs F G a m) (h2 : EW Xs F G (.BoolOp .Or (b :: es) pos) n) : EW Xs F G (.BoolOp .Or (a :: b :: es) pos) (orM m n) :=
  let ⟨t, hp, ho⟩ := h; let ⟨u, hq, hw⟩ := h2; ⟨tOr t u, fun i => pw_or (hp i) (hq i), ok_or ho hw⟩
theorem et_bool {m : M S Bool} (h : EW Xs F G e m) : ET Xs F G e m := let ⟨t, hp, ho⟩ := h; ⟨t, fun i => (hp i).pt, ho⟩
theorem et_not {m : M S Bool} (h : ET Xs F G a m) : ET Xs F G (.UnaryOp .Not a pos) (notM m) := by
  obtain ⟨t, hp, ho⟩ := h
  refine ⟨tNot t, fun i => pt_not (hp i), fun Zx st H s y s' g hm Q q => ?_⟩
  obtain ⟨c, s1, e1, e2⟩ := bind_some hm
  obtain ⟨rfl, rfl⟩ := pure_eq e2
  exact ho Zx st H s c s1 g e1 _ fun H1 g1 f1 => q H1 g1 f1
/-- as values -/
theorem ev_one {op : BoolOp} {m : M S A} (h : EV Xs F G a m) : EV Xs F G (.BoolOp op [a] pos) m := let ⟨t, hp, ho⟩ := h; ⟨t, fun i => pe_one (hp i), ho⟩
theorem ev_and {m n : M S Bool} (h : EV Xs F G a m) (h2 : EV Xs F G (.BoolOp .And (b :: es) pos) n) : EV Xs F G (.BoolOp .And (a :: b :: es) pos) (andM m n) := by
  obtain ⟨ta, hp, ho⟩ := h
  obtain ⟨tb, hq, hw⟩ := h2
  refine ⟨tAndV ta tb, fun i => pe_and (hp i) (hq i), fun Zx st H s y s' g hm Q q => ?_⟩
  obtain ⟨c, s1, e1, e2⟩ := bind_some hm
  refine ho Zx st H s c s1 g e1 _ fun v H1 g1 f1 r1 => ⟨c, r1.bool, ?_⟩
  cases c with
  | true => exact iteT (hw Zx st H1 s1 y s' g1 e2 _ fun v2 H2 g2 f2 r2 => q v2 H2 g2 (f1.trans f2) r2)
  | false =>
    obtain ⟨rfl, rfl⟩ := pure_eq e2
    exact iteF (q _ H1 g1 f1 (.bl false))
theorem ev_or {m n : M S Bool} (h : EV Xs F G a m) (h2 : EV Xs F G (.BoolOp .Or (b :: es) pos) n) : EV Xs F G (.BoolOp .Or (a :: b :: es) pos) (orM m n) := by
  obtain ⟨ta, hp, ho⟩ := h
  obtain ⟨tb, hq, hw⟩ := h2
  refine ⟨tOrV ta tb, fun i => pe_or (hp i) (hq i), fun Zx st H s y s' g hm Q q => ?_⟩
  obtain ⟨c, s1, e1, e2⟩ := bind_some hm
  refine ho Zx st H s c s1 g e1 _ fun v H1 g1 f1 r1 => ⟨c, r1.bool, ?_⟩
  cases c with
  | true =>
    obtain ⟨rfl, rfl⟩ := pure_eq e2
    exact iteT (q _ H1 g1 f1 (.bl true))
  | false => exact iteF (hw Zx st H1 s1 y s' g1 e2 _ fun v2 H2 g2 f2 r2 => q v2 H2 g2 (f1.trans f2) r2)
theorem ev_not {m : M S Bool} (h : EV Xs F G a m) : EV Xs F G (.UnaryOp .Not a pos) (notM m) := by
  obtain ⟨ta, hp, ho⟩ := h
  refine ⟨tNotV ta, fun i => pe_not (hp i), fun Zx st H s y s' g hm Q q => ?_⟩
  obtain ⟨c, s1, e1, e2⟩ := bind_some hm
  obtain ⟨rfl, rfl⟩ := pure_eq e2
  exact ho Zx st H s c s1 g e1 _ fun v H1 g1 f1 r1 => ⟨c, r1.bool, q _ H1 g1 f1 (.bl _)⟩
theorem ev_if {m : M S Bool} {n o : M S A} (h : ET Xs F G c m) (h1 : EV Xs F G a n) (h2 : EV Xs F G b o) : EV Xs F G (.IfExp c a b pos) (iteM m n o) := by
  obtain ⟨tc, hp, ho⟩ := h
  obtain ⟨ta, hq, hw⟩ := h1
  obtain ⟨tb, hr, hz⟩ := h2
  refine ⟨tIf tc ta tb, fun i => pe_ifExp (hp i) (hq i) (hr i), fun Zx st H s y s' g hm Q q => ?_⟩
  obtain ⟨c, s1, e1, e2⟩ := bind_some hm
  refine ho Zx st H s c s1 g e1 _ fun H1 g1 f1 => ?_
  cases c with
  | true => exact iteT (hw Zx st H1 s1 y s' g1 e2 _ fun v2 H2 g2 f2 r2 => q v2 H2 g2 (f1.trans f2) r2)
  | false => exact iteF (hz Zx st H1 s1 y s' g1 e2 _ fun v2 H2 g2 f2 r2 => q v2 H2 g2 (f1.trans f2) r2)
end

section
variable {I S : Type} {Xs : I → Cx} {F : Fm S} {G : List Sl} {pos p : Pos} {a b c : Expr} {m n o : M S Int}
theorem rv_int0 {g : Int → Int → Int} : RV2 (rI0 fun i j => .int (g i j)) (fun x y : Int => some (g x y)) := fun F Zx G s t H x y vx vy z gd rx ry e Q q => by
  cases e
  exact ⟨x, y, rx.toInt, ry.toInt, q _ H (Same.refl H) (.int _)⟩
theorem rv_intC {C : Int → Int → Prop} {D : Int → Int → Prop} [∀ i j, Decidable (D i j)] (hc : ∀ i j, D i j → C i j) {g : Int → Int → Int} : RV2 (rI C fun i j => .int (g i j)) (fun x y : Int => if D x y then some (g x y) else none) := fun F Zx G s t H x y vx vy z gd rx ry e Q q => by
  replace e : (if D x y then some (g x y) else none) = some z := e
  by_cases h : D x y
  · rw [if_pos h] at e
    cases e
    exact ⟨x, y, rx.toInt, ry.toInt, hc _ _ h, q _ H (Same.refl H) (.int _)⟩
  · rw [if_neg h] at e
    cases e
theorem rv_intB {g : Int → Int → Bool} : RV2 (rI0 fun i j => .bl (g i j)) (fun x y : Int => some (g x y)) := fun F Zx G s t H x y vx vy z gd rx ry e Q q => by
  cases e
  exact ⟨x, y, rx.toInt, ry.toInt, q _ H (Same.refl H) (.bl _)⟩
/-- a bound that holds of all numbers in sight -/
def wide (i : Int) : Prop := i.natAbs < 2 ^ 200
instance (i : Int) : Decidable (wide i) := inferInstanceAs (Decidable (i.natAbs < 2 ^ 200))
theorem wide_log {i : Int} (h : wide i) : i.natAbs.log2 < 200 := by
  by_cases h0 : i.natAbs = 0
  · rw [h0]
    decide
  · exact (Nat.log2_lt h0).mpr h
def mulOk (i j : Int) : Prop := wide i ∧ wide j
instance (i j : Int) : Decidable (mulOk i j) := inferInstanceAs (Decidable (_ ∧ _))
def divOk (_ j : Int) : Prop := 0 < j ∧ wide j
instance (i j : Int) : Decidable (divOk i j) := inferInstanceAs (Decidable (_ ∧ _))
def modOk (_ j : Int) : Prop := 0 < j
instance (i j : Int) : Decidable (modOk i j) := inferInstanceAs (Decidable (0 < j))
def powOk (i j : Int) : Prop := 0 ≤ j ∧ j ≤ 1000000 ∧ i.natAbs < 2 ^ 64
instance (i j : Int) : Decidable (powOk i j) := inferInstanceAs (Decidable (_ ∧ _ ∧ _))
def addM (m n : M S Int) : M S Int := bin2 (fun x y : Int => some (x + y)) m n
def subM (m n : M S Int) : M S Int := bin2 (fun x y : Int => some (x - y)) m n
def mulM (m n : M S Int) : M S Int := bin2 (fun x y : Int => if mulOk x y then some (x * y) else none) m n
def divM (m n : M S Int) : M S Int := bin2 (fun x y : Int => if divOk x y then some (x / y) else none) m n
def modM (m n : M S Int) : M S Int := bin2 (fun x y : Int => if modOk x y then some (x % y) else none) m n
def powM (m n : M S Int) : M S Int := bin2 (fun x y : Int => if powOk x y then some (x ^ y.toNat) else none) m n
def negM (m : M S Int) : M S Int := mapM1 (fun x : Int => -x) m
@[simp] theorem addM_pure (x y : Int) : addM (pureM x : M S Int) (pureM y) = pureM (x + y) := rfl
@[simp] theorem subM_pure (x y : Int) : subM (pureM x : M S Int) (pureM y) = pureM (x - y) := rfl
@[simp] theorem negM_pure (x : Int) : negM (pureM x : M S Int) = pureM (-x) := rfl
theorem mulM_pure {x y : Int} (h : mulOk x y) : mulM (pureM x : M S Int) (pureM y) = pureM (x * y) := by
  show ofO (if mulOk x y then some (x * y) else none) = _
  rw [if_pos h]
  rfl
theorem divM_pure {x y : Int} (h : divOk x y) : divM (pureM x : M S Int) (pureM y) = pureM (x / y) := by
  show ofO (if divOk x y then some (x / y) else none) = _
  rw [if_pos h]
  rfl
theorem modM_pure {x y : Int} (h : 0 < y) : modM (pureM x : M S Int) (pureM y) = pureM (x % y) := by
  show ofO (if modOk x y then some (x % y) else none) = _
  rw [if_pos (show modOk x y from h)]
  rfl
theorem powM_pure {x y : Int} (h : powOk x y) : powM (pureM x : M S Int) (pureM y) = pureM (x ^ y.toNat) := by
  show ofO (if powOk x y then some (x ^ y.toNat) else none) = _
  rw [if_pos h]
  rfl
theorem ev_add (h : EV Xs F G a m) (h2 : EV Xs F G b n) : EV Xs F G (.BinOp a .Add b pos) (addM m n) := ev_op (fun _ => op_add) rv_int0 h h2
theorem ev_sub (h : EV Xs F G a m) (h2 : EV Xs F G b n) : EV Xs F G (.BinOp a .Sub b pos) (subM m n) := ev_op (fun _ => op_sub) rv_int0 h h2
theorem ev_mul (h : EV Xs F G a m) (h2 : EV Xs F G b n) : EV Xs F G (.BinOp a .Mult b pos) (mulM m n) :=
  ev_op (fun _ => op_mulW) (rv_intC (D := mulOk) fun i j h => by
    have h1 := wide_log h.1
    have h2 := wide_log h.2
    show i.natAbs.log2 + j.natAbs.log2 < 1000000
    omega) h h2
theorem ev_fdiv (h : EV Xs F G a m) (h2 : EV Xs F G b n) : EV Xs F G (.BinOp a .FloorDiv b pos) (divM m n) :=
  ev_op (fun _ => op_fdivW) (rv_intC (D := divOk) fun i j h => ⟨h.1, by
    have h2 := wide_log h.2
    omega⟩) h h2
theorem ev_mod (h : EV Xs F G a m) (h2 : EV Xs F G b n) : EV Xs F G (.BinOp a .Mod b pos) (modM m n) := ev_op (fun _ => op_mod) (rv_intC (D := modOk) fun _ _ h => h) h h2
theorem ev_pow (h : EV Xs F G a m) (h2 : EV Xs F G b n) : EV Xs F G (.BinOp a .Pow b pos) (powM m n) := ev_op (fun _ => op_pow) (rv_intC (D := powOk) fun _ _ h => h) h h2
theorem ev_neg (h : EV Xs F G a m) : EV Xs F G (.UnaryOp .USub a pos) (negM m) := by
  obtain ⟨ta, hp, ho⟩ := h
  refine ⟨tUn (rU fun i => .int (-i)) ta, fun i => pe_un un_neg (hp i), fun Zx st H s y s' g hm Q q => ?_⟩
  obtain ⟨c, s1, e1, e2⟩ := bind_some hm
  obtain ⟨rfl, rfl⟩ := pure_eq e2
  exact ho Zx st H s c s1 g e1 _ fun v H1 g1 f1 r1 => ⟨c, r1.toInt, q _ H1 g1 f1 (.int _)⟩
def ltM (m n : M S Int) : M S Bool := bin2 (fun x y : Int => some (decide (x < y))) m n
def leM (m n : M S Int) : M S Bool := bin2 (fun x y : Int => some (decide (x ≤ y))) m n
def gtM (m n : M S Int) : M S Bool := bin2 (fun x y : Int => some (decide (y < x))) m n
def geM (m n : M S Int) : M S Bool := bin2 (fun x y : Int => some (decide (y ≤ x))) m n
def eqIM (m n : M S Int) : M S Bool := bin2 (fun x y : Int => some (decide (x = y))) m n
def neIM (m n : M S Int) : M S Bool := bin2 (fun x y : Int => some (!decide (x = y))) m n
@[simp] theorem ltM_pure (x y : Int) : ltM (pureM x : M S Int) (pureM y) = pureM (decide (x < y)) := rfl
@[simp] theorem leM_pure (x y : Int) : leM (pureM x : M S Int) (pureM y) = pureM (decide (x ≤ y)) := rfl
@[simp] theorem gtM_pure (x y : Int) : gtM (pureM x : M S Int) (pureM y) = pureM (decide (y < x)) := rfl
@[simp] theorem geM_pure (x y : Int) : geM (pureM x : M S Int) (pureM y) = pureM (decide (y ≤ x)) := rfl
@[simp] theorem eqIM_pure (x y : Int) : eqIM (pureM x : M S Int) (pureM y) = pureM (decide (x = y)) := rfl
@[simp] theorem neIM_pure (x y : Int) : neIM (pureM x : M S Int) (pureM y) = pureM (!decide (x = y)) := rfl
theorem ev_lt (h : EV Xs F G a m) (h2 : EV Xs F G b n) : EV Xs F G (.Compare a [.Lt] [b] pos) (ltM m n) := ev_cmp (fun _ => op_lt) rv_intB h h2
theorem ev_le (h : EV Xs F G a m) (h2 : EV Xs F G b n) : EV Xs F G (.Compare a [.LtE] [b] pos) (leM m n) := ev_cmp (fun _ => op_le) rv_intB h h2
theorem ev_gt (h : EV Xs F G a m) (h2 : EV Xs F G b n) : EV Xs F G (.Compare a [.Gt] [b] pos) (gtM m n) := ev_cmp (fun _ => op_gt) rv_intB h h2
theorem ev_ge (h : EV Xs F G a m) (h2 : EV Xs F G b n) : EV Xs F G (.Compare a [.GtE] [b] pos) (geM m n) := ev_cmp (fun _ => op_ge) rv_intB h h2
theorem et_lt (h : EV Xs F G a m) (h2 : EV Xs F G b n) : ET Xs F G (.Compare a [.Lt] [b] pos) (ltM m n) := et_cmp (fun _ => op_lt) rv_intB h h2
theorem et_le (h : EV Xs F G a m) (h2 : EV Xs F G b n) : ET Xs F G (.Compare a [.LtE] [b] pos) (leM m n) := et_cmp (fun _ => op_le) rv_intB h h2
theorem et_gt (h : EV Xs F G a m) (h2 : EV Xs F G b n) : ET Xs F G (.Compare a [.Gt] [b] pos) (gtM m n) := et_cmp (fun _ => op_gt) rv_intB h h2
theorem et_ge (h : EV Xs F G a m) (h2 : EV Xs F G b n) : ET Xs F G (.Compare a [.GtE] [b] pos) (geM m n) := et_cmp (fun _ => op_ge) rv_intB h h2
theorem rv_eqI : RV2 rEq (fun x y : Int => some (decide (x = y))) := fun F Zx G s t H x y vx vy z gd rx ry e Q q => by
  cases e
  rw [rx.toInt, ry.toInt]
  refine ⟨rfl, q _ H (Same.refl H) ?_⟩
  rw [show decide (V.int x = V.int y) = decide (x = y) by simp]
  exact .bl _
theorem rv_neI : RV2 rNe (fun x y : Int => some (!decide (x = y))) := fun F Zx G s t H x y vx vy z gd rx ry e Q q => by
  cases e
  rw [rx.toInt, ry.toInt]
  refine ⟨rfl, q _ H (Same.refl H) ?_⟩
  rw [show decide (V.int x = V.int y) = decide (x = y) by simp]
  exact .bl _
theorem ev_eqI (h : EV Xs F G a m) (h2 : EV Xs F G b n) : EV Xs F G (.Compare a [.Eq] [b] pos) (eqIM m n) := ev_cmp (fun _ => op_eq) rv_eqI h h2
theorem et_eqI (h : EV Xs F G a m) (h2 : EV Xs F G b n) : ET Xs F G (.Compare a [.Eq] [b] pos) (eqIM m n) := et_cmp (fun _ => op_eq) rv_eqI h h2
theorem ev_neI (h : EV Xs F G a m) (h2 : EV Xs F G b n) : EV Xs F G (.Compare a [.NotEq] [b] pos) (neIM m n) := ev_cmp (fun _ => op_ne) rv_neI h h2
theorem et_neI (h : EV Xs F G a m) (h2 : EV Xs F G b n) : ET Xs F G (.Compare a [.NotEq] [b] pos) (neIM m n) := et_cmp (fun _ => op_ne) rv_neI h h2
end
end PL

namespace PL
open PySem L2 Enc

structure FnG (P : Program) (w : World) (K : PySem.W.Frag) (mg : Str → Option Value) (base : Heap) (CX : CXT) (k : Nat) (f : Addr) (fd : FuncData) (ps : List Str) (sp : Sp) : Prop where
  len : ∀ vs H Q E, sp vs H Q E → vs.length = ps.length
  run : ∀ (A : Around) (outer : List Env) (s : Shared) (H : Hp) (args : Args) (us : List Value) (vs : List V) (Q : VK) (E : XK),
    Room k A → A.guards = some [] → Env0 P w K mg base A outer s H → BindsTo s fd args (ps.zip us) → Vals vs us → sp vs H Q E →
      codeAny (model P w) A (.call (.ref f) args) (CR CX outer P w H s Q E) s
/-- a def of the module -/
structure DefG (P : Program) (w : World) (K : PySem.W.Frag) (mg : Str → Option Value) (base : Heap) (CX : CXT) (k : Nat) (x : Str) (ps : List Str) (sp : Sp) : Prop where
  ex : ∃ f fd, FnG P w K mg base CX k f fd ps sp ∧ mg x = some (.ref f) ∧ PySem.W.keepIn K (.ref f) = true ∧ Binds K fd ps []
section
variable {X : Cx} {CX : CXT} {k : Nat} {f : Addr} {fd : FuncData} {ps : List Str} {sp : Sp} {E : XK} {x : Str} {p pos : Pos} {e : Expr} {es : List Expr} {t : TA}
theorem run_fnG {pins : List (Addr × Obj)} {st : St} {H : Hp} {s : Shared} {Q : VK} {us : List Value} {vs : List V}
    (F : FnG X.prog X.w X.K X.mg X.base CX k f fd ps sp) (hr : Room k X.A) (hg : X.A.guards = some []) (hb : Binds X.K fd ps []) (hx : Passes CX X E)
    (I : Inv X pins st H s) (r : Vals vs us) (h : sp vs H Q E) : wpAny (model X.prog X.w) X.A (call (.ref f) us) (EP X pins st Q) X.xe s := by
  have hl : (us ++ []).length = ps.length := by
    rw [List.append_nil, ← r.length]
    exact F.len _ _ _ _ h
  have hb' := hb s us I.kIn hl
  rw [List.append_nil] at hb'
  refine wpAny_call (codeAny_mono (F.run X.A X.stack s H ⟨us, []⟩ us vs Q E hr hg I.env0 hb' r h) fun res s' hq => ?_)
  cases res with
  | error e => exact hx pins st H s e s' I hq
  | ok fl =>
    cases fl with
    | ret u => exact I.after hq
    | next => exact hq.elim
    | brk => exact hq.elim
    | cont => exact hq.elim
theorem pe_callG (D : DefG X.prog X.w X.K X.mg X.base CX k x ps sp) (hr : Room k X.A) (hgd : X.A.guards = some []) (hg : Gl X x) (hx : Passes CX X E) (ha : PA X (e :: es) t)
    (hdb : (x == ("__debug__" : Str)) = false) (he : starEach (e :: es) X.env = (false, eval e X.env) :: starEach es X.env) (hpl : (backTo pos (starEach es X.env)).any (·.1) = false) :
    PE X (.Call (.Name x p) (e :: es) [] pos) (tCall sp [] E t) := by
  obtain ⟨f, fd, F, hm, hk, hb⟩ := D.ex
  refine ⟨fun pins s st H Q I h => ?_⟩
  refine wpAny_Call_Name_kw (ld_glob I hg hm ?_ hdb)
  refine PySem.W.callWith_K (h₀ := X.base) I.ok.mod.kin hk (thn (ha.run pos pins s st H _ I h) fun us s1 ⟨vs, H1, I1, r, q⟩ => ⟨I1.kIn, ?_⟩) he hpl
  have q' : sp (vs ++ []) H1 Q E := q
  rw [List.append_nil] at q'
  exact run_fnG F hr hgd hb hx I1 r q'
theorem pe_callG0 (D : DefG X.prog X.w X.K X.mg X.base CX k x ps sp) (hr : Room k X.A) (hgd : X.A.guards = some []) (hg : Gl X x) (hx : Passes CX X E)
    (hdb : (x == ("__debug__" : Str)) = false) : PE X (.Call (.Name x p) [] [] pos) (tCall sp [] E tNil) := by
  obtain ⟨f, fd, F, hm, hk, hb⟩ := D.ex
  refine ⟨fun pins s st H Q I h => ?_⟩
  refine wpAny_Call_Name_kw (ld_glob I hg hm ?_ hdb)
  exact PySem.W.callWith_K0 I.kIn hk (run_fnG (us := []) F hr hgd hb hx I .nil h)
end

/-- a def that is a function of its data -/
def spP {U A : Type} [Enc A] (en : U → List PyData) (f : U → Option A) : Sp := fun vs H Q _ => ∃ (Z : Addr → Prop) (u : U) (r : A),
  (∀ b, Z b → H b ≠ none) ∧ RpL Z H vs (en u) ∧ f u = some r ∧ ∀ v H', Same H H' → Rp Z H' v (enc r) → Q v H'
/-- a def that besides changes what a frame holds, its first argument: T of them, each with its address -/
def spD {T S U A : Type} [Enc A] (Fm_ : T → Fm S) (root : T → Addr) (en : U → List PyData) (f : U → M S A) : Sp := fun vs H Q _ => ∃ (d : T) (Zx : Addr → Prop) (u : U) (r : A) (s s' : S) (ws : List V),
  vs = .ref (root d) :: ws ∧ (Fm_ d).at_ s H ∧ (∀ b, Zx b → H b ≠ none) ∧ RpL (fun b => (Fm_ d).Z b ∨ Zx b) H ws (en u) ∧ f u s = some (r, s') ∧
    ∀ v H', (Fm_ d).at_ s' H' → Fix (Fm_ d) H H' → Rp (fun b => (Fm_ d).Z b ∨ Zx b) H' v (enc r) → Q v H'
section
variable {I S A B C U : Type} [Enc A] [Enc B] [Enc C] {Xs : I → Cx} {F : Fm S} {G : List Sl} {pos p : Pos} {e a b : Expr} {es : List Expr} {x : Str} {k : Nat} {ps : List Str}
/-- the frame's rest is no place of F -/
theorem Gd.away {Zx : Addr → Prop} {s : S} {t : St} {H : Hp} (g : Gd F Zx G s t H) : ∀ b, ZF F Zx G t b → H b ≠ none := g.all
theorem ev_call {en : U → List PyData} {f : U → Option A} {m : M S U} (D : ∀ i, DefG (Xs i).prog (Xs i).w (Xs i).K (Xs i).mg (Xs i).base CX0 k x ps (spP en f)) (hr : ∀ i, Room k (Xs i).A) (hgd : ∀ i, (Xs i).A.guards = some [])
    (ha : EA Xs F G (e :: es) m en) (hg : ∀ i, Gl (Xs i) x := by intro _; rfl) (hdb : (x == ("__debug__" : Str)) = false := by decide)
    (he : ∀ i, starEach (e :: es) (Xs i).env = (false, eval e (Xs i).env) :: starEach es (Xs i).env := by intro _; rfl) (hpl : ∀ i, (backTo pos (starEach es (Xs i).env)).any (·.1) = false := by intro _; rfl) :
    EV Xs F G (.Call (.Name x p) (e :: es) [] pos) (bindM m fun u => ofO (f u)) := by
  obtain ⟨ta, hp, ho⟩ := ha
  refine ⟨tCall (spP en f) [] E0 ta, fun i => pe_callG (D i) (hr i) (hgd i) (hg i) pass0 (hp i) hdb (he i) (hpl i), fun Zx t H s y s' g hm Q q => ?_⟩
  obtain ⟨z, s1, h1, h2⟩ := bind_some hm
  obtain ⟨h3, rfl⟩ := ofO_eq h2
  refine ho Zx t H s z s1 g h1 _ fun vs H1 g1 f1 r1 => ?_
  refine ⟨ZF F Zx G t, z, y, g1.all, by rw [List.append_nil]; exact r1, h3, fun v H' sm r => ?_⟩
  exact q v H' (g1.same sm) (f1.trans (Fix.same sm)) r
/-- a call that changes what F holds, by the name of its first argument (slot j) -/
theorem ev_callD {T : Type} {Fm_ : T → Fm S} {root : T → Addr} (d : T) {en : U → List PyData} {f : U → M S A} {m : M S U} {j : Nat} {y : Str} {py : Pos} (D : ∀ i, DefG (Xs i).prog (Xs i).w (Xs i).K (Xs i).mg (Xs i).base CX0 k x ps (spD Fm_ root en f))
    (hr : ∀ i, Room k (Xs i).A) (hgd : ∀ i, (Xs i).A.guards = some []) (hj : G[j]? = some (.raw (.ref (root d)))) (hF : F = Fm_ d) (ha : EA Xs F G es m en)
    (hN : ∀ i, (Xs i).N[j]? = some y := by intro _; rfl) (hv : ∀ i, Vis (Xs i).env.scope y := by first | exact fun _ => Or.inl rfl | exact fun _ => Or.inr (Or.inl rfl) | exact fun _ => Or.inr (Or.inr rfl))
    (hd : (y == ("__debug__" : Str)) = false := by decide) (hcd : (y == ("__classdict__" : Str)) = false := by decide) (hg : ∀ i, Gl (Xs i) x := by intro _; rfl) (hdb : (x == ("__debug__" : Str)) = false := by decide)
    (he : ∀ i, starEach (.Name y py :: es) (Xs i).env = (false, eval (.Name y py) (Xs i).env) :: starEach es (Xs i).env := by intro _; rfl) (hpl : ∀ i, (backTo pos (starEach es (Xs i).env)).any (·.1) = false := by intro _; rfl) :
    EV Xs F G (.Call (.Name x p) (.Name y py :: es) [] pos) (bindM m f) := by
  subst hF
  obtain ⟨ta, hp, ho⟩ := ha
  refine ⟨tCall (spD Fm_ root en f) [] E0 (tCons (tVar j) ta), fun i => pe_callG (D i) (hr i) (hgd i) (hg i) pass0 (pa_cons (pe_var (hN i) (hv i) hd hcd) (hp i) (he i)) hdb (he i) (hpl i), fun Zx t H s r s' g hm Q q => ?_⟩
  obtain ⟨z, s1, h1, h2⟩ := bind_some hm
  obtain ⟨hk, _⟩ := List.getElem?_eq_some_iff.mp hj
  have hk' : j < t.length := by
    rw [g.len]
    exact hk
  have ht : t[j]? = some (t[j]'hk') := List.getElem?_eq_getElem hk'
  have hs : t[j]'hk' = some (.ref (root d)) := g.slot j _ _ hj ht
  refine ⟨_, by rw [ht, hs], ?_⟩
  refine ho Zx t H s z s1 g h1 _ fun vs H1 g1 f1 r1 => ?_
  refine ⟨d, fun b => Zx b ∨ Own G t b, z, r, s1, s', vs, by rw [List.append_nil], g1.at_, fun b hb => g1.all b (.inr hb), r1, h2, fun v H' ha f2 r2 => ?_⟩
  exact q v H' (g1.fix f2 ha) (f1.trans f2) r2

theorem ok_cb {r : List V → Hp → VK → Prop} {en : U → List PyData} {f : U → Option B} {ta : TA} {m : M S U} (hr : RVC r en f) (ha : TAok F G ta m en) : TEok F G (tCB r ta) (bindM m fun u => ofO (f u)) := fun Zx t H s y s' g hm Q q => by
  obtain ⟨z, s1, h1, h2⟩ := bind_some hm
  obtain ⟨h3, rfl⟩ := ofO_eq h2
  refine ha Zx t H s z s1 g h1 _ fun vs H1 g1 f1 r1 => ?_
  exact hr F Zx G s1 t H1 z vs y g1 r1 h3 _ fun v H2 sm r2 => q v H2 (g1.same sm) (f1.trans (Fix.same sm)) r2
theorem ev_blt {id : String} {r : List V → Hp → VK → Prop} {en : U → List PyData} {f : U → Option B} {m : M S U} (hc : ∀ i, CallR (Xs i) (.builtin id) r) (hr : RVC r en f) (hm : ∀ i, (Xs i).mg x = none) (hv : bootBuiltins x = some (.builtin id))
    (ha : EA Xs F G (e :: es) m en) (hg : ∀ i, Gl (Xs i) x := by intro _; rfl) (hn : x ≠ "__name__" := by decide) (hdb : (x == ("__debug__" : Str)) = false := by decide)
    (he : ∀ i, starEach (e :: es) (Xs i).env = (false, eval e (Xs i).env) :: starEach es (Xs i).env := by intro _; rfl) (hpl : ∀ i, (backTo pos (starEach es (Xs i).env)).any (·.1) = false := by intro _; rfl) :
    EV Xs F G (.Call (.Name x p) (e :: es) [] pos) (bindM m fun u => ofO (f u)) := by
  obtain ⟨ta, hp, ho⟩ := ha
  exact ⟨tCB r ta, fun i => pe_callB (hc i) (hg i) (hm i) hv (hp i) hn hdb (he i) (hpl i), ok_cb hr ho⟩
theorem ev_ty {id : String} {r : List V → Hp → VK → Prop} {en : U → List PyData} {f : U → Option B} {m : M S U} (hc : ∀ i, CallR (Xs i) (.type id) r) (hr : RVC r en f) (hm : ∀ i, (Xs i).mg x = none) (hv : bootBuiltins x = some (.type id))
    (ha : EA Xs F G (e :: es) m en) (hg : ∀ i, Gl (Xs i) x := by intro _; rfl) (hn : x ≠ "__name__" := by decide) (hdb : (x == ("__debug__" : Str)) = false := by decide)
    (he : ∀ i, starEach (e :: es) (Xs i).env = (false, eval e (Xs i).env) :: starEach es (Xs i).env := by intro _; rfl) (hpl : ∀ i, (backTo pos (starEach es (Xs i).env)).any (·.1) = false := by intro _; rfl) :
    EV Xs F G (.Call (.Name x p) (e :: es) [] pos) (bindM m fun u => ofO (f u)) := by
  obtain ⟨ta, hp, ho⟩ := ha
  exact ⟨tCB r ta, fun i => pe_callTy (hc i) (hg i) (hm i) hv (hp i) hn hdb (he i) (hpl i), ok_cb hr ho⟩
/-- one argument -/
def en1 [Enc A] : A × Unit → List PyData := fun u => [enc u.1]
theorem ea_1 {m : M S A} (h : EV Xs F G a m) (hs : ∀ i, starEach [a] (Xs i).env = (false, eval a (Xs i).env) :: starEach [] (Xs i).env := by intro _; rfl) : EA Xs F G [a] (pairM m (pureM ())) en1 := ea_cons h ea_nil hs
theorem RpL.one {Z : Addr → Prop} {H : Hp} {vs : List V} {d : PyData} (r : RpL Z H vs [d]) : ∃ v, vs = [v] ∧ Rp Z H v d := by
  cases r with
  | cons h t =>
    cases t
    exact ⟨_, rfl, h⟩
theorem RpL.two {Z : Addr → Prop} {H : Hp} {vs : List V} {d e : PyData} (r : RpL Z H vs [d, e]) : ∃ v w, vs = [v, w] ∧ Rp Z H v d ∧ Rp Z H w e := by
  cases r with
  | cons h t =>
    obtain ⟨w, rfl, hw⟩ := t.one
    exact ⟨_, _, rfl, h, hw⟩
theorem Rp.toLst {Z : Addr → Prop} {H : Hp} {v : V} {l : List A} (r : Rp Z H v (enc l)) : ∃ p xs, v = .ref p ∧ ¬ Z p ∧ H p = some (.lst xs) ∧ RpL Z H xs (l.map enc) := by
  have r' : Rp Z H v (.list (l.map enc)) := r
  cases r' with
  | lst n h t => exact ⟨_, _, rfl, n, h, t⟩
theorem Rp.toTup {Z : Addr → Prop} {H : Hp} {v : V} {l : Tup A} (r : Rp Z H v (enc l)) : ∃ p xs, v = .ref p ∧ ¬ Z p ∧ TupB H p xs ∧ RpL Z H xs (List.map enc (unTup l)) := by
  have r' : Rp Z H v (.tuple (List.map enc (unTup l))) := r
  cases r' with
  | tup n h t => exact ⟨_, _, rfl, n, h, t⟩
def fun1M {A B : Type} (f : A → Option B) (m : M S A) : M S B := bindM m fun x => ofO (f x)
@[simp] theorem fun1M_pure {A B : Type} (f : A → Option B) (x : A) : fun1M f (pureM x : M S A) = ofO (f x) := rfl
theorem ev_b1 {id : String} {r : List V → Hp → VK → Prop} {f : A → Option B} {m : M S A} (hc : ∀ i, CallR (Xs i) (.builtin id) r) (hr : RVC r (en1 (A := A)) fun u => f u.1) (hm : ∀ i, (Xs i).mg x = none) (hv : bootBuiltins x = some (.builtin id))
    (h : EV Xs F G a m) (hg : ∀ i, Gl (Xs i) x := by intro _; rfl) (hn : x ≠ "__name__" := by decide) (hdb : (x == ("__debug__" : Str)) = false := by decide)
    (he : ∀ i, starEach [a] (Xs i).env = (false, eval a (Xs i).env) :: starEach [] (Xs i).env := by intro _; rfl) : EV Xs F G (.Call (.Name x p) [a] [] pos) (fun1M f m) := by
  refine EV.eq (ev_blt hc hr hm hv (ea_1 h he) hg hn hdb he (fun _ => rfl)) ?_
  unfold fun1M pairM
  rw [bind_assoc]
  rfl
theorem ev_t1 {id : String} {r : List V → Hp → VK → Prop} {f : A → Option B} {m : M S A} (hc : ∀ i, CallR (Xs i) (.type id) r) (hr : RVC r (en1 (A := A)) fun u => f u.1) (hm : ∀ i, (Xs i).mg x = none) (hv : bootBuiltins x = some (.type id))
    (h : EV Xs F G a m) (hg : ∀ i, Gl (Xs i) x := by intro _; rfl) (hn : x ≠ "__name__" := by decide) (hdb : (x == ("__debug__" : Str)) = false := by decide)
    (he : ∀ i, starEach [a] (Xs i).env = (false, eval a (Xs i).env) :: starEach [] (Xs i).env := by intro _; rfl) : EV Xs F G (.Call (.Name x p) [a] [] pos) (fun1M f m) := by
  refine EV.eq (ev_ty hc hr hm hv (ea_1 h he) hg hn hdb he (fun _ => rfl)) ?_
  unfold fun1M pairM
  rw [bind_assoc]
  rfl
end
section
variable {I S A B C U : Type} [Enc A] [Enc B] [Enc C] {Xs : I → Cx} {F : Fm S} {G : List Sl} {pos p : Pos} {e a b : Expr} {es : List Expr} {K : PySem.W.Frag}
theorem bb_len : bootBuiltins "len" = some (.builtin "len") := by decide +kernel
theorem bb_sum : bootBuiltins "sum" = some (.builtin "sum") := by decide +kernel
theorem bb_abs : bootBuiltins "abs" = some (.builtin "abs") := by decide +kernel
theorem bb_max : bootBuiltins "max" = some (.builtin "max") := by decide +kernel
theorem bb_min : bootBuiltins "min" = some (.builtin "min") := by decide +kernel
theorem bb_sorted : bootBuiltins "sorted" = some (.builtin "sorted") := by decide +kernel
theorem bb_int : bootBuiltins "int" = some (.type "int") := by decide +kernel
theorem bb_tuple : bootBuiltins "tuple" = some (.type "tuple") := by decide +kernel
theorem bb_list : bootBuiltins "list" = some (.type "list") := by decide +kernel
/-- len of a list, of a tuple -/
theorem ev_lenL {m : M S (List A)} (hm : ∀ i, (Xs i).mg "len" = none) (h : EV Xs F G a m) (hg : ∀ i, Gl (Xs i) "len" := by intro _; rfl)
    (he : ∀ i, starEach [a] (Xs i).env = (false, eval a (Xs i).env) :: starEach [] (Xs i).env := by intro _; rfl) (hK : ∀ i, (Xs i).K = K := by intro _; rfl) : EV Xs F G (.Call (.Name "len" p) [a] [] pos) (fun1M (fun l : List A => some (l.length : Int)) m) :=
  ev_b1 (r := fun xs H Q => ∃ p ys, xs = [.ref p] ∧ (SqL K H p ys ∨ SqT K H p ys) ∧ Q (.int ys.length) H) (fun i => by rw [← hK i]; exact call_len_seq) (fun F Zx G s t H u vs z g r e Q q => by
    obtain ⟨v, rfl, rv⟩ := r.one
    obtain ⟨pp, xs, rfl, n, h, l⟩ := rv.toLst
    cases e
    refine ⟨pp, xs, rfl, .inl (SqL.of h), ?_⟩
    rw [l.len, List.length_map]
    exact q _ H (Same.refl H) (.int _)) hm bb_len h hg (by decide) (by decide) he
theorem ev_lenT {m : M S (Tup A)} (hm : ∀ i, (Xs i).mg "len" = none) (h : EV Xs F G a m) (hg : ∀ i, Gl (Xs i) "len" := by intro _; rfl)
    (he : ∀ i, starEach [a] (Xs i).env = (false, eval a (Xs i).env) :: starEach [] (Xs i).env := by intro _; rfl) (hK : ∀ i, (Xs i).K = K := by intro _; rfl) : EV Xs F G (.Call (.Name "len" p) [a] [] pos) (fun1M (fun l : Tup A => some ((unTup l).length : Int)) m) :=
  ev_b1 (r := fun xs H Q => ∃ p ys, xs = [.ref p] ∧ (SqL K H p ys ∨ SqT K H p ys) ∧ Q (.int ys.length) H) (fun i => by rw [← hK i]; exact call_len_seq) (fun F Zx G s t H u vs z g r e Q q => by
    obtain ⟨v, rfl, rv⟩ := r.one
    obtain ⟨pp, xs, rfl, n, h, l⟩ := rv.toTup
    cases e
    refine ⟨pp, xs, rfl, .inr (h.sq), ?_⟩
    rw [l.len, List.length_map]
    exact q _ H (Same.refl H) (.int _)) hm bb_len h hg (by decide) (by decide) he
/-- sum of a list of ints -/
theorem ev_sum {m : M S (List Int)} (hm : ∀ i, (Xs i).mg "sum" = none) (h : EV Xs F G a m) (hc : ∀ i, (Xs i).calm = true := by intro _; rfl) (hg : ∀ i, Gl (Xs i) "sum" := by intro _; rfl)
    (he : ∀ i, starEach [a] (Xs i).env = (false, eval a (Xs i).env) :: starEach [] (Xs i).env := by intro _; rfl) (hK : ∀ i, (Xs i).K = K := by intro _; rfl) : EV Xs F G (.Call (.Name "sum" p) [a] [] pos) (fun1M (fun l : List Int => some l.sum) m) :=
  ev_b1 (r := rSum K) (fun i => by rw [← hK i]; exact cr_sum (hc i)) (fun F Zx G s t H u vs z g r e Q q => by
    obtain ⟨v, rfl, rv⟩ := r.one
    obtain ⟨pp, xs, rfl, n, h, l⟩ := rv.toLst
    cases e
    rw [l.ints] at h
    exact ⟨pp, u.1, rfl, SqL.of h, q _ H (Same.refl H) (.int _)⟩) hm bb_sum h hg (by decide) (by decide) he
def absI (n : Int) : Int := if n < 0 then -n else n
theorem ev_abs {m : M S Int} (hm : ∀ i, (Xs i).mg "abs" = none) (h : EV Xs F G a m) (hg : ∀ i, Gl (Xs i) "abs" := by intro _; rfl)
    (he : ∀ i, starEach [a] (Xs i).env = (false, eval a (Xs i).env) :: starEach [] (Xs i).env := by intro _; rfl) : EV Xs F G (.Call (.Name "abs" p) [a] [] pos) (fun1M (fun n : Int => some (absI n)) m) :=
  ev_b1 (fun i => call_abs) (fun F Zx G s t H u vs z g r e Q q => by
    obtain ⟨v, rfl, rv⟩ := r.one
    obtain rfl := rv.toInt
    cases e
    exact ⟨u.1, rfl, q _ H (Same.refl H) (.int _)⟩) hm bb_abs h hg (by decide) (by decide) he
/-- int of a truth value -/
def b2I (b : Bool) : Int := if b then 1 else 0
theorem ev_intB {m : M S Bool} (hm : ∀ i, (Xs i).mg "int" = none) (h : EV Xs F G a m) (hg : ∀ i, Gl (Xs i) "int" := by intro _; rfl)
    (he : ∀ i, starEach [a] (Xs i).env = (false, eval a (Xs i).env) :: starEach [] (Xs i).env := by intro _; rfl) : EV Xs F G (.Call (.Name "int" p) [a] [] pos) (fun1M (fun n : Bool => some (b2I n)) m) :=
  ev_t1 (fun i => call_int1) (fun F Zx G s t H u vs z g r e Q q => by
    obtain ⟨v, rfl, rv⟩ := r.one
    obtain rfl := rv.bool
    cases e
    exact .inr ⟨u.1, rfl, q _ H (Same.refl H) (.int _)⟩) hm bb_int h hg (by decide) (by decide) he
/-- tuple(list), list(tuple), list(list) -/
theorem ev_tupleL {m : M S (List A)} (hm : ∀ i, (Xs i).mg "tuple" = none) (h : EV Xs F G a m) (hg : ∀ i, Gl (Xs i) "tuple" := by intro _; rfl)
    (he : ∀ i, starEach [a] (Xs i).env = (false, eval a (Xs i).env) :: starEach [] (Xs i).env := by intro _; rfl) (hK : ∀ i, (Xs i).K = K := by intro _; rfl) : EV Xs F G (.Call (.Name "tuple" p) [a] [] pos) (fun1M (fun l : List A => some (toTup l)) m) :=
  ev_t1 (r := rTupB K) (fun i => by rw [← hK i]; exact cr_tupB) (fun F Zx G s t H u vs z g r e Q q => by
    obtain ⟨v, rfl, rv⟩ := r.one
    obtain ⟨pp, xs, rfl, n, h, l⟩ := rv.toLst
    cases e
    refine ⟨pp, xs, rfl, SqL.of h, fun l' ob hl hb => ?_⟩
    have sm : Same H (upd H l' (.frz ob (.tup xs))) := same_new hl
    exact q _ _ sm (.tup (g.new hl) ⟨ob, upd_same, hb⟩ (l.fix (Fix.same sm)))) hm bb_tuple h hg (by decide) (by decide) he
theorem ev_listT {m : M S (Tup A)} (hm : ∀ i, (Xs i).mg "list" = none) (h : EV Xs F G a m) (hg : ∀ i, Gl (Xs i) "list" := by intro _; rfl)
    (he : ∀ i, starEach [a] (Xs i).env = (false, eval a (Xs i).env) :: starEach [] (Xs i).env := by intro _; rfl) (hK : ∀ i, (Xs i).K = K := by intro _; rfl) : EV Xs F G (.Call (.Name "list" p) [a] [] pos) (fun1M (fun l : Tup A => some (unTup l)) m) :=
  ev_t1 (r := fun xs H Q => ∃ p ys, xs = [.ref p] ∧ (SqL K H p ys ∨ SqT K H p ys) ∧ ∀ l, H l = none → Q (.ref l) (upd H l (.lst ys))) (fun i => by rw [← hK i]; exact call_list_of) (fun F Zx G s t H u vs z g r e Q q => by
    obtain ⟨v, rfl, rv⟩ := r.one
    obtain ⟨pp, xs, rfl, n, h, l⟩ := rv.toTup
    cases e
    refine ⟨pp, xs, rfl, .inr (h.sq), fun l' hl => ?_⟩
    have sm : Same H (upd H l' (.lst xs)) := same_new hl
    exact q _ _ sm (.lst (g.new hl) upd_same (l.fix (Fix.same sm)))) hm bb_list h hg (by decide) (by decide) he
/-- sorted ints -/
def sortI (l : List Int) : List Int := l.mergeSort fun a b => decide (a ≤ b)
theorem sortI_perm (l : List Int) : (sortI l).Perm l := List.mergeSort_perm l _
theorem sortI_le (l : List Int) : (sortI l).Pairwise (· ≤ ·) := by
  have h := List.pairwise_mergeSort (le := fun a b : Int => decide (a ≤ b)) (by intro a b c h1 h2; simp at *; omega) (by intro a b; simp; omega) l
  exact h.imp (by intro a b h; simpa using h)
theorem sorted_one : ∀ {l r : List Int}, l.Perm r → l.Pairwise (· ≤ ·) → r.Pairwise (· ≤ ·) → l = r
  | [], r, p, _, _ => p.nil_eq
  | a :: l, [], p, _, _ => absurd p.symm.nil_eq (by simp)
  | a :: l, b :: r, p, h1, h2 => by
    have e : a = b := by
      have m1 : a ∈ b :: r := p.subset List.mem_cons_self
      have m2 : b ∈ a :: l := p.symm.subset List.mem_cons_self
      rcases List.mem_cons.mp m1 with z | z
      · exact z
      · rcases List.mem_cons.mp m2 with y | y
        · exact y.symm
        · have q1 := (List.pairwise_cons.mp h1).1 b y
          have q2 := (List.pairwise_cons.mp h2).1 a z
          omega
    subst e
    rw [sorted_one (List.Perm.cons_inv p) (List.pairwise_cons.mp h1).2 (List.pairwise_cons.mp h2).2]
theorem ev_sortedI {m : M S (List Int)} (hm : ∀ i, (Xs i).mg "sorted" = none) (h : EV Xs F G a m) (hg : ∀ i, Gl (Xs i) "sorted" := by intro _; rfl)
    (he : ∀ i, starEach [a] (Xs i).env = (false, eval a (Xs i).env) :: starEach [] (Xs i).env := by intro _; rfl) (hK : ∀ i, (Xs i).K = K := by intro _; rfl) : EV Xs F G (.Call (.Name "sorted" p) [a] [] pos) (fun1M (fun l : List Int => some (sortI l)) m) :=
  ev_b1 (r := rSortedI K) (fun i => by rw [← hK i]; exact cr_sortedI) (fun F Zx G s t H u vs z g r e Q q => by
    obtain ⟨v, rfl, rv⟩ := r.one
    obtain ⟨pp, xs, rfl, n, h, l⟩ := rv.toLst
    cases e
    rw [l.ints] at h
    refine ⟨pp, u.1, rfl, SqL.of h, fun ns' l' hp hs hl => ?_⟩
    obtain rfl : ns' = sortI u.1 := sorted_one (hp.trans (sortI_perm _).symm) hs (sortI_le _)
    have sm : Same H (upd H l' (.lst ((sortI u.1).map V.int))) := same_new hl
    exact q _ _ sm (.lst (g.new hl) upd_same (RpL.of_ints _))) hm bb_sorted h hg (by decide) (by decide) he
end
end PL

namespace PL
open PySem L2 Enc

section
variable {I S A B C : Type} [Enc A] [Enc B] [Enc C] {Xs : I → Cx} {F : Fm S} {G G' : List Sl} {pos p : Pos} {e a b tg iter : Expr} {es : List Expr}
def teU (Xs : I → Cx) (e : Expr) : TE := fun t H Q => ∃ te : TE, (∀ i, PE (Xs i) e te) ∧ te t H Q
theorem teU_pe (i : I) : PE (Xs i) e (teU Xs e) := ⟨fun pins s t H Q J ⟨te, hp, h⟩ => (hp i).run pins s t H Q J h⟩
theorem EV.uni {m : M S A} (h : EV Xs F G e m) : TEok F G (teU Xs e) m := by
  obtain ⟨te, hp, ho⟩ := h
  exact fun Zx t H s a s' g hm Q q => ⟨te, hp, ho Zx t H s a s' g hm Q q⟩
def EI (Xs : I → Cx) (F : Fm S) (G : List Sl) (ifs : List Expr) (m : M S Bool) : Prop := ∃ tt, (∀ i, PTs (Xs i) ifs tt) ∧ TTok F G tt m
theorem ei_nil : EI Xs F G [] (pureM true) := ⟨tYes, fun _ => pts_nil, fun Zx t H s b s' g hm Q q => by
  obtain ⟨rfl, rfl⟩ := pure_eq hm
  exact q H g (Fix.refl H)⟩
theorem ei_one {m : M S Bool} (h : ET Xs F G e m) : EI Xs F G [e] m := let ⟨t, hp, ho⟩ := h; ⟨t, fun i => pts_one (hp i), ho⟩
def tiU (Xs : I → Cx) (es : List Expr) : TT := fun t H Q => ∃ tt : TT, (∀ i, PTs (Xs i) es tt) ∧ tt t H Q
theorem tiU_pt (i : I) : PTs (Xs i) es (tiU Xs es) := ⟨fun pins s t H Q J ⟨te, hp, h⟩ => (hp i).run pins s t H Q J h⟩
theorem EI.uni {m : M S Bool} (h : EI Xs F G es m) : TTok F G (tiU Xs es) m := by
  obtain ⟨te, hp, ho⟩ := h
  exact fun Zx t H s a s' g hm Q q => ⟨te, hp, ho Zx t H s a s' g hm Q q⟩

def noOwn (G : List Sl) (ks : List Nat) : Bool := ks.all fun k => match G[k]? with
  | some (.own _) => false
  | _ => true
theorem noOwn_at {ks : List Nat} {k : Nat} {d : PyData} (h : noOwn G ks = true) (hk : k ∈ ks) : G[k]? ≠ some (.own d) := fun z => by
  have q := List.all_eq_true.mp h k hk
  rw [z] at q
  cases q
/-- names at ks alone are bound anew -/
structure Bound_ (F : Fm S) (Zx : Addr → Prop) (G' : List Sl) (s : S) (t t' : St) (H : Hp) (G : List Sl) (ks : List Nat) : Prop where
  gd : Gd F Zx G' s t' H
  own : ∀ b, Own G' t' b ↔ Own G t b
  else_ : ∀ j, j ∉ ks → t'[j]? = t[j]?
  len : t'.length = t.length
/-- what a target is handed: a tuple that is taken apart need not be known as bare -/
def Rt (tg : Expr) (Z : Addr → Prop) (H : Hp) (v : V) (d : PyData) : Prop := Rp Z H v d ∨ (∃ es k p, tg = .Tuple es k p) ∧ ∃ (T : Addr) (xs : List V) (ds : List PyData), v = .ref T ∧ d = .tuple ds ∧ ¬ Z T ∧ H T = some (.tup xs) ∧ RpL Z H xs ds
theorem Rt.of {tg : Expr} {Z : Addr → Prop} {H : Hp} {v : V} {d : PyData} (r : Rp Z H v d) : Rt tg Z H v d := .inl r
theorem Rt.ext {tg : Expr} {Z Z' : Addr → Prop} {H H' : Hp} {v : V} {d : PyData} (e : Ext Z H Z' H') (r : Rt tg Z H v d) : Rt tg Z' H' v d := by
  rcases r with r | ⟨h, T, xs, ds, e1, e2, n, h1, r⟩
  · exact .inl (r.ext e)
  · exact .inr ⟨h, T, xs, ds, e1, e2, e.not n h1, e.1 _ _ n h1, r.ext e⟩
theorem Rt.name {x : Str} {p : Pos} {Z : Addr → Prop} {H : Hp} {v : V} {d : PyData} (r : Rt (.Name x p) Z H v d) : Rp Z H v d := by
  rcases r with r | ⟨⟨_, _, _, h⟩, _⟩
  · exact r
  · cases h
theorem Rt.parts {K : PySem.W.Frag} {tg : Expr} {Z : Addr → Prop} {H : Hp} {v : V} {ds : List PyData} (r : Rt tg Z H v (.tuple ds)) : ∃ T xs, v = .ref T ∧ SqT K H T xs ∧ RpL Z H xs ds := by
  rcases r with r | ⟨_, T, xs, ds', e1, e2, n, h1, r⟩
  · cases r with
    | tup n e1 l1 => exact ⟨_, _, rfl, e1.sq, l1⟩
  · cases e2
    exact ⟨T, xs, e1, SqT.of h1, r⟩
def GBok (tg : Expr) (F : Fm S) (G : List Sl) (g : TG) (d : PyData) (G' : List Sl) (ks : List Nat) : Prop :=
  ∀ Zx t H s v, Gd F Zx G s t H → Rt tg (ZF F Zx G t) H v d → ∀ Q : St → Hp → Prop, (∀ t', Bound_ F Zx G' s t t' H G ks → Q t' H) → g v t H Q
def GBsok (F : Fm S) (G : List Sl) (g : TGs) (d : List PyData) (G' : List Sl) (ks : List Nat) : Prop :=
  ∀ Zx t H s v, Gd F Zx G s t H → RpL (ZF F Zx G t) H v d → ∀ Q : St → Hp → Prop, (∀ t', Bound_ F Zx G' s t t' H G ks → Q t' H) → g v t H Q
def BD (Xs : I → Cx) (F : Fm S) (G : List Sl) (tg : Expr) (d : PyData) (G' : List Sl) (ks : List Nat) : Prop := ∃ g, (∀ i, PG (Xs i) tg g) ∧ GBok tg F G g d G' ks
def BDs (Xs : I → Cx) (F : Fm S) (G : List Sl) (es : List Expr) (d : List PyData) (G' : List Sl) (ks : List Nat) : Prop := ∃ g, (∀ i, PGs (Xs i) es g) ∧ GBsok F G g d G' ks
theorem own_set {k : Nat} {d : PyData} {t : St} {o : Option V} (h : noOwn G [k] = true) (b : Addr) : Own (G.set k (.dat d)) (t.set k o) b ↔ Own G t b := by
  constructor
  · rintro ⟨i, d', h1, h2⟩
    by_cases hi : k = i
    · subst hi
      rw [List.getElem?_set] at h1
      by_cases hl : k < G.length
      · rw [if_pos rfl, if_pos hl] at h1
        cases h1
      · rw [if_pos rfl, if_neg hl] at h1
        cases h1
    · rw [List.getElem?_set_ne hi] at h1 h2
      exact ⟨i, d', h1, h2⟩
  · rintro ⟨i, d', h1, h2⟩
    have hi : k ≠ i := fun z => by
      subst z
      exact noOwn_at h List.mem_cons_self h1
    exact ⟨i, d', by rw [List.getElem?_set_ne hi]; exact h1, by rw [List.getElem?_set_ne hi]; exact h2⟩
theorem Gd.set {Zx : Addr → Prop} {s : S} {t : St} {H : Hp} {k : Nat} {d : PyData} {v : V} (g : Gd F Zx G s t H) (h : noOwn G [k] = true) (r : Rp (ZF F Zx G t) H v d) : Gd F Zx (G.set k (.dat d)) s (t.set k (some v)) H := by
  have own := fun b => own_set (d := d) (t := t) (o := some v) h b
  have ez : ZF F Zx (G.set k (.dat d)) (t.set k (some v)) = ZF F Zx G t := funext fun b => propext ⟨fun z => z.imp id (Or.imp id (own b).mp), fun z => z.imp id (Or.imp id (own b).mpr)⟩
  refine ⟨by rw [List.length_set, List.length_set]; exact g.len, g.at_, g.trk, fun i l o h1 h2 => ?_, fun i j d1 d2 p h1 h2 h3 h4 => ?_, fun p z => g.sep p ((own p).mp z)⟩
  · rw [ez]
    by_cases hi : k = i
    · subst hi
      rw [List.getElem?_set] at h1 h2
      by_cases hl : k < G.length
      · rw [if_pos rfl, if_pos hl] at h1
        rw [if_pos rfl, if_pos (by rw [g.len]; exact hl)] at h2
        cases h1
        cases h2
        exact ⟨v, rfl, r⟩
      · rw [if_pos rfl, if_neg hl] at h1
        cases h1
    · rw [List.getElem?_set_ne hi] at h1 h2
      exact g.slot i l o h1 h2
  · have hi : ∀ {i : Nat} {d' : PyData}, (G.set k (.dat d))[i]? = some (.own d') → k ≠ i := fun {i d'} q z => by
      subst z
      rw [List.getElem?_set] at q
      by_cases hl : k < G.length
      · rw [if_pos rfl, if_pos hl] at q
        cases q
      · rw [if_pos rfl, if_neg hl] at q
        cases q
    have ni := hi h1
    have nj := hi h2
    rw [List.getElem?_set_ne ni] at h1 h3
    rw [List.getElem?_set_ne nj] at h2 h4
    exact g.inj i j d1 d2 p h1 h2 h3 h4
theorem bd_name {k : Nat} {x : Str} {d : PyData} (h : noOwn G [k] = true := by rfl) (hN : ∀ i, (Xs i).N.Nodup) (hi : ∀ i, (Xs i).N[k]? = some x := by intro _; rfl)
    (hx : ∀ i, Loc (Xs i).env.scope x := by first | exact fun _ => Or.inl rfl | exact fun _ => Or.inr rfl) (hf : ∀ i, (Xs i).fn x = true ∨ (Xs i).env.scope.names.lookup x = some .local := by first | exact fun _ => .inl rfl | exact fun _ => .inr rfl) :
    BD Xs F G (.Name x pos) d (G.set k (.dat d)) [k] := by
  refine ⟨gName k, fun i => pg_name (hN i) (hi i) (hx i) (hf i), fun Zx t H s v g r Q q => ?_⟩
  exact q _ ⟨g.set h r.name, fun b => own_set h b, fun j hj => by rw [List.getElem?_set_ne (fun z => hj (by rw [z]; exact List.mem_cons_self))], List.length_set⟩
theorem bds_nil : BDs Xs F G [] [] G [] := ⟨gNil, fun _ => pgs_nil, fun Zx t H s v g r Q q => by
  cases r
  exact ⟨rfl, q t ⟨g, fun _ => Iff.rfl, fun _ _ => rfl, rfl⟩⟩⟩
theorem bds_cons {G1 : List Sl} {d : PyData} {ds : List PyData} {ks ls : List Nat} (h : BD Xs F G e d G1 ks) (h2 : BDs Xs F G1 es ds G' ls)
    (hs : ∀ i, (assignEach (e :: es) (Xs i).env).map (·.2) = assign e (Xs i).env :: (assignEach es (Xs i).env).map (·.2) := by intro _; rfl) : BDs Xs F G (e :: es) (d :: ds) G' (ks ++ ls) := by
  obtain ⟨g1, hp, ho⟩ := h
  obtain ⟨g2, hq, hw⟩ := h2
  refine ⟨gCons g1 g2, fun i => pgs_cons (hp i) (hq i) (hs i), fun Zx t H s v g r Q q => ?_⟩
  cases r with
  | cons r1 r2 =>
    refine ⟨_, _, rfl, ?_⟩
    refine ho Zx t H s _ g (.of r1) _ fun t1 b1 => ?_
    have r2' := r2.ext (Z' := ZF F Zx G1 t1) (Ext.less fun b z => z.imp id (Or.imp id (b1.own b).mp))
    refine hw Zx t1 H s _ b1.gd r2' _ fun t2 b2 => ?_
    refine q t2 ⟨b2.gd, fun b => (b2.own b).trans (b1.own b), fun j hj => ?_, b2.len.trans b1.len⟩
    rw [List.mem_append] at hj
    rw [b2.else_ j (fun z => hj (.inr z)), b1.else_ j (fun z => hj (.inl z))]
theorem bd_tup {k n : Nat} {ds : List PyData} {ks : List Nat} (h : BDs Xs F G es ds G' ks) (hc : ∀ i, (Xs i).calm = true := by intro _; rfl) (hl : ds.length = n := by rfl)
    (hn : ∀ i, (assignEach es (Xs i).env).length = n := by intro _; rfl) (hst : ∀ i, (assignEach es (Xs i).env).findIdx? (·.1) = none := by intro _; rfl) {K : PySem.W.Frag} (hK : ∀ i, (Xs i).K = K := by intro _; rfl) :
    BD Xs F G (.Tuple es k pos) (.tuple ds) G' ks := by
  obtain ⟨g1, hp, ho⟩ := h
  refine ⟨gTup K n g1, fun i => by rw [← hK i]; exact pg_tup (hc i) (hp i) (hn i) (hst i), fun Zx t H s v g r Q q => ?_⟩
  obtain ⟨T, xs, rfl, e1, l1⟩ := r.parts
  exact ⟨_, _, rfl, e1, by rw [l1.len, hl], ho Zx t H s _ g l1 Q q⟩
def tgU (Xs : I → Cx) (e : Expr) : TG := fun v t H Q => ∃ g : TG, (∀ i, PG (Xs i) e g) ∧ g v t H Q
theorem tgU_pg (i : I) : PG (Xs i) e (tgU Xs e) := ⟨fun pins s t H v u Q J r ⟨te, hp, h⟩ => (hp i).run pins s t H v u Q J r h⟩
theorem BD.uni {d : PyData} {ks : List Nat} (h : BD Xs F G e d G' ks) : GBok e F G (tgU Xs e) d G' ks := by
  obtain ⟨te, hp, ho⟩ := h
  exact fun Zx t H s v g r Q q => ⟨te, hp, ho Zx t H s v g r Q q⟩

def ItOk (tg : Expr) (J : It) (l : List A) (Z : Addr → Prop) (H1 : Hp) : Prop := ∀ Z' H, Ext Z H1 Z' H → (∀ b, Z' b → H b ≠ none) →
  (∀ i x, l[i]? = some x → J.go i H ∧ ∀ v H', J.yld i H v H' → Same H H' ∧ Rt tg Z' H' v (enc x)) ∧ ∀ i, l.length ≤ i → J.stop i H
def IV (Xs : I → Cx) (F : Fm S) (G : List Sl) (tg iter : Expr) (m : M S (List A)) : Prop := ∃ wi, (∀ i, PI (Xs i) tg iter wi) ∧
  ∀ Zx t H s l s', Gd F Zx G s t H → m s = some (l, s') → ∀ R : It → Hp → Prop, (∀ J H', Gd F Zx G s' t H' → Fix F H H' → ItOk tg J l (ZF F Zx G t) H' → R J H') → wi t H R
theorem iv_list {m : M S (List A)} (h : EV Xs F G iter m) {K : PySem.W.Frag} (hK : ∀ i, (Xs i).K = K := by intro _; rfl) : IV Xs F G tg iter m := by
  obtain ⟨te, hp, ho⟩ := h
  refine ⟨iList K te, fun i => by rw [← hK i]; exact pi_list (hp i), fun Zx t H s l s' g hm R q => ?_⟩
  refine ho Zx t H s l s' g hm _ fun v H1 g1 f1 r1 => ?_
  obtain ⟨pp, xs, rfl, n, h, r⟩ := r1.toLst
  refine ⟨pp, rfl, ⟨xs, SqL.of h⟩, q _ H1 g1 f1 fun Z' H2 ex tr => ⟨fun i x hx => ?_, fun i hi => ?_⟩⟩
  · have h2 := ex.1 _ _ n h
    have r2 := r.ext ex
    obtain ⟨y, hy, ry⟩ := r2.get (i := i) (x := enc x) (by rw [List.getElem?_map, hx]; rfl)
    refine ⟨⟨xs, y, SqL.of h2, hy⟩, fun v H' ⟨e1, e2⟩ => ?_⟩
    subst e1
    have e3 := e2 xs (SqL.of h2)
    rw [hy] at e3
    cases e3
    exact ⟨Same.refl _, .of ry⟩
  · exact ⟨xs, SqL.of (ex.1 _ _ n h), by rw [r.len, List.length_map]; exact hi⟩
theorem iv_tup {m : M S (Tup A)} (h : EV Xs F G iter m) {K : PySem.W.Frag} (hK : ∀ i, (Xs i).K = K := by intro _; rfl) : IV Xs F G tg iter (mapM1 unTup m) := by
  obtain ⟨te, hp, ho⟩ := h
  refine ⟨iTup K te, fun i => by rw [← hK i]; exact pi_tup (hp i), fun Zx t H s l s' g hm R q => ?_⟩
  obtain ⟨z, s1, h1, h2⟩ := bind_some hm
  obtain ⟨rfl, rfl⟩ := pure_eq h2
  refine ho Zx t H s z s1 g h1 _ fun v H1 g1 f1 r1 => ?_
  obtain ⟨pp, xs, rfl, n, h, r⟩ := r1.toTup
  refine ⟨pp, rfl, ⟨xs, h.sq⟩, q _ H1 g1 f1 fun Z' H2 ex tr => ⟨fun i x hx => ?_, fun i hi => ?_⟩⟩
  · have h2 := h.at_ fun o q => ex.1 _ o n q
    have r2 := r.ext ex
    obtain ⟨y, hy, ry⟩ := r2.get (i := i) (x := enc x) (by rw [List.getElem?_map, hx]; rfl)
    refine ⟨⟨xs, y, h2.sq, hy⟩, fun v H' ⟨e1, e2⟩ => ?_⟩
    subst e1
    have e3 := e2 xs h2.sq
    rw [hy] at e3
    cases e3
    exact ⟨Same.refl _, .of ry⟩
  · exact ⟨xs, (h.at_ fun o q => ex.1 _ o n q).sq, by rw [r.len, List.length_map]; exact hi⟩
/-- lo, .., hi - 1 -/
def rangeL (lo hi : Int) : List Int := (List.range (hi - lo).toNat).map fun (i : Nat) => lo + (i : Int)
def rgOk (n : Int) : Prop := -(2 ^ 62) ≤ n ∧ n < 2 ^ 62
instance (n : Int) : Decidable (rgOk n) := inferInstanceAs (Decidable (_ ∧ _))
theorem range_ok {tg : Expr} (lo : Int) (n : Nat) (Z : Addr → Prop) (H1 : Hp) : ItOk tg (Itr lo n) ((List.range n).map fun (i : Nat) => lo + (i : Int)) Z H1 := fun Z' H ex tr => ⟨fun i x hx => by
  rw [List.getElem?_map] at hx
  cases hr : (List.range n)[i]? with
  | none =>
    rw [hr] at hx
    cases hx
  | some j =>
    rw [hr] at hx
    obtain ⟨h1, h2⟩ := List.getElem?_eq_some_iff.mp hr
    rw [List.length_range] at h1
    rw [List.getElem_range] at h2
    subst h2
    have hx' : lo + (i : Int) = x := Option.some.inj hx
    subst hx'
    exact ⟨h1, fun v H' ⟨e1, e2⟩ => by
      subst e1
      subst e2
      exact ⟨Same.refl _, .of (.int _)⟩⟩, fun i hi => by
  rw [List.length_map, List.length_range] at hi
  exact hi⟩
theorem iv_range1 {m : M S Int} (hm : ∀ i, (Xs i).mg "range" = none) (h : EV Xs F G a m) (hg : ∀ i, Gl (Xs i) "range" := by intro _; rfl) (hs : ∀ i, starEach [a] (Xs i).env = [(false, eval a (Xs i).env)] := by intro _; rfl) :
    IV Xs F G tg (.Call (.Name "range" p) [a] [] pos) (bindM m fun n => guardM (rgOk n) (pureM (rangeL 0 n))) := by
  obtain ⟨te, hp, ho⟩ := h
  refine ⟨iRng1 (tCons te tNil), fun i => pi_range1 (hg i) (hm i) (pa_cons (hp i) pa_nil (hs i)) (hs i), fun Zx t H s l s' g hm' R q => ?_⟩
  obtain ⟨z, s1, h1, h2⟩ := bind_some hm'
  obtain ⟨hz, h3⟩ := guard_eq h2
  obtain ⟨rfl, rfl⟩ := pure_eq h3
  refine ho Zx t H s z s1 g h1 _ fun v H1 g1 f1 r1 => ?_
  obtain rfl := r1.toInt
  refine ⟨z, rfl, hz.1, hz.2, q _ H1 g1 f1 ?_⟩
  have := range_ok (tg := tg) 0 z.toNat (ZF F Zx G t) H1
  unfold rangeL
  rw [Int.sub_zero]
  exact this
theorem iv_range2 {m n : M S Int} (hm : ∀ i, (Xs i).mg "range" = none) (h : EV Xs F G a m) (h' : EV Xs F G b n) (hg : ∀ i, Gl (Xs i) "range" := by intro _; rfl) (hs : ∀ i, starEach [a, b] (Xs i).env = [(false, eval a (Xs i).env), (false, eval b (Xs i).env)] := by intro _; rfl)
    (hs2 : ∀ i, starEach [b] (Xs i).env = [(false, eval b (Xs i).env)] := by intro _; rfl) :
    IV Xs F G tg (.Call (.Name "range" p) [a, b] [] pos) (bindM m fun lo => bindM n fun hi => guardM (rgOk lo ∧ rgOk hi) (pureM (rangeL lo hi))) := by
  obtain ⟨te, hp, ho⟩ := h
  obtain ⟨tf, hp', ho'⟩ := h'
  refine ⟨iRng2 (tCons te (tCons tf tNil)), fun i => pi_range2 (hg i) (hm i) (pa_cons (hp i) (pa_cons (hp' i) pa_nil (hs2 i)) (by rw [hs i, hs2 i])) (hs i) (hs2 i), fun Zx t H s l s' g hm' R q => ?_⟩
  obtain ⟨z, s1, h1, h2⟩ := bind_some hm'
  obtain ⟨y, s2, h3, h4⟩ := bind_some h2
  obtain ⟨hz, h5⟩ := guard_eq h4
  obtain ⟨rfl, rfl⟩ := pure_eq h5
  refine ho Zx t H s z s1 g h1 _ fun v H1 g1 f1 r1 => ?_
  refine ho' Zx t H1 s1 y s2 g1 h3 _ fun v2 H2 g2 f2 r2 => ?_
  obtain rfl := r1.toInt
  obtain rfl := r2.toInt
  exact ⟨z, y, rfl, ⟨hz.1.1, hz.1.2, hz.2.1, hz.2.2⟩, q _ H2 g2 (f1.trans f2) (range_ok z _ _ _)⟩
theorem Gd.fresh_tup {es : List Expr} {k : Nat} {p : Pos} {Z' : Addr → Prop} {H : Hp} {T : Addr} {xs : List V} {ds : List PyData} (tr : ∀ b, Z' b → H b ≠ none) (hT : H T = none) (r : RpL Z' H xs ds) : Rt (.Tuple es k p) Z' (upd H T (.tup xs)) (.ref T) (.tuple ds) :=
  .inr ⟨⟨es, k, p, rfl⟩, T, xs, ds, rfl, rfl, fun z => tr T z hT, upd_same, r.ext ⟨fun b o _ h => same_new hT b o h, fun b z => .inl z⟩⟩
theorem iv_zip {m : M S (List A)} {n : M S (List B)} {elts : List Expr} {kk : Nat} {tpos : Pos} (hm : ∀ i, (Xs i).mg "zip" = none) (h : EV Xs F G a m) (h' : EV Xs F G b n) (hg : ∀ i, Gl (Xs i) "zip" := by intro _; rfl)
    (hs1 : ∀ i, starEach [a, b] (Xs i).env = (false, eval a (Xs i).env) :: starEach [b] (Xs i).env := by intro _; rfl) (hs2 : ∀ i, starEach [b] (Xs i).env = (false, eval b (Xs i).env) :: starEach [] (Xs i).env := by intro _; rfl)
    (hpl : ∀ i, (backTo pos (starEach [b] (Xs i).env)).any (·.1) = false := by intro _; rfl) {K : PySem.W.Frag} (hK : ∀ i, (Xs i).K = K := by intro _; rfl) : IV Xs F G (.Tuple elts kk tpos) (.Call (.Name "zip" p) [a, b] [] pos) (bindM m fun x => bindM n fun y => pureM (x.zip y)) := by
  obtain ⟨te, hp, ho⟩ := h
  obtain ⟨tf, hp', ho'⟩ := h'
  refine ⟨iZip K (tCons te (tCons tf tNil)), fun i => by rw [← hK i]; exact pi_zip (hg i) (hm i) (pa_cons (hp i) (pa_cons (hp' i) pa_nil (hs2 i)) (hs1 i)) (hs1 i) (hpl i), fun Zx t H s l s' g hm' R q => ?_⟩
  obtain ⟨z, s1, h1, h2⟩ := bind_some hm'
  obtain ⟨y, s2, h3, h4⟩ := bind_some h2
  obtain ⟨rfl, rfl⟩ := pure_eq h4
  refine ho Zx t H s z s1 g h1 _ fun v H1 g1 f1 r1 => ?_
  refine ho' Zx t H1 s1 y s2 g1 h3 _ fun v2 H2 g2 f2 r2 => ?_
  obtain ⟨p1, xs, rfl, n1, e1, l1⟩ := (r1.fix f2).toLst
  obtain ⟨p2, ys, rfl, n2, e2, l2⟩ := r2.toLst
  refine ⟨p1, p2, xs, ys, rfl, SqL.of e1, SqL.of e2, q _ H2 g2 (f1.trans f2) fun Z' H3 ex tr => ⟨fun i x hx => ?_, fun i hi => ?_⟩⟩
  · obtain ⟨x1, x2⟩ := x
    rw [List.getElem?_zip_eq_some] at hx
    obtain ⟨hx1, hx2⟩ := hx
    have k1 := ex.1 _ _ n1 e1
    have k2 := ex.1 _ _ n2 e2
    obtain ⟨y1, hy1, ry1⟩ := (l1.ext ex).get (i := i) (x := enc x1) (by rw [List.getElem?_map, hx1]; rfl)
    obtain ⟨y2, hy2, ry2⟩ := (l2.ext ex).get (i := i) (x := enc x2) (by rw [List.getElem?_map, hx2]; rfl)
    refine ⟨⟨xs, ys, y1, y2, SqL.of k1, SqL.of k2, hy1, hy2⟩, fun v H' hyl => ?_⟩
    obtain ⟨T, w1, w2, rfl, hT, rfl, q1, q2⟩ := hyl
    have e3 := q1 xs (SqL.of k1)
    have e4 := q2 ys (SqL.of k2)
    rw [hy1] at e3
    rw [hy2] at e4
    cases e3
    cases e4
    exact ⟨same_new hT, Gd.fresh_tup tr hT (.cons ry1 (.cons ry2 .nil))⟩
  · refine ⟨xs, ys, SqL.of (ex.1 _ _ n1 e1), SqL.of (ex.1 _ _ n2 e2), ?_⟩
    rw [l1.len, l2.len, List.length_map, List.length_map]
    rw [List.length_zip] at hi
    omega
theorem iv_enum {m : M S (List A)} {elts : List Expr} {kk : Nat} {tpos : Pos} (hm : ∀ i, (Xs i).mg "enumerate" = none) (h : EV Xs F G a m) (hg : ∀ i, Gl (Xs i) "enumerate" := by intro _; rfl)
    (hs1 : ∀ i, starEach [a] (Xs i).env = (false, eval a (Xs i).env) :: starEach [] (Xs i).env := by intro _; rfl) {K : PySem.W.Frag} (hK : ∀ i, (Xs i).K = K := by intro _; rfl) :
    IV Xs F G (.Tuple elts kk tpos) (.Call (.Name "enumerate" p) [a] [] pos) (bindM m fun x => pureM (x.zipIdx.map fun q => ((q.2 : Int), q.1))) := by
  obtain ⟨te, hp, ho⟩ := h
  refine ⟨iEnum K (tCons te tNil), fun i => by rw [← hK i]; exact pi_enum (hg i) (hm i) (pa_cons (hp i) pa_nil (hs1 i)) (hs1 i), fun Zx t H s l s' g hm' R q => ?_⟩
  obtain ⟨z, s1, h1, h2⟩ := bind_some hm'
  obtain ⟨rfl, rfl⟩ := pure_eq h2
  refine ho Zx t H s z s1 g h1 _ fun v H1 g1 f1 r1 => ?_
  obtain ⟨p1, xs, rfl, n1, e1, l1⟩ := r1.toLst
  refine ⟨p1, xs, rfl, SqL.of e1, q _ H1 g1 f1 fun Z' H3 ex tr => ⟨fun i x hx => ?_, fun i hi => ?_⟩⟩
  · rw [List.getElem?_map, List.getElem?_zipIdx] at hx
    cases hz : z[i]? with
    | none =>
      rw [hz] at hx
      cases hx
    | some x1 =>
      rw [hz] at hx
      have hx' : ((0 + i : Nat) : Int) = x.1 ∧ x1 = x.2 := by
        have := Option.some.inj hx
        rw [← this]
        exact ⟨rfl, rfl⟩
      have k1 := ex.1 _ _ n1 e1
      obtain ⟨y1, hy1, ry1⟩ := (l1.ext ex).get (i := i) (x := enc x1) (by rw [List.getElem?_map, hz]; rfl)
      refine ⟨⟨xs, y1, SqL.of k1, hy1⟩, fun v H' hyl => ?_⟩
      obtain ⟨T, w1, rfl, hT, rfl, q1⟩ := hyl
      have e3 := q1 xs (SqL.of k1)
      rw [hy1] at e3
      cases e3
      refine ⟨same_new hT, ?_⟩
      have := Gd.fresh_tup (es := elts) (k := kk) (p := tpos) tr hT (.cons (.int (i : Nat)) (.cons ry1 .nil))
      show Rt _ Z' _ _ (.tuple [enc x.1, enc x.2])
      rw [← hx'.1, ← hx'.2, Nat.zero_add]
      exact this
  · refine ⟨xs, SqL.of (ex.1 _ _ n1 e1), ?_⟩
    rw [l1.len, List.length_map]
    rw [List.length_map, List.length_zipIdx] at hi
    exact hi

def lcM {A B : Type} (p : A → M S Bool) (f : A → M S B) : List A → M S (List B)
  | [] => pureM []
  | x :: l => bindM (p x) fun c => if c then bindM (f x) fun y => bindM (lcM p f l) fun r => pureM (y :: r) else lcM p f l
def wipeG (G : List Sl) : List Nat → List Sl
  | [] => G
  | v :: vs => (wipeG G vs).set v .un
theorem wipeG_get {G : List Sl} {i : Nat} {l : Sl} : ∀ {vs : List Nat}, (wipeG G vs)[i]? = some l → l = .un ∨ (G[i]? = some l ∧ i ∉ vs)
  | [], h => .inr ⟨h, by simp⟩
  | v :: vs, h => by
    have h' : ((wipeG G vs).set v .un)[i]? = some l := h
    rw [List.getElem?_set] at h'
    by_cases e : v = i
    · rw [if_pos e] at h'
      split at h'
      · cases h'
        exact .inl rfl
      · cases h'
    · rw [if_neg e] at h'
      rcases wipeG_get h' with q | ⟨q, n⟩
      · exact .inl q
      · exact .inr ⟨q, fun z => (List.mem_cons.mp z).elim (fun y => e y.symm) n⟩
theorem wipeG_keep {G : List Sl} {i : Nat} : ∀ {vs : List Nat}, i ∉ vs → (wipeG G vs)[i]? = G[i]?
  | [], _ => rfl
  | v :: vs, h => by
    show ((wipeG G vs).set v .un)[i]? = G[i]?
    rw [List.getElem?_set_ne (fun z => h (by rw [z]; exact List.mem_cons_self)), wipeG_keep fun z => h (List.mem_cons_of_mem _ z)]
theorem wipe_keep {t : St} {i : Nat} : ∀ {vs : List Nat}, i ∉ vs → (wipe t vs)[i]? = t[i]?
  | [], _ => rfl
  | v :: vs, h => by
    show ((wipe t vs).set v none)[i]? = t[i]?
    rw [List.getElem?_set_ne (fun z => h (by rw [z]; exact List.mem_cons_self)), wipe_keep fun z => h (List.mem_cons_of_mem _ z)]
theorem wipeG_len (G : List Sl) : ∀ vs : List Nat, (wipeG G vs).length = G.length
  | [] => rfl
  | v :: vs => by
    show ((wipeG G vs).set v .un).length = _
    rw [List.length_set, wipeG_len G vs]
theorem wipe_at {t : St} {i : Nat} {o : Option V} : ∀ {vs : List Nat}, (wipe t vs)[i]? = some o → i ∈ vs → o = none
  | [], _, h => by simp at h
  | v :: vs, h, hi => by
    have h' : ((wipe t vs).set v none)[i]? = some o := h
    rw [List.getElem?_set] at h'
    by_cases e : v = i
    · rw [if_pos e] at h'
      split at h'
      · cases h'
        rfl
      · cases h'
    · rw [if_neg e] at h'
      exact wipe_at h' ((List.mem_cons.mp hi).elim (fun z => absurd z.symm e) id)
theorem wipe_eq {t t' : St} {vs : List Nat} (h : ∀ j, j ∉ vs → t'[j]? = t[j]?) (hl : t'.length = t.length) : wipe t' vs = wipe t vs := by
  apply List.ext_getElem?
  intro j
  by_cases hj : j ∈ vs
  · cases e1 : (wipe t' vs)[j]? with
    | none =>
      have q := List.getElem?_eq_none_iff.mp e1
      rw [wipe_length, hl] at q
      exact (List.getElem?_eq_none_iff.mpr (by rw [wipe_length]; exact q)).symm
    | some o =>
      obtain rfl := wipe_at e1 hj
      have q := (List.getElem?_eq_some_iff.mp e1).1
      rw [wipe_length, hl] at q
      have q2 : j < (wipe t vs).length := by
        rw [wipe_length]
        exact q
      have e2 : (wipe t vs)[j]? = some ((wipe t vs)[j]'q2) := List.getElem?_eq_getElem q2
      have e3 := wipe_at e2 hj
      rw [e2, e3]
  · rw [wipe_keep hj, wipe_keep hj, h j hj]
theorem own_wipe {t : St} {vs : List Nat} (h : noOwn G vs = true) (b : Addr) : Own (wipeG G vs) (wipe t vs) b ↔ Own G t b := by
  constructor
  · rintro ⟨i, d, h1, h2⟩
    rcases wipeG_get h1 with z | ⟨z, n⟩
    · cases z
    · rw [wipe_keep n] at h2
      exact ⟨i, d, z, h2⟩
  · rintro ⟨i, d, h1, h2⟩
    have n : i ∉ vs := fun z => noOwn_at h z h1
    exact ⟨i, d, by rw [wipeG_keep n]; exact h1, by rw [wipe_keep n]; exact h2⟩
theorem zf_wipe {Zx : Addr → Prop} {t : St} {vs : List Nat} (h : noOwn G vs = true) : ZF F Zx (wipeG G vs) (wipe t vs) = ZF F Zx G t :=
  funext fun b => propext ⟨fun z => z.imp id (Or.imp id (own_wipe h b).mp), fun z => z.imp id (Or.imp id (own_wipe h b).mpr)⟩
theorem Gd.wipe {Zx : Addr → Prop} {s : S} {t : St} {H : Hp} {vs : List Nat} (g : Gd F Zx G s t H) (h : noOwn G vs = true) : Gd F Zx (wipeG G vs) s (L2.wipe t vs) H := by
  refine ⟨by rw [wipe_length, wipeG_len]; exact g.len, g.at_, g.trk, fun i l o h1 h2 => ?_, fun i j d e p h1 h2 h3 h4 => ?_, fun p z => g.sep p ((own_wipe h p).mp z)⟩
  · rw [zf_wipe h]
    rcases wipeG_get h1 with z | ⟨z, n⟩
    · subst z
      trivial
    · rw [wipe_keep n] at h2
      exact g.slot i l o z h2
  · rcases wipeG_get h1 with z | ⟨z1, n1⟩
    · cases z
    · rcases wipeG_get h2 with z | ⟨z2, n2⟩
      · cases z
      · rw [wipe_keep n1] at h3
        rw [wipe_keep n2] at h4
        exact g.inj i j d e p z1 z2 h3 h4
/-- a step that leaves what the names hold -/
theorem Gd.keep {Zx : Addr → Prop} {s : S} {t : St} {H H' : Hp} (g : Gd F Zx G s t H) (h1 : ∀ b o, ¬ F.Z b → ¬ Zx b → H b = some o → H' b = some o) (h2 : ∀ b, F.Z b → H' b = H b) (h3 : ∀ b, Zx b → H' b ≠ none) : Gd F Zx G s t H' := by
  have ex : Ext (ZF F Zx G t) H (ZF F Zx G t) H' := ⟨fun b o z h => h1 b o (fun q => z (.inl q)) (fun q => z (.inr (.inl q))) h, fun b z => .inl z⟩
  refine ⟨g.len, F.loc _ _ _ h2 g.at_, h3, fun i l o e1 e2 => ?_, g.inj, g.sep⟩
  have q := g.slot i l o e1 e2
  cases l with
  | un => trivial
  | raw v => exact q
  | dat d =>
    obtain ⟨v, e, r⟩ := q
    exact ⟨v, e, r.ext ex⟩
  | ext fu hst =>
    obtain ⟨v, e, r⟩ := q
    exact ⟨v, e, hst _ _ _ _ _ ex r⟩
  | own d =>
    obtain ⟨p, e, r⟩ := q
    subst e
    have hp := g.sep p ⟨i, d, e1, e2⟩
    exact ⟨p, rfl, OwnC.ext ex (fun o ho => h1 p o hp.1 hp.2 ho) r⟩
/-- one object more that is not to be met -/
theorem Gd.more {Zx : Addr → Prop} {s : S} {t : St} {H : Hp} {D : Addr} {o : HO} (g : Gd F Zx G s t H) (hD : H D = none) : Gd F (fun b => Zx b ∨ b = D) G s t (upd H D o) := by
  have sm : Same H (upd H D o) := same_new hD
  have g' := g.same sm
  have ex : Ext (ZF F Zx G t) H (ZF F (fun b => Zx b ∨ b = D) G t) (upd H D o) := ⟨fun b o _ h => sm b o h, fun b z => by
    rcases z with z | (z | z) | z
    · exact .inl (.inl z)
    · exact .inl (.inr (.inl z))
    · exact .inr (by rw [z]; exact hD)
    · exact .inl (.inr (.inr z))⟩
  refine ⟨g.len, g'.at_, fun b z => ?_, fun i l o e1 e2 => ?_, g.inj, fun p z => ⟨(g.sep p z).1, fun q => ?_⟩⟩
  · rcases z with z | z
    · exact g'.trk b z
    · rw [z, upd_same]
      intro q
      cases q
  · have q := g.slot i l o e1 e2
    cases l with
    | un => trivial
    | raw v => exact q
    | dat d =>
      obtain ⟨v, e, r⟩ := q
      exact ⟨v, e, r.ext ex⟩
    | ext fu hst =>
      obtain ⟨v, e, r⟩ := q
      exact ⟨v, e, hst _ _ _ _ _ ex r⟩
    | own d =>
      obtain ⟨p, e, r⟩ := q
      subst e
      exact ⟨p, rfl, OwnC.ext ex (fun o ho => sm p o ho) r⟩
  · rcases q with q | q
    · exact (g.sep p z).2 q
    · rw [q] at z
      exact g.new hD (.inr (.inr z))
theorem Gd.less {Zx Zy : Addr → Prop} {s : S} {t : St} {H : Hp} (g : Gd F Zx G s t H) (h : ∀ b, Zy b → Zx b) : Gd F Zy G s t H := by
  have ex : Ext (ZF F Zx G t) H (ZF F Zy G t) H := Ext.less fun b z => z.imp id (Or.imp (h b) id)
  refine ⟨g.len, g.at_, fun b z => g.trk b (h b z), fun i l o e1 e2 => ?_, g.inj, fun p z => ⟨(g.sep p z).1, fun q => (g.sep p z).2 (h p q)⟩⟩
  have q := g.slot i l o e1 e2
  cases l with
  | un => trivial
  | raw v => exact q
  | dat d =>
    obtain ⟨v, e, r⟩ := q
    exact ⟨v, e, r.ext ex⟩
  | ext fu hst =>
    obtain ⟨v, e, r⟩ := q
    exact ⟨v, e, hst _ _ _ _ _ ex r⟩
  | own d =>
    obtain ⟨p, e, r⟩ := q
    subst e
    exact ⟨p, rfl, OwnC.ext ex (fun o ho => ho) r⟩
/-- a comprehension's blocks -/
abbrev blkX (Xs : I → Cx) (scope : Scope) : (I × Shared × Hp × Addr × List (Str × Addr) × List Addr) → Cx :=
  fun j => (Xs j.1).blk j.2.1 j.2.2.1 scope (compEnvC scope j.2.2.2.2.1 j.2.2.2.1 (Xs j.1).env) j.2.2.2.2.2
theorem ok_lc {elt : Expr} {ifs : List Expr} {scope : Scope} {own : List (Str × Nat)} {ml : M S (List A)} {pm : A → M S Bool} {fm : A → M S B} {Gb : A → List Sl} {ks : List Nat} (hi : IV Xs F G tg iter ml)
    (hno : noOwn G (own.map (·.2)) = true) (hks : ∀ k ∈ ks, k ∈ own.map (·.2))
    (hg : ∀ x, BD (blkX Xs scope) F (wipeG G (own.map (·.2))) tg (enc x) (Gb x) ks) (ht : ∀ x, EI (blkX Xs scope) F (Gb x) ifs (pm x)) (he : ∀ x, EV (blkX Xs scope) F (Gb x) elt (fm x))
:
    ∃ wi, (∀ i, PI (Xs i) tg iter wi) ∧ TEok F G (tLc wi (tgU (blkX Xs scope) tg) (tiU (blkX Xs scope) ifs) (teU (blkX Xs scope) elt) (own.map (·.2))) (bindM ml fun l => guardM (lenOk l.length) (lcM pm fm l)) := by
  obtain ⟨wi, hpi, hw⟩ := hi
  have hg' := fun x => (hg x).uni
  have ht' := fun x => (ht x).uni
  have he' := fun x => (he x).uni
  refine ⟨wi, hpi, fun Zx t H s y s' g hm Q q => ?_⟩
  obtain ⟨l, s1, h1, h2⟩ := bind_some hm
  obtain ⟨hlen, h3⟩ := guard_eq h2
  refine hw Zx t H s l s1 g h1 _ fun J H1 g1 f1 itok D hD => ?_
  have nZD : ¬ ZF F Zx G t D := g1.new hD
  have nFD : ¬ F.Z D := fun z => nZD (.inl z)
  have gm := g1.more (o := .lst []) hD
  have smD : Same H1 (upd H1 D (.lst [])) := same_new hD
  -- the invariant
  refine ⟨fun i m H2 => ∃ acc ys s2 rest, m + i = l.length ∧ H2 D = some (.lst acc) ∧ acc.length ≤ i ∧ RpL (ZF F (fun b => Zx b ∨ b = D) G t) H2 acc (ys.map enc) ∧
    Gd F (fun b => Zx b ∨ b = D) G s2 t H2 ∧ lcM pm fm (l.drop i) s2 = some (rest, s') ∧ ys ++ rest = y ∧ (∀ b o, ¬ F.Z b → b ≠ D → H1 b = some o → H2 b = some o),
    ⟨l.length, [], [], s1, y, rfl, upd_same, Nat.zero_le _, .nil, gm, h3, rfl, fun b o _ n h => smD b o h⟩, ?_⟩
  rintro i m H2 ⟨acc, ys, s2, rest, hmi, hacc, hal, hrl, g2, hrun, hys, hkeep⟩
  have ex2 : Ext (ZF F Zx G t) H1 (ZF F (fun b => Zx b ∨ b = D) G t) H2 := ⟨fun b o z h => hkeep b o (fun k => z (.inl k)) (fun k => by rw [k, hD] at h; cases h) h, fun b z => by
    rcases z with z | (z | z) | z
    · exact .inl (.inl z)
    · exact .inl (.inr (.inl z))
    · exact .inr (by rw [z]; exact hD)
    · exact .inl (.inr (.inr z))⟩
  obtain ⟨it1, it2⟩ := itok _ H2 ex2 g2.all
  by_cases hil : i < l.length
  · have hx : l[i]? = some l[i] := List.getElem?_eq_getElem hil
    obtain ⟨go, yl⟩ := it1 i _ hx
    refine .inr ⟨go, fun H' => ∃ acc ys s2 rest, H' D = some (.lst acc) ∧ acc.length ≤ i + 1 ∧ RpL (ZF F (fun b => Zx b ∨ b = D) G t) H' acc (ys.map enc) ∧
      Gd F (fun b => Zx b ∨ b = D) G s2 t H' ∧ lcM pm fm (l.drop (i + 1)) s2 = some (rest, s') ∧ ys ++ rest = y ∧ (∀ b o, ¬ F.Z b → b ≠ D → H1 b = some o → H' b = some o), fun H' ⟨a1, a2, a3, a4, q1, q2, q3, q4, q5, q6, q7⟩ => ?_, fun v H3 hy => ?_⟩
    · exact ⟨m - 1, by omega, a1, a2, a3, a4, by omega, q1, q2, q3, q4, q5, q6, q7⟩
    · obtain ⟨sm3, rv⟩ := yl v H3 hy
      have g3 := g2.same sm3
      have gw := g3.wipe hno
      rw [List.drop_eq_getElem_cons hil] at hrun
      obtain ⟨c, s3, r1, r2⟩ := bind_some hrun
      refine hg' (l[i]) _ _ H3 s2 v gw (by rw [zf_wipe hno]; exact rv) _ fun t2 b2 => ⟨?_, ?_⟩
      · have len2 : t2.length = (L2.wipe t (own.map (·.2))).length := b2.len
        have := wipe_eq (t := L2.wipe t (own.map (·.2))) (t' := t2) (vs := own.map (·.2)) (fun j hj => b2.else_ j fun z => hj (hks j z)) len2
        rw [this]
        exact wipe_eq (fun j hj => wipe_keep hj) (wipe_length _ _)
      · have ow2 : ∀ b, Own (Gb (l[i])) t2 b ↔ Own G t b := fun b => (b2.own b).trans (own_wipe hno b)
        have zf2 : ZF F (fun b => Zx b ∨ b = D) (Gb (l[i])) t2 = ZF F (fun b => Zx b ∨ b = D) G t := funext fun b => propext ⟨fun z => z.imp id (Or.imp id (ow2 b).mp), fun z => z.imp id (Or.imp id (ow2 b).mpr)⟩
        have hacc3 := sm3 _ _ hacc
        refine ht' (l[i]) _ t2 H3 s2 c s3 b2.gd r1 _ fun H4 g4 f4 => ?_
        have hacc4 := f4 D _ nFD hacc3
        cases c with
        | false =>
          refine iteF ⟨acc, ys, s3, rest, hacc4, Nat.le_succ_of_le hal, (hrl.ext ⟨fun b o _ h => sm3 b o h, fun b z => .inl z⟩).fix f4, g3.fix f4 g4.at_, r2, hys, fun b o n1 n2 h => f4 b o n1 (sm3 b o (hkeep b o n1 n2 h))⟩
        | true =>
          obtain ⟨yv, s4, r3, r4⟩ := bind_some r2
          obtain ⟨rs, s5, r5, r6⟩ := bind_some r4
          obtain ⟨rfl, rfl⟩ := pure_eq r6
          refine iteT (he' (l[i]) _ t2 H4 s3 yv s4 g4 r3 _ fun v5 H5 g5 f5 r5' => ?_)
          have hacc5 := f5 D _ nFD hacc4
          rw [zf2] at r5'
          have g35 : Gd F (fun b => Zx b ∨ b = D) G s4 t H5 := g3.fix (f4.trans f5) g5.at_
          have exU : Ext (ZF F (fun b => Zx b ∨ b = D) G t) H5 (ZF F (fun b => Zx b ∨ b = D) G t) (upd H5 D (.lst (acc ++ [v5]))) := ⟨fun b o z h => by
            rw [upd_ne (fun k => z (.inr (.inl (.inr k))))]
            exact h, fun b z => .inl z⟩
          refine ⟨acc, hacc5, ?_, acc ++ [v5], ys ++ [yv], s4, rs, upd_same, ?_, ?_, ?_, r5, by rw [← hys]; simp, fun b o n1 n2 h => ?_⟩
          · have := lenOk_line hlen
            omega
          · rw [List.length_append]
            exact Nat.add_le_add_right hal 1
          · rw [List.map_append]
            exact ((((hrl.ext ⟨fun b o _ h => sm3 b o h, fun b z => .inl z⟩).fix f4).fix f5).append (.cons r5' .nil)).ext exU
          · exact g35.keep (fun b o n1 n2 h => by rw [upd_ne (fun k => n2 (.inr k))]; exact h) (fun b z => upd_ne (fun k => nFD (by rw [← k]; exact z))) (fun b z => by
              by_cases k : b = D
              · rw [k, upd_same]
                intro q
                cases q
              · rw [upd_ne k]
                exact g35.trk b z)
          · rw [upd_ne n2]
            exact f5 b o n1 (f4 b o n1 (sm3 b o (hkeep b o n1 n2 h)))
  · refine .inl ⟨it2 i (by omega), ?_⟩
    rw [List.drop_of_length_le (by omega)] at hrun
    obtain ⟨rfl, rfl⟩ := pure_eq hrun
    rw [List.append_nil] at hys
    subst hys
    refine q (.ref D) H2 (g2.less fun b z => .inl z) (fun b o n h => ?_) ?_
    · have h' := f1 b o n h
      exact hkeep b o n (fun k => by rw [k, hD] at h'; cases h') h'
    · exact .lst nZD hacc (hrl.ext (Ext.less fun b z => z.imp id (Or.imp .inl id)))
theorem ev_lc {elt : Expr} {ifs : List Expr} {scope : Scope} {own : List (Str × Nat)} {ml : M S (List A)} {pm : A → M S Bool} {fm : A → M S B} {Gb : A → List Sl} {ks : List Nat} (hi : IV Xs F G tg iter ml)
    (ok : ∀ i, BlkOk (Xs i).N (Xs i).env.scope scope own) (hN : ∀ i, (Xs i).N.Nodup) (hno : noOwn G (own.map (·.2)) = true) (hks : ∀ k ∈ ks, k ∈ own.map (·.2))
    (hg : ∀ x, BD (blkX Xs scope) F (wipeG G (own.map (·.2))) tg (enc x) (Gb x) ks) (ht : ∀ x, EI (blkX Xs scope) F (Gb x) ifs (pm x)) (he : ∀ x, EV (blkX Xs scope) F (Gb x) elt (fm x))
    (hc : ∀ i, (Xs i).calm = true := by intro _; rfl) (hs : ∀ i x, foldedSetIterable iter (Xs i).env x = pure x := by intro _ _; rfl) :
    EV Xs F G (.ListComp elt [⟨tg, iter, ifs, 0⟩] scope pos) (bindM ml fun l => guardM (lenOk l.length) (lcM pm fm l)) := by
  obtain ⟨wi, hpi, hw⟩ := ok_lc hi hno hks hg ht he
  exact ⟨_, fun i => pe_lc (hc i) (hN i) (hpi i) (ok i) (fun s H C cl fp => tgU_pg (Xs := blkX Xs scope) (i, s, H, C, cl, fp))
    (fun s H C cl fp => tiU_pt (Xs := blkX Xs scope) (i, s, H, C, cl, fp)) (fun s H C cl fp => teU_pe (Xs := blkX Xs scope) (i, s, H, C, cl, fp)) (hs i), hw⟩
end
end PL

namespace PL
open PySem L2 Enc

/-- how a block ends: it goes on, it returns, it leaves the loop, it goes to the loop's next turn -/
inductive Fl (N L R : Type) where
  | nx (b : N)
  | rt (r : R)
  | bk (l : L)
  | ct (l : L)
/-- objects of a frame's own may have changed, new ones may have come -/
def Stp {S : Type} (F : Fm S) (G : List Sl) (t : St) (H : Hp) (G' : List Sl) (t' : St) (H' : Hp) : Prop :=
  (∀ b o, ¬ F.Z b → ¬ Own G t b → H b = some o → H' b = some o) ∧ ∀ b, Own G' t' b → Own G t b ∨ H b = none
section
variable {I S A B C N L R N1 : Type} [Enc A] [Enc B] [Enc C] [Enc R]
def PostOk (F : Fm S) (Zx : Addr → Prop) (G : List Sl) (t : St) (H : Hp) (Gn : N → List Sl) (Gl : L → List Sl) (D : Ends) (s' : S) : Fl N L R → Prop
  | .nx b => ∀ t' H', Gd F Zx (Gn b) s' t' H' → Stp F G t H (Gn b) t' H' → D.nx t' H'
  | .bk b => ∀ t' H', Gd F Zx (Gl b) s' t' H' → Stp F G t H (Gl b) t' H' → D.bk t' H'
  | .ct b => ∀ t' H', Gd F Zx (Gl b) s' t' H' → Stp F G t H (Gl b) t' H' → D.ct t' H'
  | .rt r => ∀ v H', F.at_ s' H' → (∀ b o, ¬ F.Z b → ¬ Own G t b → H b = some o → H' b = some o) → Rp (fun b => F.Z b ∨ Zx b) H' v (enc r) → D.rt v H'
def TSok (F : Fm S) (G : List Sl) (ts : TS) (m : M S (Fl N L R)) (Gn : N → List Sl) (Gl : L → List Sl) : Prop :=
  ∀ Zx t H s r s', Gd F Zx G s t H → m s = some (r, s') → ∀ D : Ends, PostOk F Zx G t H Gn Gl D s' r → ts D t H
def SV (Xs : I → Cx) (F : Fm S) (G : List Sl) (sts : List Stmt) (m : M S (Fl N L R)) (Gn : N → List Sl) (Gl : L → List Sl) : Prop := ∃ ts, (∀ i, PSs (Xs i) sts ts) ∧ TSok F G ts m Gn Gl
def SS (Xs : I → Cx) (F : Fm S) (G : List Sl) (st : Stmt) (m : M S (Fl N L R)) (Gn : N → List Sl) (Gl : L → List Sl) : Prop := ∃ ts, (∀ i, PS (Xs i) st ts) ∧ TSok F G ts m Gn Gl
variable {Xs : I → Cx} {F : Fm S} {G G' G1 : List Sl} {pos p : Pos} {e a b c tg iter : Expr} {es : List Expr} {st : Stmt} {sts : List Stmt} {Gn : N → List Sl} {Gl : L → List Sl} {x : Str}
def seqM (m : M S (Fl N1 L R)) (k : N1 → M S (Fl N L R)) : M S (Fl N L R) := bindM m fun r => match r with
  | .nx b => k b
  | .rt r => pureM (.rt r)
  | .bk l => pureM (.bk l)
  | .ct l => pureM (.ct l)
@[simp] theorem seqM_nx (b : N1) (k : N1 → M S (Fl N L R)) : seqM (pureM (.nx b)) k = k b := rfl
@[simp] theorem seqM_rt (r : R) (k : N1 → M S (Fl N L R)) : seqM (pureM (.rt r)) k = pureM (.rt r) := rfl
@[simp] theorem seqM_bk (r : L) (k : N1 → M S (Fl N L R)) : seqM (pureM (.bk r)) k = pureM (.bk r) := rfl
@[simp] theorem seqM_ct (r : L) (k : N1 → M S (Fl N L R)) : seqM (pureM (.ct r)) k = pureM (.ct r) := rfl
@[simp] theorem seqM_fail (k : N1 → M S (Fl N L R)) : seqM (failM : M S (Fl N1 L R)) k = failM := rfl
theorem Stp.trans {t t1 t2 : St} {H H1 H2 : Hp} {Zx : Addr → Prop} {s : S} (a : Stp F G t H G1 t1 H1) (b : Stp F G1 t1 H1 G' t2 H2) (g : Gd F Zx G' s t2 H2) : Stp F G t H G' t2 H2 := by
  have nn : ∀ b o, ¬ F.Z b → ¬ Own G t b → H b = some o → ¬ Own G1 t1 b := fun x o z y h q => by
    rcases a.2 x q with q | q
    · exact y q
    · rw [h] at q
      cases q
  refine ⟨fun x o z y h => b.1 x o z (nn x o z y h) (a.1 x o z y h), fun x z => ?_⟩
  have nF := (g.sep x z).1
  rcases b.2 x z with z | z
  · exact a.2 x z
  · by_cases q : Own G t x
    · exact .inl q
    · cases e : H x with
      | none => exact .inr rfl
      | some o =>
        rw [a.1 x o nF q e] at z
        cases z
theorem Stp.fix {t : St} {H H' : Hp} (f : Fix F H H') : Stp F G t H G t H' := ⟨fun b o z _ h => f b o z h, fun _ z => .inl z⟩
theorem Stp.at1 {t t1 : St} {H H1 : Hp} (a : Stp F G t H G1 t1 H1) {b : Addr} {o : HO} (z : ¬ F.Z b) (y : ¬ Own G t b) (h : H b = some o) : ¬ Own G1 t1 b ∧ H1 b = some o :=
  ⟨(fun q => by
    rcases a.2 b q with q | q
    · exact y q
    · rw [h] at q
      exact absurd q (by simp)), a.1 b o z y h⟩
/-- what is wanted behind, from a later state -/
theorem PostOk.from {Zx : Addr → Prop} {t t1 : St} {H H1 : Hp} {D : Ends} {s' : S} {r : Fl N L R} (a : Stp F G t H G1 t1 H1) (h : PostOk F Zx G t H Gn Gl D s' r) : PostOk F Zx G1 t1 H1 Gn Gl D s' r := by
  cases r with
  | nx b => exact fun t' H' g s => h t' H' g (a.trans s g)
  | bk b => exact fun t' H' g s => h t' H' g (a.trans s g)
  | ct b => exact fun t' H' g s => h t' H' g (a.trans s g)
  | rt r => exact fun v H' ha k rv => h v H' ha (fun b o z y e => k b o z (a.at1 z y e).1 (a.at1 z y e).2) rv
theorem SV.eq {m m' : M S (Fl N L R)} (h : SV Xs F G sts m Gn Gl) (q : m = m') : SV Xs F G sts m' Gn Gl := q ▸ h
/-- less is said -/
inductive SubG : List Sl → List Sl → Prop
  | nil : SubG [] []
  | same {x l l'} : SubG l l' → SubG (x :: l) (x :: l')
  | un {x l l'} : SubG l l' → SubG (x :: l) (.un :: l')
  | frz {d l l'} : SubG l l' → SubG (.own d :: l) (.dat d :: l')
theorem SubG.len : ∀ {l l' : List Sl}, SubG l l' → l.length = l'.length
  | _, _, .nil => rfl
  | _, _, .same h => congrArg (· + 1) h.len
  | _, _, .un h => congrArg (· + 1) h.len
  | _, _, .frz h => congrArg (· + 1) h.len
theorem SubG.get : ∀ {l l' : List Sl} {i : Nat} {x : Sl}, SubG l l' → l'[i]? = some x → x = .un ∨ l[i]? = some x ∨ ∃ d, x = .dat d ∧ l[i]? = some (.own d)
  | _, _, 0, _, .same h, e => .inr (.inl e)
  | _, _, 0, _, .un h, e => by
    cases e
    exact .inl rfl
  | _, _, 0, _, .frz h, e => by
    cases e
    exact .inr (.inr ⟨_, rfl, rfl⟩)
  | _, _, i + 1, _, .same h, e => SubG.get (i := i) h e
  | _, _, i + 1, _, .un h, e => SubG.get (i := i) h e
  | _, _, i + 1, _, .frz h, e => SubG.get (i := i) h e
theorem SubG.refl : ∀ (l : List Sl), SubG l l
  | [] => .nil
  | _ :: l => .same (SubG.refl l)
theorem SubG.own {l l' : List Sl} {t : St} {b : Addr} (h : SubG l l') (o : Own l' t b) : Own l t b := by
  obtain ⟨i, d, h1, h2⟩ := o
  rcases h.get h1 with z | z | ⟨d', z, _⟩
  · cases z
  · exact ⟨i, d, z, h2⟩
  · cases z
theorem OwnC.dat {Z : Addr → Prop} {H : Hp} {p : Addr} (n : ¬ Z p) : ∀ {d : PyData}, OwnC Z H p d → Rp Z H (.ref p) d
  | .list _, ⟨_, h, r⟩ => .lst n h r
  | .dict _, ⟨_, h, r⟩ => .dic n (.inl h) r
theorem Gd.sub {Zx : Addr → Prop} {s : S} {t : St} {H : Hp} (g : Gd F Zx G s t H) (h : SubG G G') : Gd F Zx G' s t H := by
  have ex : Ext (ZF F Zx G t) H (ZF F Zx G' t) H := Ext.less fun b z => z.imp id (Or.imp id h.own)
  refine ⟨by rw [g.len, h.len], g.at_, g.trk, fun i l o h1 h2 => ?_, fun i j d e p h1 h2 h3 h4 => ?_, fun p z => g.sep p (h.own z)⟩
  · rcases h.get h1 with z | z | ⟨d, z, y⟩
    · subst z
      trivial
    · have q := g.slot i l o z h2
      cases l with
      | un => trivial
      | raw v => exact q
      | dat d =>
        obtain ⟨v, e, r⟩ := q
        exact ⟨v, e, r.ext ex⟩
      | ext fu hst =>
        obtain ⟨v, e, r⟩ := q
        exact ⟨v, e, hst _ _ _ _ _ ex r⟩
      | own d =>
        obtain ⟨p, e, r⟩ := q
        subst e
        exact ⟨p, rfl, OwnC.ext ex (fun o ho => ho) r⟩
    · subst z
      obtain ⟨p, e, r⟩ := g.slot i _ o y h2
      subst e
      have r2 := OwnC.ext ex (fun o ho => ho) r
      refine ⟨.ref p, rfl, r2.dat fun z => ?_⟩
      rcases z with z | z | ⟨j, d', z1, z2⟩
      · exact (g.sep p ⟨i, d, y, h2⟩).1 z
      · exact (g.sep p ⟨i, d, y, h2⟩).2 z
      · rcases h.get z1 with w | w | ⟨d2, w, _⟩
        · cases w
        · have := g.inj i j d d' p y w h2 z2
          subst this
          rw [h1] at z1
          cases z1
        · cases w
  · have up : ∀ {i : Nat} {d : PyData}, G'[i]? = some (.own d) → G[i]? = some (.own d) := fun {i d} q => by
      rcases h.get q with w | w | ⟨d2, w, _⟩
      · cases w
      · exact w
      · cases w
    exact g.inj i j d e p (up h1) (up h2) h3 h4
theorem sv_nil {y : N} (h : SubG G (Gn y)) : SV (R := R) Xs F G [] (pureM (.nx y)) Gn Gl := by
  refine ⟨tNext, fun _ => pss_nil, fun Zx t H s r s' g hm D q => ?_⟩
  obtain ⟨rfl, rfl⟩ := pure_eq hm
  exact q t H (g.sub h) ⟨fun b o _ _ h => h, fun b z => .inl (h.own z)⟩
theorem sv_sub {m : M S (Fl N L R)} (h : SubG G G') (k : SV Xs F G' sts m Gn Gl) : SV Xs F G sts m Gn Gl := by
  obtain ⟨ts, hp, ho⟩ := k
  exact ⟨ts, hp, fun Zx t H s r s' g hm D q => ho Zx t H s r s' (g.sub h) hm D (q.from ⟨fun b o _ _ h => h, fun b z => .inl (h.own z)⟩)⟩
def tsU (Xs : I → Cx) (sts : List Stmt) : TS := fun D t H => ∃ ts : TS, (∀ i, PSs (Xs i) sts ts) ∧ ts D t H
theorem tsU_ps (i : I) : PSs (Xs i) sts (tsU Xs sts) := ⟨fun pins s t H D J ⟨te, hp, h⟩ => (hp i).run pins s t H D J h⟩
theorem SV.uni {m : M S (Fl N L R)} (h : SV Xs F G sts m Gn Gl) : TSok F G (tsU Xs sts) m Gn Gl := by
  obtain ⟨ts, hp, ho⟩ := h
  exact fun Zx t H s r s' g hm D q => ⟨ts, hp, ho Zx t H s r s' g hm D q⟩
theorem sv_cons {G1 : N1 → List Sl} {m : M S (Fl N1 L R)} {k : N1 → M S (Fl N L R)} (h : SS Xs F G st m G1 Gl) (hk : ∀ y, SV Xs F (G1 y) sts (k y) Gn Gl) : SV Xs F G (st :: sts) (seqM m k) Gn Gl := by
  obtain ⟨ts, hp, ho⟩ := h
  have hk' := fun y => (hk y).uni
  refine ⟨tSeq ts (tsU Xs sts), fun i => pss_cons (hp i) (tsU_ps i), fun Zx t H s r s' g hm D q => ?_⟩
  obtain ⟨r1, s1, h1, h2⟩ := bind_some hm
  refine ho Zx t H s r1 s1 g h1 _ ?_
  cases r1 with
  | nx y => exact fun t' H' g' st' => hk' y Zx t' H' s1 r s' g' h2 D (q.from st')
  | rt v =>
    obtain ⟨rfl, rfl⟩ := pure_eq h2
    exact q
  | bk v =>
    obtain ⟨rfl, rfl⟩ := pure_eq h2
    exact q
  | ct v =>
    obtain ⟨rfl, rfl⟩ := pure_eq h2
    exact q
theorem sv_one {m : M S (Fl N L R)} (h : SS Xs F G st m Gn Gl) : SV Xs F G [st] m Gn Gl := let ⟨t, hp, ho⟩ := h; ⟨t, fun i => pss_one (hp i), ho⟩
theorem ss_ret {m : M S R} (h : EV Xs F G e m) : SS (N := N) (L := L) Xs F G (.Return (some e) pos) (bindM m fun r => pureM (.rt r)) Gn Gl := by
  obtain ⟨te, hp, ho⟩ := h
  refine ⟨tRet te, fun i => ps_ret (hp i), fun Zx t H s r s' g hm D q => ?_⟩
  obtain ⟨y, s1, h1, h2⟩ := bind_some hm
  obtain ⟨rfl, rfl⟩ := pure_eq h2
  refine ho Zx t H s y s1 g h1 _ fun v H1 g1 f1 r1 => ?_
  exact q v H1 g1.at_ (fun b o z _ h => f1 b o z h) (r1.ext (Ext.less fun b z => z.elim .inl fun z => .inr (.inl z)))
theorem ss_pass : SS (R := R) (L := L) Xs F G (.Pass pos) (pureM (.nx ())) (fun _ => G) Gl := by
  refine ⟨tNext, fun _ => ps_pass, fun Zx t H s r s' g hm D q => ?_⟩
  obtain ⟨rfl, rfl⟩ := pure_eq hm
  exact q t H g (Stp.fix (Fix.refl H))
theorem ss_break {l : L} (h : SubG G (Gl l)) : SS (N := N) (R := R) Xs F G (.Break pos) (pureM (.bk l)) Gn Gl := by
  refine ⟨tBreak, fun _ => ps_break, fun Zx t H s r s' g hm D q => ?_⟩
  obtain ⟨rfl, rfl⟩ := pure_eq hm
  exact q t H (g.sub h) ⟨fun b o _ _ h => h, fun b z => .inl (h.own z)⟩
theorem ss_continue {l : L} (h : SubG G (Gl l)) : SS (N := N) (R := R) Xs F G (.Continue pos) (pureM (.ct l)) Gn Gl := by
  refine ⟨tCont, fun _ => ps_continue, fun Zx t H s r s' g hm D q => ?_⟩
  obtain ⟨rfl, rfl⟩ := pure_eq hm
  exact q t H (g.sub h) ⟨fun b o _ _ h => h, fun b z => .inl (h.own z)⟩
/-- target = e: what is bound is told by G1 -/
theorem ss_asg {m : M S A} {G1 : A → List Sl} {ks : List Nat} (h : EV Xs F G e m) (hb : ∀ y, BD Xs F G tg (enc y) (G1 y) ks) (hs : ∀ i, swapsWithSole [tg] e pos.line (Xs i).env = pure false := by intro _; rfl)
    (hw : ∀ i, swappedStores [tg] e (Xs i).env = pure none := by intro _; rfl) (h1 : ∀ i, (assignEach [tg] (Xs i).env).map (·.2) = [assign tg (Xs i).env] := by intro _; rfl) :
    SS (R := R) (L := L) Xs F G (.Assign [tg] e pos) (bindM m fun y => pureM (.nx y)) G1 Gl := by
  obtain ⟨te, hp, ho⟩ := h
  have hb' := fun y => (hb y).uni
  refine ⟨tAsg te (tgU Xs tg), fun i => ps_asg (hp i) (tgU_pg i) (hs i) (hw i) (h1 i), fun Zx t H s r s' g hm D q => ?_⟩
  obtain ⟨y, s1, e1, e2⟩ := bind_some hm
  obtain ⟨rfl, rfl⟩ := pure_eq e2
  refine ho Zx t H s y s1 g e1 _ fun v H1 g1 f1 r1 => ?_
  refine hb' y Zx t H1 s1 v g1 (.of r1) _ fun t' b => ?_
  exact q t' H1 b.gd ⟨fun x o z _ h => f1 x o z h, fun x z => .inl ((b.own x).mp z)⟩
theorem ss_set {m : M S A} {k : Nat} {pos' : Pos} (h : EV Xs F G e m) (hN : ∀ i, (Xs i).N.Nodup) (hno : noOwn G [k] = true := by rfl) (hi : ∀ i, (Xs i).N[k]? = some x := by intro _; rfl)
    (hx : ∀ i, Loc (Xs i).env.scope x := by first | exact fun _ => Or.inl rfl | exact fun _ => Or.inr rfl) (hs : ∀ i, swapsWith e (some (.Name x pos')) pos.line (Xs i).env = pure false := by intro _; rfl)
    (hf : ∀ i, (Xs i).fn x = true ∨ (Xs i).env.scope.names.lookup x = some .local := by first | exact fun _ => .inl rfl | exact fun _ => .inr rfl) :
    SS (R := R) (L := L) Xs F G (.Assign [.Name x pos'] e pos) (bindM m fun y => pureM (.nx y)) (fun y : A => G.set k (.dat (enc y))) Gl := by
  obtain ⟨te, hp, ho⟩ := h
  refine ⟨tAsg te (gName k), fun i => ps_set (hN i) (hi i) (hx i) (hp i) (hs i) (hf i), fun Zx t H s r s' g hm D q => ?_⟩
  obtain ⟨y, s1, e1, e2⟩ := bind_some hm
  obtain ⟨rfl, rfl⟩ := pure_eq e2
  refine ho Zx t H s y s1 g e1 _ fun v H1 g1 f1 r1 => ?_
  exact q _ H1 (g1.set hno r1) ⟨fun x o z _ h => f1 x o z h, fun x z => .inl ((own_set hno x).mp z)⟩
/-- name = [..] -/
theorem ss_setLc {k : Nat} {pos' spos : Pos} {elt : Expr} {ifs : List Expr} {scope : Scope} {own : List (Str × Nat)} {ml : M S (List A)} {pm : A → M S Bool} {fm : A → M S B} {Gb : A → List Sl} {ks : List Nat} (hi : IV Xs F G tg iter ml)
    (ok : ∀ i, BlkOk (Xs i).N (Xs i).env.scope scope own) (hN : ∀ i, (Xs i).N.Nodup) (hno : noOwn G (own.map (·.2)) = true) (hks : ∀ k ∈ ks, k ∈ own.map (·.2))
    (hg : ∀ x, BD (blkX Xs scope) F (wipeG G (own.map (·.2))) tg (enc x) (Gb x) ks) (ht : ∀ x, EI (blkX Xs scope) F (Gb x) ifs (pm x)) (he : ∀ x, EV (blkX Xs scope) F (Gb x) elt (fm x))
    (hno2 : noOwn G [k] = true := by rfl) (hy : ∀ i, (Xs i).N[k]? = some x := by intro _; rfl) (hyl : ∀ i, (Xs i).env.scope.names.lookup x = some .local := by intro _; rfl)
    (hsw : ∀ i, swapsWith (.ListComp elt [⟨tg, iter, ifs, 0⟩] scope pos) (some (.Name x pos')) spos.line (Xs i).env = pure true := by intro _; exact sw_true rfl rfl rfl (by decide +kernel))
    (hc : ∀ i, (Xs i).calm = true := by intro _; rfl) (hs : ∀ i x, foldedSetIterable iter (Xs i).env x = pure x := by intro _ _; rfl) :
    SS (R := R) (L := L) Xs F G (.Assign [.Name x pos'] (.ListComp elt [⟨tg, iter, ifs, 0⟩] scope pos) spos) (bindM (bindM ml fun l => guardM (lenOk l.length) (lcM pm fm l)) fun y => pureM (.nx y)) (fun y : List B => G.set k (.dat (enc y))) Gl := by
  obtain ⟨wi, hpi, hw⟩ := ok_lc hi hno hks hg ht he
  refine ⟨tAsg _ (gName k), fun i => ps_setLc (hc i) (hN i) (hy i) (hyl i) (hsw i) (hpi i) (ok i) (fun s H C cl fp => tgU_pg (Xs := blkX Xs scope) (i, s, H, C, cl, fp))
    (fun s H C cl fp => tiU_pt (Xs := blkX Xs scope) (i, s, H, C, cl, fp)) (fun s H C cl fp => teU_pe (Xs := blkX Xs scope) (i, s, H, C, cl, fp)) (hs i), fun Zx t H s r s' g hm D q => ?_⟩
  obtain ⟨y, s1, e1, e2⟩ := bind_some hm
  obtain ⟨rfl, rfl⟩ := pure_eq e2
  refine hw Zx t H s y s1 g e1 _ fun v H1 g1 f1 r1 => ?_
  exact q _ H1 (g1.set hno2 r1) ⟨fun x o z _ h => f1 x o z h, fun x z => .inl ((own_set hno2 x).mp z)⟩
theorem ss_if {mc : M S Bool} {m n : M S (Fl N L R)} {sa sb : List Stmt} (h : ET Xs F G c mc) (h1 : SV Xs F G sa m Gn Gl) (h2 : SV Xs F G sb n Gn Gl) : SS Xs F G (.If c sa sb pos) (iteM mc m n) Gn Gl := by
  obtain ⟨tc, hp, ho⟩ := h
  obtain ⟨ta, hq, hw⟩ := h1
  obtain ⟨tb, hr, hz⟩ := h2
  refine ⟨tIfS tc ta tb, fun i => ps_if (hp i) (hq i) (hr i), fun Zx t H s r s' g hm D q => ?_⟩
  obtain ⟨y, s1, e1, e2⟩ := bind_some hm
  refine ho Zx t H s y s1 g e1 _ fun H1 g1 f1 => ?_
  cases y with
  | true => exact iteT (hw Zx t H1 s1 r s' g1 e2 D (q.from (Stp.fix f1)))
  | false => exact iteF (hz Zx t H1 s1 r s' g1 e2 D (q.from (Stp.fix f1)))
def loopM {A L R : Type} (f : L → A → M S (Fl L L R)) : List A → L → M S (Fl L Empty R)
  | [], l => pureM (.nx l)
  | x :: xs, l => bindM (f l x) fun r => match r with
    | .nx l' => loopM f xs l'
    | .ct l' => loopM f xs l'
    | .bk l' => pureM (.nx l')
    | .rt r => pureM (.rt r)
/-- what a loop leaves, in a block around -/
def liftM {L L' R : Type} (m : M S (Fl L Empty R)) : M S (Fl L L' R) := bindM m fun r => match r with
  | .nx l => pureM (.nx l)
  | .rt r => pureM (.rt r)
theorem Stp.ext {t t1 : St} {H H1 : Hp} {Zx : Addr → Prop} (a : Stp F G t H G1 t1 H1) : Ext (ZF F Zx G t) H (ZF F Zx G1 t1) H1 :=
  ⟨fun b o z h => a.1 b o (fun k => z (.inl k)) (fun k => z (.inr (.inr k))) h, fun b z => by
    rcases z with z | z | z
    · exact .inl (.inl z)
    · exact .inl (.inr (.inl z))
    · exact (a.2 b z).imp (fun q => .inr (.inr q)) id⟩
theorem ss_for {L1 : Type} {ml : M S (List A)} {Gs : L1 → List Sl} {Gx : L1 → A → List Sl} {ks : List Nat} {body : List Stmt} {f : L1 → A → M S (Fl L1 L1 R)} {y0 : L1} (hi : IV Xs F G tg iter ml) (hsub : SubG G (Gs y0))
    (hg : ∀ l x, BD Xs F (Gs l) tg (enc x) (Gx l x) ks) (hb : ∀ l x, SV Xs F (Gx l x) body (f l x) Gs Gs)
    (hp : ∀ i, PassesOwn (model (Xs i).prog (Xs i).w) (Xs i).A (Xs i).env (Xs i).xe) (hc : ∀ i, (Xs i).calm = true := by intro _; rfl) (hs : ∀ i x, foldedSetIterable iter (Xs i).env x = pure x := by intro _ _; rfl) :
    SS (N := L1) (L := L) Xs F G (.For tg iter body [] pos) (bindM ml fun l => liftM (loopM f l y0)) Gs Gl := by
  obtain ⟨wi, hpi, hw⟩ := hi
  have hg' := fun l x => (hg l x).uni
  have hb' := fun l x => (hb l x).uni
  refine ⟨tFor wi (tgU Xs tg) (tsU Xs body), fun i => ps_for (hp i) (hc i) (hpi i) (tgU_pg i) (tsU_ps i) (hs i), fun Zx t H s r s' g hm D q => ?_⟩
  obtain ⟨l, s1, h1, h2⟩ := bind_some hm
  obtain ⟨r0, s0, h3, h4⟩ := bind_some h2
  refine hw Zx t H s l s1 g h1 _ fun J H1 g1 f1 itok => ?_
  have g1' := g1.sub hsub
  have st1 : Stp F G t H (Gs y0) t H1 := ⟨fun b o z _ h => f1 b o z h, fun b z => .inl (hsub.own z)⟩
  have st0 : Stp F G t H1 (Gs y0) t H1 := ⟨fun b o z _ h => h, fun b z => .inl (hsub.own z)⟩
  refine ⟨fun i m t2 H2 => ∃ y s2, m + i = l.length ∧ Gd F Zx (Gs y) s2 t2 H2 ∧ Stp F G t H1 (Gs y) t2 H2 ∧ loopM f (l.drop i) y s2 = some (r0, s0), ⟨l.length, y0, s1, rfl, g1', st0, h3⟩, ?_⟩
  rintro i m t2 H2 ⟨y, s2, hmi, g2, st2, hrun⟩
  have stH : Stp F G t H (Gs y) t2 H2 := (Stp.fix (F := F) (G := G) (t := t) f1).trans st2 g2
  obtain ⟨it1, it2⟩ := itok (ZF F Zx (Gs y) t2) H2 st2.ext g2.all
  by_cases hil : i < l.length
  · have hx : l[i]? = some l[i] := List.getElem?_eq_getElem hil
    obtain ⟨go, yl⟩ := it1 i _ hx
    rw [List.drop_eq_getElem_cons hil] at hrun
    obtain ⟨rb, s3, h5, h6⟩ := bind_some hrun
    refine .inr ⟨go, fun t3 H3 => ∃ y' s4, Gd F Zx (Gs y') s4 t3 H3 ∧ Stp F G t H1 (Gs y') t3 H3 ∧ loopM f (l.drop (i + 1)) y' s4 = some (r0, s0), fun t3 H3 ⟨y', s4, q1, q2, q3⟩ => ⟨m - 1, by omega, y', s4, by omega, q1, q2, q3⟩, fun v H3 hy => ?_⟩
    obtain ⟨sm, rv⟩ := yl v H3 hy
    have g3 := g2.same sm
    refine hg' y (l[i]) Zx t2 H3 s2 v g3 rv _ fun t4 b4 => ?_
    have st4 : Stp F (Gs y) t2 H2 (Gx y (l[i])) t4 H3 := ⟨fun b o _ _ h => sm b o h, fun b z => .inl ((b4.own b).mp z)⟩
    have stb : ∀ {y' t5 H5}, Gd F Zx (Gs y') s3 t5 H5 → Stp F (Gx y (l[i])) t4 H3 (Gs y') t5 H5 → Stp F G t H1 (Gs y') t5 H5 := fun {y' t5 H5} g5 s5 => st2.trans (st4.trans s5 g5) g5
    refine hb' y (l[i]) Zx t4 H3 s2 rb s3 b4.gd h5 _ ?_
    cases rb with
    | nx y' => exact fun t5 H5 g5 s5 => ⟨y', s3, g5, stb g5 s5, h6⟩
    | ct y' => exact fun t5 H5 g5 s5 => ⟨y', s3, g5, stb g5 s5, h6⟩
    | bk y' =>
      obtain ⟨rfl, rfl⟩ := pure_eq h6
      obtain ⟨rfl, rfl⟩ := pure_eq h4
      exact fun t5 H5 g5 s5 => q t5 H5 g5 ((Stp.fix (F := F) (G := G) (t := t) f1).trans (stb g5 s5) g5)
    | rt v' =>
      obtain ⟨rfl, rfl⟩ := pure_eq h6
      obtain ⟨rfl, rfl⟩ := pure_eq h4
      refine fun v5 H5 a5 k5 r5 => q v5 H5 a5 (fun b o z y e => ?_) r5
      have e1 := stH.at1 z y e
      have e2 := st4.at1 z e1.1 e1.2
      exact k5 b o z e2.1 e2.2
  · refine .inl ⟨it2 i (by omega), ?_⟩
    rw [List.drop_of_length_le (by omega)] at hrun
    obtain ⟨rfl, rfl⟩ := pure_eq hrun
    obtain ⟨rfl, rfl⟩ := pure_eq h4
    exact q t2 H2 g2 stH
theorem Gd.setOwn {Zx : Addr → Prop} {s : S} {t : St} {H : Hp} {k : Nat} {d : PyData} {p : Addr} (g : Gd F (fun b => Zx b ∨ b = p) G s t H) (h : noOwn G [k] = true) (n : ¬ F.Z p) (n2 : ¬ Zx p) (r : OwnC (ZF F (fun b => Zx b ∨ b = p) G t) H p d)
    (hk : k < G.length) : Gd F Zx (G.set k (.own d)) s (t.set k (some (.ref p))) H ∧ ∀ b, Own (G.set k (.own d)) (t.set k (some (.ref p))) b ↔ (Own G t b ∨ b = p) := by
  have hkt : k < t.length := by
    rw [g.len]
    exact hk
  have gk : (G.set k (.own d))[k]? = some (.own d) := by rw [List.getElem?_set, if_pos rfl, if_pos hk]
  have tk : (t.set k (some (.ref p)))[k]? = some (some (.ref p)) := by rw [List.getElem?_set, if_pos rfl, if_pos hkt]
  have own : ∀ b, Own (G.set k (.own d)) (t.set k (some (.ref p))) b ↔ (Own G t b ∨ b = p) := fun b => by
    constructor
    · rintro ⟨i, d', h1, h2⟩
      by_cases hi : k = i
      · subst hi
        rw [tk] at h2
        cases h2
        exact .inr rfl
      · rw [List.getElem?_set_ne hi] at h1 h2
        exact .inl ⟨i, d', h1, h2⟩
    · rintro (⟨i, d', h1, h2⟩ | z)
      · have hi : k ≠ i := fun z => by
          subst z
          exact noOwn_at h List.mem_cons_self h1
        exact ⟨i, d', by rw [List.getElem?_set_ne hi]; exact h1, by rw [List.getElem?_set_ne hi]; exact h2⟩
      · subst z
        exact ⟨k, d, gk, tk⟩
  have ez : ZF F Zx (G.set k (.own d)) (t.set k (some (.ref p))) = ZF F (fun b => Zx b ∨ b = p) G t := funext fun b => propext ⟨fun z => by
    rcases z with z | z | z
    · exact .inl z
    · exact .inr (.inl (.inl z))
    · rcases (own b).mp z with z | z
      · exact .inr (.inr z)
      · exact .inr (.inl (.inr z)), fun z => by
    rcases z with z | (z | z) | z
    · exact .inl z
    · exact .inr (.inl z)
    · exact .inr (.inr ((own b).mpr (.inr z)))
    · exact .inr (.inr ((own b).mpr (.inl z)))⟩
  refine ⟨⟨by rw [List.length_set, List.length_set]; exact g.len, g.at_, fun b z => g.trk b (.inl z), fun i l o h1 h2 => ?_, fun i j d1 d2 q h1 h2 h3 h4 => ?_, fun q z => ?_⟩, own⟩
  · rw [ez]
    by_cases hi : k = i
    · subst hi
      rw [gk] at h1
      rw [tk] at h2
      cases h1
      cases h2
      exact ⟨p, rfl, r⟩
    · rw [List.getElem?_set_ne hi] at h1 h2
      exact g.slot i l o h1 h2
  · have sp : ∀ {i : Nat} {d' : PyData}, G[i]? = some (.own d') → t[i]? ≠ some (some (.ref p)) := fun {i d'} a b => (g.sep p ⟨i, d', a, b⟩).2 (.inr rfl)
    by_cases hi : k = i
    · by_cases hj : k = j
      · exact hi.symm.trans hj
      · subst hi
        rw [tk] at h3
        cases h3
        rw [List.getElem?_set_ne hj] at h2 h4
        exact absurd h4 (sp h2)
    · by_cases hj : k = j
      · subst hj
        rw [tk] at h4
        cases h4
        rw [List.getElem?_set_ne hi] at h1 h3
        exact absurd h3 (sp h1)
      · rw [List.getElem?_set_ne hi] at h1 h3
        rw [List.getElem?_set_ne hj] at h2 h4
        exact g.inj i j d1 d2 q h1 h2 h3 h4
  · rcases (own q).mp z with z | z
    · exact ⟨(g.sep q z).1, fun y => (g.sep q z).2 (.inl y)⟩
    · rw [z]
      exact ⟨n, n2⟩
/-- an expression whose value is a new object -/
def EO (Xs : I → Cx) (F : Fm S) (G : List Sl) (e : Expr) (m : M S A) : Prop := ∃ te, (∀ i, PE (Xs i) e te) ∧
  ∀ Zx t H s a s', Gd F Zx G s t H → m s = some (a, s') → ∀ Q : VK, (∀ p H', Gd F (fun b => Zx b ∨ b = p) G s' t H' → Fix F H H' → H p = none → OwnC (ZF F (fun b => Zx b ∨ b = p) G t) H' p (enc a) → Q (.ref p) H') → te t H Q
theorem eo_nil : EO Xs F G (.List [] pos) (pureM ([] : List A)) := by
  refine ⟨tLst tNil, fun _ => pe_lst pa_nil, fun Zx t H s y s' g hm Q q => ⟨Nat.zero_le _, fun pp hn => ?_⟩⟩
  obtain ⟨rfl, rfl⟩ := pure_eq hm
  exact q pp _ (g.more hn) (Fix.same (same_new hn)) hn ⟨[], upd_same, .nil⟩
theorem ss_setO {m : M S A} {k : Nat} {pos' : Pos} (h : EO Xs F G e m) (hN : ∀ i, (Xs i).N.Nodup) (hk : k < G.length := by exact Nat.le_of_ble_eq_true rfl) (hno : noOwn G [k] = true := by rfl) (hi : ∀ i, (Xs i).N[k]? = some x := by intro _; rfl)
    (hx : ∀ i, Loc (Xs i).env.scope x := by first | exact fun _ => Or.inl rfl | exact fun _ => Or.inr rfl) (hs : ∀ i, swapsWith e (some (.Name x pos')) pos.line (Xs i).env = pure false := by intro _; rfl)
    (hf : ∀ i, (Xs i).fn x = true ∨ (Xs i).env.scope.names.lookup x = some .local := by first | exact fun _ => .inl rfl | exact fun _ => .inr rfl) :
    SS (R := R) (L := L) Xs F G (.Assign [.Name x pos'] e pos) (bindM m fun y => pureM (.nx y)) (fun y : A => G.set k (.own (enc y))) Gl := by
  obtain ⟨te, hp, ho⟩ := h
  refine ⟨tAsg te (gName k), fun i => ps_set (hN i) (hi i) (hx i) (hp i) (hs i) (hf i), fun Zx t H s r s' g hm D q => ?_⟩
  obtain ⟨y, s1, e1, e2⟩ := bind_some hm
  obtain ⟨rfl, rfl⟩ := pure_eq e2
  refine ho Zx t H s y s1 g e1 _ fun pp H1 g1 f1 hn r1 => ?_
  have nF : ¬ F.Z pp := fun z => F.trk _ _ _ g.at_ z hn
  obtain ⟨g2, own⟩ := g1.setOwn hno nF (fun z => g.trk pp z hn) r1 hk
  refine q _ H1 g2 ⟨fun x o z _ h => f1 x o z h, fun x z => ?_⟩
  rcases (own x).mp z with z | z
  · exact .inl z
  · rw [z]
    exact .inr hn
/-- the own object of slot k is written -/
theorem Gd.putOwn {Zx : Addr → Prop} {s : S} {t : St} {H : Hp} {k : Nat} {d d' : PyData} {p : Addr} {o : HO} (g : Gd F Zx G s t H) (hk : G[k]? = some (.own d)) (ht : t[k]? = some (some (.ref p)))
    (r : OwnC (ZF F Zx G t) (upd H p o) p d') : Gd F Zx (G.set k (.own d')) s t (upd H p o) ∧ ∀ b, Own (G.set k (.own d')) t b ↔ Own G t b := by
  have hl : k < G.length := (List.getElem?_eq_some_iff.mp hk).1
  have gk : (G.set k (.own d'))[k]? = some (.own d') := by rw [List.getElem?_set, if_pos rfl, if_pos hl]
  have hp : Own G t p := ⟨k, d, hk, ht⟩
  have own : ∀ b, Own (G.set k (.own d')) t b ↔ Own G t b := fun b => by
    constructor
    · rintro ⟨i, e, h1, h2⟩
      by_cases hi : k = i
      · subst hi
        rw [ht] at h2
        cases h2
        exact hp
      · rw [List.getElem?_set_ne hi] at h1
        exact ⟨i, e, h1, h2⟩
    · rintro ⟨i, e, h1, h2⟩
      by_cases hi : k = i
      · subst hi
        exact ⟨k, d', gk, h2⟩
      · exact ⟨i, e, by rw [List.getElem?_set_ne hi]; exact h1, h2⟩
  have ez : ZF F Zx (G.set k (.own d')) t = ZF F Zx G t := funext fun b => propext ⟨fun z => z.imp id (Or.imp id (own b).mp), fun z => z.imp id (Or.imp id (own b).mpr)⟩
  have sp := g.sep p hp
  have ex : Ext (ZF F Zx G t) H (ZF F Zx G t) (upd H p o) := ⟨fun b u z h => by
    rw [upd_ne (fun k => z (by rw [k]; exact .inr (.inr hp)))]
    exact h, fun b z => .inl z⟩
  refine ⟨⟨by rw [List.length_set]; exact g.len, F.loc _ _ _ (fun b z => upd_ne (fun k => sp.1 (by rw [← k]; exact z))) g.at_, fun b z => ?_, fun i l u h1 h2 => ?_, fun i j d1 d2 q h1 h2 h3 h4 => ?_, fun q z => g.sep q ((own q).mp z)⟩, own⟩
  · rw [upd_ne (fun k => sp.2 (by rw [← k]; exact z))]
    exact g.trk b z
  · rw [ez]
    by_cases hi : k = i
    · subst hi
      rw [gk] at h1
      cases h1
      rw [ht] at h2
      cases h2
      exact ⟨p, rfl, r⟩
    · rw [List.getElem?_set_ne hi] at h1
      have w := g.slot i l u h1 h2
      cases l with
      | un => trivial
      | raw v => exact w
      | dat d =>
        obtain ⟨v, e, r⟩ := w
        exact ⟨v, e, r.ext ex⟩
      | ext fu hst =>
        obtain ⟨v, e, r⟩ := w
        exact ⟨v, e, hst _ _ _ _ _ ex r⟩
      | own d2 =>
        obtain ⟨p2, e, r2⟩ := w
        subst e
        have ne : p2 ≠ p := fun z => hi (by
          subst z
          exact g.inj k i _ _ _ hk h1 ht h2)
        exact ⟨p2, rfl, OwnC.ext ex (fun o ho => by rw [upd_ne ne]; exact ho) r2⟩
  · have up : ∀ {i : Nat} {e : PyData}, (G.set k (.own d'))[i]? = some (.own e) → ∃ e', G[i]? = some (.own e') := fun {i e} w => by
      by_cases hi : k = i
      · subst hi
        exact ⟨d, hk⟩
      · rw [List.getElem?_set_ne hi] at w
        exact ⟨e, w⟩
    obtain ⟨_, w1⟩ := up h1
    obtain ⟨_, w2⟩ := up h2
    exact g.inj i j _ _ q w1 w2 h3 h4
/-- x.append(e), x in slot k -/
theorem ss_append {l : List A} {m : M S A} {k : Nat} {apos cpos px : Pos} (hk : G[k]? = some (.own (enc l))) (h : EV Xs F G e m) (hN : ∀ i, (Xs i).N[k]? = some x := by intro _; rfl)
    (hv : ∀ i, Vis (Xs i).env.scope x := by first | exact fun _ => Or.inl rfl | exact fun _ => Or.inr (Or.inl rfl) | exact fun _ => Or.inr (Or.inr rfl)) (hd : (x == ("__debug__" : Str)) = false := by decide) (hcd : (x == ("__classdict__" : Str)) = false := by decide)
    (hbase : ∀ i, attributeBase (.Name x px) "append" (Xs i).env (eval (.Name x px) (Xs i).env) = eval (.Name x px) (Xs i).env := by intro _; rfl)
    (hfew : ∀ i, ((backTo cpos (starEach (e :: []) (Xs i).env)).all (fun x => !x.1) && (backToKw cpos (keywordEach [] (Xs i).env)).all (fun x => x.1.isSome)
      && decide ((e :: []).length + ([] : List Keyword).length + (if ([] : List Keyword).isEmpty then 0 else 1) < 30)) = true := by intro _; rfl)
    (hline : (apos.endLine == cpos.line) = true := by rfl) (hs : ∀ i, starEach (e :: []) (Xs i).env = (false, eval e (Xs i).env) :: starEach [] (Xs i).env := by intro _; rfl)
    (hpl : ∀ i, (backTo cpos (starEach [] (Xs i).env)).any (·.1) = false := by intro _; rfl) {K : PySem.W.Frag} (hK : ∀ i, (Xs i).K = K := by intro _; rfl)
    (hsw : ∀ i, swapsWith (.Call (.Attribute (.Name x px) "append" apos) [e] [] cpos) none pos.line (Xs i).env = pure false := by intro _; rfl) :
    SS (R := R) (L := L) Xs F G (.Expr (.Call (.Attribute (.Name x px) "append" apos) [e] [] cpos) pos) (bindM m fun y => guardM (lenOk (l.length + 1)) (pureM (.nx y))) (fun y : A => G.set k (.own (enc (l ++ [y])))) Gl := by
  obtain ⟨te, hp, ho⟩ := h
  refine ⟨tDrop (tBM K "list" rAppend (tVar k) (tCons te tNil)), fun i => ps_expr (by
    rw [← hK i]
    exact pe_bm PySem.F.plainAttrs_list PySem.F.slot_list_append PySem.F.type_list_append mt_append (pe_var (hN i) (hv i) hd hcd) (pa_cons (hp i) pa_nil (hs i)) (hbase i) (hfew i) hline (hs i) (hpl i)) (hsw i), fun Zx t H s r s' g hm D q => ?_⟩
  obtain ⟨y, s1, h1, h2⟩ := bind_some hm
  obtain ⟨hl, h3⟩ := guard_eq h2
  obtain ⟨rfl, rfl⟩ := pure_eq h3
  obtain ⟨hkl, _⟩ := List.getElem?_eq_some_iff.mp hk
  have hk' : k < t.length := by
    rw [g.len]
    exact hkl
  have ht : t[k]? = some (t[k]'hk') := List.getElem?_eq_getElem hk'
  obtain ⟨pp, ep, xs, hxs, _⟩ := g.slot k _ _ hk ht
  rw [ep] at ht
  refine ⟨.ref pp, ht, .inl ⟨rfl, xs, SqL.of hxs⟩, ?_⟩
  refine ho Zx t H s y s1 g h1 _ fun v H1 g1 f1 r1 => ?_
  obtain ⟨pp', ep', ys, hys, ry⟩ := g1.slot k _ _ hk ht
  cases ep'
  have hlen : ys.length = l.length := by rw [ry.len, List.length_map]
  refine ⟨pp, ys, v, rfl, rfl, hys, ?_, ?_⟩
  · rw [hlen]
    exact Nat.lt_of_lt_of_le (Nat.lt_succ_self _) (lenOk_line hl)
  · have hown : Own G t pp := ⟨k, _, hk, ht⟩
    have ex : Ext (ZF F Zx G t) H1 (ZF F Zx G t) (upd H1 pp (.lst (ys ++ [v]))) := ⟨fun b u z h => by
      rw [upd_ne (fun k => z (by rw [k]; exact .inr (.inr hown)))]
      exact h, fun b z => .inl z⟩
    obtain ⟨g2, own2⟩ := g1.putOwn (o := .lst (ys ++ [v])) (d' := enc (l ++ [y])) hk ht ⟨ys ++ [v], upd_same, by
      rw [List.map_append]
      exact (ry.append (.cons r1 .nil)).ext ex⟩
    refine q t _ g2 ⟨fun b o z w h => ?_, fun b z => .inl ((own2 b).mp z)⟩
    rw [upd_ne (fun k => w (by rw [k]; exact hown))]
    exact f1 b o z h
end
def startG (N : List Str) (ds : List PyData) : List Sl := ds.map .dat ++ List.replicate (N.length - ds.length) .un
section
variable {A U : Type} [Enc A] {P : Program} {w : World} {K : PySem.W.Frag} {mg : Str → Option Value} {base : Heap}
theorem Fun.okG {CX : CXT} {x qual : Str} {st : Stmt} {f : Addr} {fd : FuncData} {N ps : List Str} {k : Nat} {sp : Sp} (F : Fun K x qual st f fd) (S : FnScope N ps (defScope st)) (len : ∀ vs H Q E, sp vs H Q E → vs.length = ps.length)
    (hbody : ∀ (cdv : Value) (A : Around) (outer : List Env) (s : Shared) (H : Hp) (vs : List V) (Q : VK) (E : XK), Room k (A.deeper (PyProof.Rows.envOfC qual (defScope st) s.heap.objs.size f cdv)) → A.guards = some [] → sp vs H Q E →
      ∃ t, PSs (cxOf CX P w K mg base N qual (defScope st) f cdv A outer s H E) (defBody st) t ∧ t { nx := fun _ H' => Q .non H', rt := Q } (L2.start N vs) H) : FnG P w K mg base CX (k + 1) f fd ps sp := by
  obtain ⟨oc, od, kV, doc, pm, an, cdv, ct, osl, rfl, lk, hcd⟩ := F.ex
  refine ⟨len, fun A outer s H args us vs Q E hr hgd e0 hb r hsp => ?_⟩
  have hl := len _ _ _ _ hsp
  have KX : K.In s.heap := e0.mod.kin.keeps fun b o e => (e0.bs b o e).1
  have lim : s.heap.NoLimit := e0.mod.nolimit.keeps fun b o e => (e0.bs b o e).1
  have hkind : ∀ y ∈ ps.zip us, (defScope st).names.lookup y.1 = some .local ∨ ((defScope st).names.lookup y.1 = some .cell ∧ ((cellsFrom (s.heap.objs.size + 1) (defScope st).names []).lookup y.1).isSome = true) := fun ⟨n, v⟩ hy => by
    rcases S.par n (List.of_mem_zip hy).1 with q | q
    · exact .inl q
    · exact .inr ⟨q, PySem.W.cellsFrom_some _ _ _ (.inl q)⟩
  refine codeAny_call_function hr.depth (KX _ _ lk) rfl S.co S.gen rfl (PySem.W.codeRec_of KX hcd) (hb _ _ _ _ ?_)
  refine wpAny_newFunctionEnv_cells S.kind hkind fun env he s1 xx => ?_
  subst he
  refine ⟨lim.keeps xx.toInCall.keep, codeAny_func ?_⟩
  obtain ⟨t, ht, hq⟩ := hbody cdv A outer s H vs Q E (hr.deeper _) hgd hsp
  have J : Inv (cxOf CX P w K mg base N qual (defScope st) f cdv A outer s H E) [] (L2.start N vs) H s1 := inv_start S hr.hd e0 hl r xx
  refine wpAny_mono (ht.run [] s1 (L2.start N vs) H _ J hq) (fun fl s' hs => ?_) fun e s' hs => hs
  have fin : ∀ {t' : St} {H' : Hp} {v : V} {u : Value}, Inv (cxOf CX P w K mg base N qual (defScope st) f cdv A outer s H E) [] t' H' s' → RelV v u → Q v H' → CE outer P w H s Q u s' :=
    fun {t' H' v u} Jn rv q => ⟨v, H', Jn.os, Jn.bare, Jn.base, Jn.hok, rv, q⟩
  cases fl with
  | ret u =>
    obtain ⟨v, t', H', Jn, rv, q⟩ := hs
    exact fin Jn rv q
  | next =>
    obtain ⟨t', H', Jn, q⟩ := hs
    exact fin (v := V.non) (u := Value.none) Jn rfl q
  | brk =>
    obtain ⟨_, _, _, q⟩ := hs
    exact q.elim
  | cont =>
    obtain ⟨_, _, _, q⟩ := hs
    exact q.elim
/-- how a body ends a def: what it returns, or None -/
def retM {S R : Type} (none_ : Option R) (m : M S (Fl Unit Empty R)) : M S R := bindM m fun r => match r with
  | .rt r => pureM r
  | .nx _ => ofO none_
theorem startG_ok {Zx : Addr → Prop} {H : Hp} {N : List Str} {vs : List V} {ds : List PyData} (htr : ∀ b, Zx b → H b ≠ none) (r : RpL Zx H vs ds) : Gd fm0 Zx (startG N ds) () (L2.start N vs) H := by
  have hl := r.len
  have noo : ∀ {i : Nat} {d : PyData}, (startG N ds)[i]? ≠ some (.own d) := fun {i d} h => by
    unfold startG at h
    rw [List.getElem?_append] at h
    split at h
    · rw [List.getElem?_map] at h
      cases e : ds[i]? with
      | none =>
        rw [e] at h
        cases h
      | some y =>
        rw [e] at h
        cases h
    · have := List.eq_of_mem_replicate (List.mem_of_getElem? h)
      cases this
  have ez : ZF fm0 Zx (startG N ds) (L2.start N vs) = Zx := funext fun b => propext ⟨fun z => by
    rcases z with z | z | ⟨i, d, z, _⟩
    · exact z.elim
    · exact z
    · exact absurd z noo, fun z => .inr (.inl z)⟩
  refine ⟨?_, trivial, htr, fun i l o h1 h2 => ?_, fun i j d e p h1 => absurd h1 noo, fun p ⟨i, d, z, _⟩ => absurd z noo⟩
  · unfold startG L2.start
    rw [List.length_append, List.length_append, List.length_map, List.length_map, List.length_replicate, List.length_replicate, hl]
  · rw [ez]
    unfold startG at h1
    unfold L2.start at h2
    rw [List.getElem?_append] at h1 h2
    rw [List.length_map] at h1 h2
    rw [hl] at h2
    by_cases hi : i < ds.length
    · rw [if_pos hi, List.getElem?_map] at h1 h2
      cases e : ds[i]? with
      | none =>
        rw [e] at h1
        cases h1
      | some d =>
        rw [e] at h1
        cases h1
        obtain ⟨y, hy, ry⟩ := r.get e
        rw [hy] at h2
        cases h2
        exact ⟨y, rfl, ry⟩
    · rw [if_neg hi] at h1
      have := List.eq_of_mem_replicate (List.mem_of_getElem? h1)
      subst this
      trivial
/-- a def that is a function of its data -/
theorem defP {x : Str} {st : Stmt} {f : Addr} {fd : FuncData} {N ps : List Str} {k : Nat} {en : U → List PyData} {m : U → M Unit (Fl Unit Empty A)} {no : Option A} (F : Fun K x x st f fd) (S : FnScope N ps (defScope st)) (hg : mg x = some (.ref f)) (hb : Binds K fd ps [])
    (hen : ∀ u, (en u).length = ps.length) (hno : ∀ r, no = some r → enc r = PyData.none)
    (hbody : ∀ (cdv : Value) (A : Around) (outer : List Env) (s : Shared) (H : Hp) (E : XK), Room k (A.deeper (PyProof.Rows.envOfC x (defScope st) s.heap.objs.size f cdv)) → A.guards = some [] → ∀ u,
      ∃ Gn, SV (fun _ : Unit => (cxOf CX0 P w K mg base N x (defScope st) f cdv A outer s H E).nox) fm0 (startG N (en u)) (defBody st) (m u) Gn (fun z => z.elim)) :
    DefG P w K mg base CX0 (k + 1) x ps (spP en fun u => (retM no (m u) ()).map (·.1)) := by
  refine ⟨f, fd, Fun.okG F S (fun vs H Q E ⟨Z, u, r, _, hr, _⟩ => by rw [hr.len, hen]) (fun cdv A outer s H vs Q E hr hgd hsp => ?_), hg, F.kp, hb⟩
  obtain ⟨Z, u, r, htr, hrp, hf, q⟩ := hsp
  have g0 := startG_ok (N := N) htr hrp
  replace hf : (retM no (m u) ()).map (·.1) = some r := hf
  have hm : ∃ s1, retM no (m u) () = some (r, s1) := by
    cases e : retM no (m u) () with
    | none =>
      rw [e] at hf
      cases hf
    | some p =>
      rw [e] at hf
      cases hf
      exact ⟨p.2, rfl⟩
  obtain ⟨s1, hm⟩ := hm
  obtain ⟨fl, s2, h1, h2⟩ := bind_some hm
  have fin : ∀ {Gn : Unit → List Sl}, PostOk fm0 Z (startG N (en u)) (L2.start N vs) H Gn (fun z : Empty => z.elim) { nx := fun _ H' => Q .non H', rt := Q } s2 fl := by
    intro Gn
    have nOwn : ∀ b, ¬ Own (startG N (en u)) (L2.start N vs) b := fun b z => by
      have hz := g0.sep b z
      obtain ⟨i, d, z1, _⟩ := z
      unfold startG at z1
      rw [List.getElem?_append] at z1
      split at z1
      · rw [List.getElem?_map] at z1
        cases e : (en u)[i]? with
        | none =>
          rw [e] at z1
          cases z1
        | some y =>
          rw [e] at z1
          cases z1
      · have := List.eq_of_mem_replicate (List.mem_of_getElem? z1)
        cases this
    cases fl with
    | rt r' =>
      obtain ⟨rfl, rfl⟩ := pure_eq h2
      exact fun v H' _ k5 rv => q v H' (fun b o e => k5 b o (fun z => z) (nOwn b) e) (rv.ext (Ext.less fun b z => .inr z))
    | nx b =>
      obtain ⟨h3, rfl⟩ := ofO_eq h2
      refine fun t' H' _ st' => q .non H' (fun b o e => st'.1 b o (fun z => z) (nOwn b) e) ?_
      rw [hno _ h3]
      exact .non
    | bk z => exact z.elim
    | ct z => exact z.elim
  obtain ⟨Gn, ts, hp, ho⟩ := hbody cdv A outer s H E hr hgd u
  exact ⟨ts, (hp ()).nox, ho Z _ H () fl s2 g0 h1 _ fin⟩
end
end PL

namespace PL
open PySem L2 Enc
open PyProof.Rows (IntsAre)
/-- an empty set as it is made -/
def set0 (w : World) : Obj := { cls := .type "set", dict := none, data := .set #[] 0 (.fresh 0 0 (!w.params.followText "set-order")) }
section
variable {P : Program} {w : World} {A : Around} {E : Value → Shared → Prop} {s : Shared}
set_option maxRecDepth 100000 in
set_option maxHeartbeats 3200000 in
theorem set_of_lst {l : Addr} {xs : Array Value} (ks : List Int) {Q : Value → Shared → Prop} (hh : A.handled = none) (hL : s.heap.IsList l xs) (hi : IntsAre xs.toList ks) (hb : ks.length + 1 < scanBound)
    (hQ : ∀ (h1 : Heap) (t1 c : Nat), SetR w h1 s.heap.objs.size (fun j => decide (j ∈ ks)) c → c ≤ ks.length → (∀ b o, s.heap.get? b = some o → h1.get? b = some o) → Q (.ref s.heap.objs.size) { s with heap := h1, toks := t1 }) :
    wpAny (model P w) A (call (.type "set") [.ref l]) Q E s := by
  have hz : xs.size = ks.length := by
    have q := IntsAre.length hi
    rwa [Array.length_toList] at q
  obtain ⟨c0, tl0, hmro0⟩ := F.called_set.mro
  have made0 := F.called_set.made
  have sub0 := F.called_set.sub
  refine wpAny_call (codeAny_of_tree ?_)
  show wpAny _ _ (callAny (.type "set") _) _ _ _
  refine wpAny_pure ⟨Code.quiet_builtin _ (by (decide +kernel)), codeAny_builtin F.entry_type_call ?_⟩
  rw [Around.under_plain (weight_type_call_type "set" [Value.ref l] []) rfl]
  have nt0 := F.called_set.notType
  have cc0 := F.called_set.canCreate
  have tc0 := F.typeCall_set_1 (Value.ref l)
  repeat (any_goals (first | assumption | wp_step))
  refine codeAny_mono (code_set_led1 (.ref l) (E := E) (Q₁ := fun ob s1 => ob = .ref s.heap.objs.size ∧ s1 = { s with heap := s.heap.push (set0 w) }) ⟨rfl, rfl⟩) fun rr s1 hr => ?_
  cases rr with
  | error e => exact hr
  | ok fl =>
    cases fl with
    | ret ob =>
      obtain ⟨rfl, rfl⟩ := hr
      have hS : (s.heap.push (set0 w)).get? s.heap.objs.size = some (set0 w) := Heap.get?_push_size _ rfl
      have hT : Shared.TypeIs { s with heap := s.heap.push (set0 w) } (.ref s.heap.objs.size) "set" := ⟨_, hS, rfl⟩
      have il0 := F.called_set.init.lookup
      have ib0 := F.called_set.init.bind (.ref s.heap.objs.size)
      repeat (any_goals (first | assumption | wp_step))
      refine codeAny_mono (codeAny_call_builtin (R := wants (fun v s2 => v = .none ∧ ∃ h1 t1 c, s2 = { s with heap := h1, toks := t1 } ∧ SetR w h1 s.heap.objs.size (fun j => decide (j ∈ ks)) c ∧ c ≤ ks.length ∧
          (∀ b o, s.heap.get? b = some o → h1.get? b = some o)) E) F.called_set.init.plain F.entry_set_init (check_set_init_1 hT ?_)) fun r2 s2 hr2 => ?_
      · obtain ⟨ol, ho, hcl, nl, hdl⟩ := hL
        obtain ⟨ocls, odict, odata, oslots⟩ := ol
        simp only at hcl hdl
        subst hcl; subst hdl
        have ho1 : (s.heap.push (set0 w)).get? l = some { cls := .type "list", dict := odict, data := .seq xs nl, slots := oslots } := Heap.get?_push_of_some _ ho
        have sub1 := F.sub_list_set
        have sub2 := F.sub_list_frozenset
        have ne1 : (Value.type "list" == Value.type "dict") = false := by decide
        have hl1 : (s.heap.push (set0 w)).IsList l xs := ⟨_, ho1, rfl, nl, rfl⟩
        unfold Builtin.«set.__init__» noKeywords Builtin.Frozenset.updateFrom
        generalize hPI : pyIter = PI
        wp_walk
        subst hPI
        refine wpAny_pyIter_list hl1 ?_
        refine wpAny_bind (wpAny_runValue ?_)
        have hlS : l < s.heap.objs.size := Heap.lt_size ho
        have hh3 : A.in1.in1.in1.handled = none := by simp only [hh]
        have nI : l ≠ (s.heap.push (set0 w)).objs.size := by
          rw [Heap.size_push]
          exact Nat.ne_of_lt (Nat.lt_succ_of_lt hlS)
        have nS : s.heap.objs.size ∉ [(s.heap.push (set0 w)).objs.size, l] := by
          rw [Heap.size_push]
          intro z
          rcases List.mem_cons.mp z with z | z
          · exact absurd z (Nat.ne_of_lt (Nat.lt_succ_self _))
          · exact absurd (List.mem_singleton.mp z) (Nat.ne_of_gt hlS)
        have val : ∀ (i : Nat) (v : Value), xs[i]? = some v → ∃ k t, ks[i]? = some k ∧ v = .int k t := fun i v hv => by
          have hik : i < ks.length := by
            rw [← hz]
            exact (Array.getElem?_eq_some_iff.mp hv).1
          obtain ⟨t, e⟩ := PyProof.Rows.IntsAre.int_at hi i v (by rw [Array.getElem?_toList, hv])
          refine ⟨ks[i], t, List.getElem?_eq_getElem hik, ?_⟩
          rw [e, List.getD_eq_getElem?_getD, List.getElem?_eq_getElem hik]
          rfl
        refine set_update_ints ((Walks.list hh3 _ l nI xs).toS) s.heap.objs.size
          nS ks hz hb val (xs.size - 0) 0 _ (by omega) (Nat.zero_le _)
          ⟨⟨_, Heap.get?_push_size _ rfl, rfl, rfl⟩, (hl1.push _)⟩ ?hS0 ?hR
        case hS0 =>
          have hget : ((s.heap.push (set0 w)).push { cls := .type "list_iterator", data := .fields #[.ref l, .int 0 0] }).get? s.heap.objs.size = some (set0 w) := Heap.get?_push_of_some _ hS
          exact ⟨0, Nat.le_refl 0, setR_new_at hget⟩
        case hR =>
          intro s3 c1 hm hc1 hS1
          obtain ⟨h1, g1, d1, t1, os1⟩ := s3
          have eg : g1 = s.gens := hm.gens
          have ed : d1 = s.drawn := hm.drawn
          have eo : os1 = s.os := hm.os
          subst eg; subst ed; subst eo
          show wpAny _ _ _ _ _ _
          refine wpAny_pure ?_
          show wpAny _ _ (ret Value.none) _ _ _
          rw [hz] at hc1
          refine wpAny_pure ⟨rfl, h1, t1, c1, rfl, hS1, hc1, fun b o e => ?_⟩
          have b0 : b < s.heap.objs.size := Heap.lt_size e
          refine hm.heap b o (fun z => ?_) (Heap.get?_push_of_some _ (Heap.get?_push_of_some _ e))
          rcases List.mem_cons.mp z with z | z
          · exact absurd z (Nat.ne_of_lt b0)
          · refine absurd (List.mem_singleton.mp z) ?_
            rw [Heap.size_push]
            exact Nat.ne_of_lt (Nat.lt_succ_of_lt b0)
      · cases r2 with
        | error e => exact hr2
        | ok fl2 =>
          cases fl2 with
          | ret v =>
            obtain ⟨rfl, h1, t1, c1, rfl, hS1, hc1, hk1⟩ := hr2
            repeat (any_goals (first | assumption | wp_step))
            exact hQ _ _ _ hS1 hc1 hk1
          | _ => exact hr2.elim
    | _ => exact hr.elim
end
section
variable {X : Cx}
/-- set(xs) of a list of ints -/
def rSetOfL (K : PySem.W.Frag) (w : World) : List V → Hp → VK → Prop := fun vs H Q => ∃ (a : Addr) (ns : List Int), vs = [V.ref a] ∧ SqL K H a (ns.map V.int) ∧ ns.length ≤ 1000 ∧
  ∀ p c, H p = none → c ≤ ns.length → Q (.ref p) (upd H p (SetO w p (fun j => decide (j ∈ ns)) c))
theorem cr_setL (hc : X.calm = true) : CallR X (.type "set") (rSetOfL X.K X.w) := by
  intro pins s st H vs us Q I r h
  obtain ⟨a, ns, rfl, hs, hl, q⟩ := h
  obtain ⟨its, rv, pl, _⟩ := I.list hs
  rw [Vals.ref1 r]
  obtain ⟨o, n, e1, e2, _, e3⟩ := pl
  have fr : H s.heap.objs.size = none := I.fresh
  refine set_of_lst ns (I.ok.hd hc) ⟨o, e1, e2, n, e3⟩ (by simpa using rv.ints) (by unfold scanBound; omega) fun h1 t1 c R hcl keep => ?_
  exact ⟨.ref s.heap.objs.size, _, I.laid keep (Nat.le_refl _) (setO_new R), rfl, q _ c fr hcl⟩
end
end PL

namespace PL
open PySem L2 Enc
section
variable {I S A B C U : Type} [Enc A] [Enc B] [Enc C] {Xs : I → Cx} {F : Fm S} {G : List Sl} {pos p p2 : Pos} {e a b c tg iter : Expr} {es : List Expr} {K : PySem.W.Frag} {x : Str}
def chainM {S : Type} (f g : Int → Int → Bool) (m n o : M S Int) : M S Bool := bindM m fun x => bindM n fun y => if f x y then bindM o fun z => pureM (g y z) else pureM false
theorem chainM_pure (f g : Int → Int → Bool) (x y z : Int) : chainM f g (pureM x : M S Int) (pureM y) (pureM z) = pureM (f x y && g y z) := by
  unfold chainM
  simp only [bind_pure]
  cases f x y <;> rfl
theorem ok_chain {f g : Int → Int → Bool} {ta tb tc : TE} {m n o : M S Int} (ha : TEok F G ta m) (hb : TEok F G tb n) (hc : TEok F G tc o) :
    TEok F G (tChain (rI0 fun i j => .bl (f i j)) (rI0 fun i j => .bl (g i j)) ta tb tc) (chainM f g m n o) := fun Zx t H s y s' gd hm Q q => by
  obtain ⟨i, s1, h1, h2⟩ := bind_some hm
  obtain ⟨j, s2, h3, h4⟩ := bind_some h2
  refine ha Zx t H s i s1 gd h1 _ fun v H1 g1 f1 r1 => ?_
  refine hb Zx t H1 s1 j s2 g1 h3 _ fun u H2 g2 f2 r2 => ?_
  refine ⟨i, j, r1.toInt, r2.toInt, f i j, rfl, ?_⟩
  cases e : f i j with
  | true =>
    rw [e] at h4
    obtain ⟨k, s3, h5, h6⟩ := bind_some h4
    obtain ⟨rfl, rfl⟩ := pure_eq h6
    refine iteT (hc Zx t H2 s2 k s3 g2 h5 _ fun w' H3 g3 f3 r3 => ?_)
    exact ⟨j, k, r2.toInt, r3.toInt, q _ H3 g3 ((f1.trans f2).trans f3) (.bl _)⟩
  | false =>
    rw [e] at h4
    obtain ⟨rfl, rfl⟩ := pure_eq h4
    exact iteF (q _ H2 g2 (f1.trans f2) (.bl false))
theorem ev_chain {op op' : CmpOp} {f g : Int → Int → Bool} {m n o : M S Int} (ho : ∀ i, OpR (Xs i) (compareOp op) (rI0 fun i j => .bl (f i j))) (ho' : ∀ i, OpR (Xs i) (compareOp op') (rI0 fun i j => .bl (g i j)))
    (ha : EV Xs F G a m) (hb : EV Xs F G b n) (hc : EV Xs F G c o) (hm : lastMarks [op, op'] [b, c] = false := by with_unfolding_all rfl) : EV Xs F G (.Compare a [op, op'] [b, c] pos) (chainM f g m n o) := by
  obtain ⟨ta, hp, hx⟩ := ha
  obtain ⟨tb, hq, hy⟩ := hb
  obtain ⟨tc, hr, hz⟩ := hc
  exact ⟨_, fun i => pe_chain (ho i) (ho' i) (hp i) (hq i) (hr i) hm, ok_chain hx hy hz⟩
theorem et_chain {op op' : CmpOp} {f g : Int → Int → Bool} {m n o : M S Int} (ho : ∀ i, OpR (Xs i) (compareOp op) (rI0 fun i j => .bl (f i j))) (ho' : ∀ i, OpR (Xs i) (compareOp op') (rI0 fun i j => .bl (g i j)))
    (ha : EV Xs F G a m) (hb : EV Xs F G b n) (hc : EV Xs F G c o) (hm : lastMarks [op, op'] [b, c] = false := by with_unfolding_all rfl) : ET Xs F G (.Compare a [op, op'] [b, c] pos) (chainM f g m n o) := by
  obtain ⟨ta, hp, hx⟩ := ha
  obtain ⟨tb, hq, hy⟩ := hb
  obtain ⟨tc, hr, hz⟩ := hc
  refine ⟨tTest _, fun i => pt_chain (ho i) (ho' i) (hp i) (hq i) (hr i) hm, fun Zx t H s y s' g hm Q q => ?_⟩
  exact ok_chain hx hy hz Zx t H s y s' g hm _ fun v H' g' f' r' => ⟨y, r'.bool, q H' g' f'⟩
theorem atI_map {A B : Type} (f : A → B) (l : List A) (i : Int) : atI (l.map f) i = (atI l i).map f := by
  unfold atI
  rw [List.length_map]
  cases ixN l.length i with
  | none => rfl
  | some j =>
    show (l.map f)[j]? = (l[j]?).map f
    rw [List.getElem?_map]
theorem RpL.at {Z : Addr → Prop} {H : Hp} {xs : List V} {l : List A} {i : Int} {y : A} (r : RpL Z H xs (l.map enc)) (h : atI l i = some y) : ∃ v, atI xs i = some v ∧ Rp Z H v (enc y) := by
  unfold atI at h ⊢
  have hl : xs.length = l.length := by rw [r.len, List.length_map]
  rw [hl]
  cases e : ixN l.length i with
  | none =>
    rw [e] at h
    cases h
  | some j =>
    rw [e] at h
    obtain ⟨v, h1, h2⟩ := r.get (i := j) (x := enc y) (by
      rw [List.getElem?_map]
      have h' : l[j]? = some y := h
      rw [h']
      rfl)
    exact ⟨v, h1, h2⟩
def ixM {A : Type} (m : M S (List A)) (n : M S Int) : M S A := bin2 (fun (l : List A) i => atI l i) m n
@[simp] theorem ixM_pure (l : List A) (i : Int) : ixM (pureM l : M S (List A)) (pureM i) = ofO (atI l i) := rfl
theorem ev_ixL {m : M S (List A)} {n : M S Int} (ha : EV Xs F G a m) (hb : EV Xs F G b n) (hs : PlainIx b := by exact fun _ _ => rfl) (hK : ∀ i, (Xs i).K = K := by intro _; rfl) : EV Xs F G (.Subscript a b pos) (ixM m n) := by
  obtain ⟨ta, hp, hx⟩ := ha
  obtain ⟨tb, hq, hy⟩ := hb
  refine ⟨tOp (rIxL K) ta tb, fun i => by rw [← hK i]; exact pe_ix ix_list (hp i) (hq i) hs, ok_op2 (fun F Zx G s t H x y vx vy z g rx ry e Q q => ?_) hx hy⟩
  obtain ⟨pp, xs, rfl, n1, h, l⟩ := rx.toLst
  obtain rfl := ry.toInt
  obtain ⟨v, h1, h2⟩ := l.at e
  exact ⟨pp, xs, y, v, rfl, rfl, SqL.of h, h1, q v H (Same.refl H) h2⟩
theorem ev_ixT {m : M S (Tup A)} {n : M S Int} (ha : EV Xs F G a m) (hb : EV Xs F G b n) (hs : PlainIx b := by exact fun _ _ => rfl) (hK : ∀ i, (Xs i).K = K := by intro _; rfl) : EV Xs F G (.Subscript a b pos) (ixM (mapM1 unTup m) n) := by
  obtain ⟨ta, hp, hx⟩ := ha
  obtain ⟨tb, hq, hy⟩ := hb
  have := ok_op2 (F := F) (G := G) (r := rIxT K) (f := fun (l : Tup A) i => atI (unTup l) i) (fun F Zx G s t H x y vx vy z g rx ry e Q q => by
    obtain ⟨pp, xs, rfl, n1, h, l⟩ := rx.toTup
    obtain rfl := ry.toInt
    obtain ⟨v, h1, h2⟩ := l.at e
    exact ⟨pp, xs, y, v, rfl, rfl, h.sq, h1, q v H (Same.refl H) h2⟩) hx hy
  refine ⟨tOp (rIxT K) ta tb, fun i => by rw [← hK i]; exact pe_ix ix_tup (hp i) (hq i) hs, ?_⟩
  have e : ixM (mapM1 unTup m) n = bin2 (fun (l : Tup A) i => atI (unTup l) i) m n := by
    unfold ixM bin2 mapM1
    rw [bind_assoc]
    rfl
  rw [e]
  exact this
/-- a place of a tuple of known arity -/
theorem ev_proj {m : M S A} {k : Nat} {j : Nat} {sp : Pos} (f : A → B) (hf : ∀ y, ∃ ds, enc y = .tuple ds ∧ ds[k]? = some (enc (f y))) (ha : EV Xs F G a m) (hK : ∀ i, (Xs i).K = K := by intro _; rfl) :
    EV Xs F G (.Subscript a (.Constant (.int (k : Int)) j sp) pos) (mapM1 f m) := by
  obtain ⟨ta, hp, hx⟩ := ha
  refine ⟨tOp (rIxT K) ta (tC (.int (k : Int))), fun i => by rw [← hK i]; exact pe_ix ix_tup (hp i) pe_int (fun _ _ => rfl), fun Zx t H s y s' g hm Q q => ?_⟩
  obtain ⟨z, s1, h1, h2⟩ := bind_some hm
  obtain ⟨rfl, rfl⟩ := pure_eq h2
  refine hx Zx t H s z s1 g h1 _ fun v H1 g1 f1 r1 => ?_
  obtain ⟨ds, e1, e2⟩ := hf z
  rw [e1] at r1
  cases r1 with
  | tup n h l =>
    obtain ⟨u, h3, h4⟩ := l.get e2
    exact ⟨_, _, (k : Int), u, rfl, rfl, h.sq, atI_nat h3, q u H1 g1 f1 h4⟩
def EP (Xs : I → Cx) (F : Fm S) (G : List Sl) (e : Option Expr) (m : M S (Option Int)) : Prop := ∃ t, (∀ i, PO (Xs i) e t) ∧
  ∀ Zx t1 H s a s', Gd F Zx G s t1 H → m s = some (a, s') → ∀ Q : Option Int → Hp → Prop, (∀ H', Gd F Zx G s' t1 H' → Fix F H H' → Q a H') → t t1 H Q
theorem ep_none : EP Xs F G none (pureM none) := ⟨tNoPart, fun _ => po_none, fun Zx t H s a s' g hm Q q => by
  obtain ⟨rfl, rfl⟩ := pure_eq hm
  exact q H g (Fix.refl H)⟩
theorem ep_some {m : M S Int} (h : EV Xs F G e m) : EP Xs F G (some e) (mapM1 some m) := by
  obtain ⟨te, hp, ho⟩ := h
  refine ⟨tPart te, fun i => po_some (hp i), fun Zx t H s a s' g hm Q q => ?_⟩
  obtain ⟨z, s1, h1, h2⟩ := bind_some hm
  obtain ⟨rfl, rfl⟩ := pure_eq h2
  exact ho Zx t H s z s1 g h1 _ fun v H1 g1 f1 r1 => ⟨z, r1.toInt, q H1 g1 f1⟩
/-- xs[lo:hi] -/
def cutL {A : Type} (lo hi : Option Int) (l : List A) : List A := (l.drop (HT.sIx l.length 0 lo)).take (HT.sIx l.length l.length hi - HT.sIx l.length 0 lo)
def cutM {A : Type} (m : M S (List A)) (n o : M S (Option Int)) : M S (List A) := bindM m fun l => bindM n fun lo => bindM o fun hi => pureM (cutL lo hi l)
@[simp] theorem cutM_pure (l : List A) (lo hi : Option Int) : cutM (pureM l : M S (List A)) (pureM lo) (pureM hi) = pureM (cutL lo hi l) := rfl
theorem RpL.cut {Z : Addr → Prop} {H : Hp} {xs : List V} {l : List A} (r : RpL Z H xs (l.map enc)) (lo hi : Option Int) : RpL Z H (cutV xs lo hi) ((cutL lo hi l).map enc) := by
  have hl : xs.length = l.length := by rw [r.len, List.length_map]
  unfold cutV cutL
  rw [hl, List.map_take, List.map_drop]
  exact (r.drop _).take _
theorem ev_slL {m : M S (List A)} {n o : M S (Option Int)} {lo hi : Option Expr} (ha : EV Xs F G a m) (h1 : EP Xs F G lo n) (h2 : EP Xs F G hi o) (hK : ∀ i, (Xs i).K = K := by intro _; rfl) : EV Xs F G (.Subscript a (.Slice lo hi none p2) pos) (cutM m n o) := by
  obtain ⟨ta, hp, hx⟩ := ha
  obtain ⟨tb, hq, hy⟩ := h1
  obtain ⟨tc, hr, hz⟩ := h2
  refine ⟨tSl (rSlL K) ta tb tc, fun i => by rw [← hK i]; exact pe_slice sl_list (hp i) (hq i) (hr i), fun Zx t H s y s' g hm Q q => ?_⟩
  obtain ⟨l, s1, e1, e2⟩ := bind_some hm
  obtain ⟨i, s2, e3, e4⟩ := bind_some e2
  obtain ⟨j, s3, e5, e6⟩ := bind_some e4
  obtain ⟨rfl, rfl⟩ := pure_eq e6
  refine hx Zx t H s l s1 g e1 _ fun v H1 g1 f1 r1 => ?_
  refine hy Zx t H1 s1 i s2 g1 e3 _ fun H2 g2 f2 => ?_
  refine hz Zx t H2 s2 j s3 g2 e5 _ fun H3 g3 f3 => ?_
  obtain ⟨pp, xs, rfl, n1, h, r⟩ := ((r1.fix f2).fix f3).toLst
  refine ⟨pp, xs, rfl, SqL.of h, fun pn hn => ?_⟩
  have sm : Same H3 (upd H3 pn (.lst (cutV xs i j))) := same_new hn
  exact q _ _ (g3.same sm) (((f1.trans f2).trans f3).trans (Fix.same sm)) (.lst (g3.new hn) upd_same ((r.cut i j).fix (Fix.same sm)))
theorem ev_slT {m : M S (Tup A)} {n o : M S (Option Int)} {lo hi : Option Expr} (ha : EV Xs F G a m) (h1 : EP Xs F G lo n) (h2 : EP Xs F G hi o) (hK : ∀ i, (Xs i).K = K := by intro _; rfl) :
    EV Xs F G (.Subscript a (.Slice lo hi none p2) pos) (mapM1 toTup (cutM (mapM1 unTup m) n o)) := by
  obtain ⟨ta, hp, hx⟩ := ha
  obtain ⟨tb, hq, hy⟩ := h1
  obtain ⟨tc, hr, hz⟩ := h2
  refine ⟨tSl (rSlB K) ta tb tc, fun i => by rw [← hK i]; exact pe_slice sl_tupB (hp i) (hq i) (hr i), fun Zx t H s y s' g hm Q q => ?_⟩
  obtain ⟨y0, s4, hm1, e0⟩ := bind_some hm
  obtain ⟨rfl, rfl⟩ := pure_eq e0
  obtain ⟨l, s1, e1, e2⟩ := bind_some hm1
  obtain ⟨i, s2, e3, e4⟩ := bind_some e2
  obtain ⟨j, s3, e5, e6⟩ := bind_some e4
  obtain ⟨rfl, rfl⟩ := pure_eq e6
  obtain ⟨l0, s0, e7, e8⟩ := bind_some e1
  obtain ⟨rfl, rfl⟩ := pure_eq e8
  refine hx Zx t H s l0 s0 g e7 _ fun v H1 g1 f1 r1 => ?_
  refine hy Zx t H1 s0 i s2 g1 e3 _ fun H2 g2 f2 => ?_
  refine hz Zx t H2 s2 j s3 g2 e5 _ fun H3 g3 f3 => ?_
  obtain ⟨pp, xs, rfl, n1, h, r⟩ := ((r1.fix f2).fix f3).toTup
  have rc := r.cut i j
  refine ⟨pp, xs, rfl, h.sq, fun hw => ?_, fun hw pn ob hn hb => ?_⟩
  · refine q _ H3 g3 ((f1.trans f2).trans f3) (.tup n1 h ?_)
    have e : cutV xs i j = xs := by
      unfold cutV
      rw [hw.1, hw.2, List.drop_zero, Nat.sub_zero, List.take_length]
    rw [e] at rc
    exact rc
  · have sm : Same H3 (upd H3 pn (.frz ob (.tup (cutV xs i j)))) := same_new hn
    exact q _ _ (g3.same sm) (((f1.trans f2).trans f3).trans (Fix.same sm)) (.tup (g3.new hn) ⟨ob, upd_same, hb⟩ (rc.fix (Fix.same sm)))
/-- xs[::-1] of a list -/
theorem ev_revL {m : M S (List A)} {k : Nat} {q1 q2 q3 : Pos} (ha : EV Xs F G a m) (hK : ∀ i, (Xs i).K = K := by intro _; rfl) : EV Xs F G (.Subscript a (.Slice none none (some (.UnaryOp .USub (.Constant (.int 1) k q1) q2)) q3) pos) (mapM1 List.reverse m) := by
  obtain ⟨ta, hp, hx⟩ := ha
  refine ⟨tRevL K ta, fun i => by rw [← hK i]; exact pe_revL (hp i), fun Zx t H s y s' g hm Q q => ?_⟩
  obtain ⟨z, s1, h1, h2⟩ := bind_some hm
  obtain ⟨rfl, rfl⟩ := pure_eq h2
  refine hx Zx t H s z s1 g h1 _ fun v H1 g1 f1 r1 => ?_
  obtain ⟨pp, xs, rfl, n1, h, r⟩ := r1.toLst
  refine ⟨pp, xs, rfl, SqL.of h, fun pn hn => ?_⟩
  have sm : Same H1 (upd H1 pn (.lst xs.reverse)) := same_new hn
  refine q _ _ (g1.same sm) (f1.trans (Fix.same sm)) (.lst (g1.new hn) upd_same ?_)
  rw [List.map_reverse]
  exact r.rev.fix (Fix.same sm)
theorem bin2_map {A B C A' B' C' : Type} (f : A → A') (g : B → B') (h : C' → C) (m : M S A) (n : M S B) (k : A' → B' → Option C') (k' : A → B → Option C) (e : ∀ x y, k' x y = (k (f x) (g y)).map h) :
    mapM1 h (bin2 k (mapM1 f m) (mapM1 g n)) = bin2 k' m n := by
  funext s
  simp only [mapM1, bin2, bindM, pureM, ofO]
  cases m s with
  | none => rfl
  | some p =>
    obtain ⟨x, s1⟩ := p
    simp only
    cases n s1 with
    | none => rfl
    | some q =>
      obtain ⟨y, s2⟩ := q
      simp only [e]
      cases k (f x) (g y) <;> rfl
def catM {A : Type} (m n : M S (List A)) : M S (List A) := bin2 (fun (x y : List A) => if lenOk (x.length + y.length) then some (x ++ y) else none) m n
theorem catM_pure {x y : List A} (h : lenOk (x.length + y.length)) : catM (pureM x : M S (List A)) (pureM y) = pureM (x ++ y) := by
  show ofO (if lenOk (x.length + y.length) then some (x ++ y) else none) = _
  rw [if_pos h]
  rfl
theorem ev_catL {m n : M S (List A)} (ha : EV Xs F G a m) (hb : EV Xs F G b n) : EV Xs F G (.BinOp a .Add b pos) (catM m n) := ev_op (fun _ => op_cat) (fun F Zx G s t H x y vx vy z g rx ry e Q q => by
  replace e : (if lenOk (x.length + y.length) then some (x ++ y) else none) = some z := e
  by_cases hl : lenOk (x.length + y.length)
  · rw [if_pos hl] at e
    cases e
    obtain ⟨pp, xs, rfl, n1, h, r⟩ := rx.toLst
    obtain ⟨p3, ys, rfl, n2, h2, r2⟩ := ry.toLst
    refine ⟨pp, p3, xs, ys, rfl, rfl, h, h2, ?_, fun pn hn => ?_⟩
    · rw [r.len, r2.len, List.length_map, List.length_map]
      exact lenOk_line hl
    · have sm : Same H (upd H pn (.lst (xs ++ ys))) := same_new hn
      refine q _ _ sm (.lst (g.new hn) upd_same ?_)
      rw [List.map_append]
      exact (r.append r2).fix (Fix.same sm)
  · rw [if_neg hl] at e
    cases e) ha hb
theorem ev_catT {m n : M S (Tup A)} (ha : EV Xs F G a m) (hb : EV Xs F G b n) (hK : ∀ i, (Xs i).K = K := by intro _; rfl) : EV Xs F G (.BinOp a .Add b pos) (mapM1 toTup (catM (mapM1 unTup m) (mapM1 unTup n))) := by
  refine EV.eq (ev_op (r := rCatB K) (f := fun (x y : Tup A) => if lenOk ((unTup x).length + (unTup y).length) then some (toTup (unTup x ++ unTup y)) else none) (fun i => by rw [← hK i]; exact op_catB) (fun F Zx G s t H x y vx vy z g rx ry e Q q => ?_) ha hb) ?_
  · replace e : (if lenOk ((unTup x).length + (unTup y).length) then some (toTup (unTup x ++ unTup y)) else none) = some z := e
    by_cases hl : lenOk ((unTup x).length + (unTup y).length)
    · rw [if_pos hl] at e
      cases e
      obtain ⟨pp, xs, rfl, n1, h, r⟩ := rx.toTup
      obtain ⟨p3, ys, rfl, n2, h2, r2⟩ := ry.toTup
      have fin : ∀ {Z H2 v zs}, Rp Z H2 v (.tuple (List.map enc (unTup x) ++ List.map enc (unTup y))) → zs = toTup (unTup x ++ unTup y) → Rp Z H2 v (enc zs) := fun {Z H2 v zs} r e => by
        subst e
        show Rp Z H2 v (.tuple (List.map enc (unTup x ++ unTup y)))
        rw [List.map_append]
        exact r
      refine ⟨pp, p3, xs, ys, rfl, rfl, h.sq, h2.sq, ?_, fun e0 => ?_, fun e0 e1 => ?_, fun e0 e1 pn ob hn hb => ?_⟩
      · rw [r.len, r2.len, List.length_map, List.length_map]
        exact lenOk_line hl
      · have : List.map enc (unTup x) = [] := r.nil_iff.mp e0
        exact q _ H (Same.refl H) (fin (by rw [this, List.nil_append]; exact .tup n2 h2 r2) rfl)
      · have : List.map enc (unTup y) = [] := r2.nil_iff.mp e1
        exact q _ H (Same.refl H) (fin (by rw [this, List.append_nil]; exact .tup n1 h r) rfl)
      · have sm : Same H (upd H pn (.frz ob (.tup (xs ++ ys)))) := same_new hn
        exact q _ _ sm (fin (.tup (g.new hn) ⟨ob, upd_same, hb⟩ ((r.append r2).fix (Fix.same sm))) rfl)
    · rw [if_neg hl] at e
      cases e
  · refine (bin2_map unTup unTup toTup m n _ _ fun x y => ?_).symm
    by_cases hl : lenOk ((unTup x).length + (unTup y).length)
    · rw [if_pos hl, if_pos hl]
      rfl
    · rw [if_neg hl, if_neg hl]
      rfl
def repM {A : Type} (m : M S (List A)) (n : M S Int) : M S (List A) := bin2 (fun (x : List A) (k : Int) => if -(2 ^ 62) ≤ k ∧ k < 2 ^ 62 ∧ lenOk (x.length * k.toNat) then some (List.replicate k.toNat x).flatten else none) m n
theorem flatten_map {A B : Type} (f : A → B) (x : List A) : ∀ k : Nat, ((List.replicate k x).flatten).map f = (List.replicate k (x.map f)).flatten
  | 0 => rfl
  | k + 1 => by rw [List.replicate_succ, List.replicate_succ, List.flatten_cons, List.flatten_cons, List.map_append, flatten_map f x k]
theorem ev_rep {m : M S (List A)} {n : M S Int} (ha : EV Xs F G a m) (hb : EV Xs F G b n) : EV Xs F G (.BinOp a .Mult b pos) (repM m n) := ev_op (fun _ => op_rep) (fun F Zx G s t H x y vx vy z g rx ry e Q q => by
  replace e : (if -(2 ^ 62) ≤ y ∧ y < 2 ^ 62 ∧ lenOk (x.length * y.toNat) then some (List.replicate y.toNat x).flatten else none) = some z := e
  by_cases hl : -(2 ^ 62) ≤ y ∧ y < 2 ^ 62 ∧ lenOk (x.length * y.toNat)
  · rw [if_pos hl] at e
    cases e
    obtain ⟨pp, xs, rfl, n1, h, r⟩ := rx.toLst
    obtain rfl := ry.toInt
    refine ⟨pp, y, xs, rfl, rfl, h, by omega, by omega, ?_, fun pn hn => ?_⟩
    · rw [r.len, List.length_map]
      exact lenOk_line hl.2.2
    · have sm : Same H (upd H pn (.lst (List.replicate y.toNat xs).flatten)) := same_new hn
      refine q _ _ sm (.lst (g.new hn) upd_same ?_)
      rw [flatten_map]
      exact (r.rep _).fix (Fix.same sm)
  · rw [if_neg hl] at e
    cases e) ha hb
def dedupI : List Int → List Int
  | [] => []
  | x :: l => if x ∈ l then dedupI l else x :: dedupI l
theorem mem_dedupI {k : Int} : ∀ {l : List Int}, k ∈ dedupI l ↔ k ∈ l
  | [] => Iff.rfl
  | x :: l => by
    have ih := mem_dedupI (k := k) (l := l)
    unfold dedupI
    by_cases h : x ∈ l
    · rw [if_pos h, ih, List.mem_cons]
      exact ⟨.inr, fun z => z.elim (fun e => e ▸ h) id⟩
    · rw [if_neg h, List.mem_cons, List.mem_cons, ih]
theorem nodup_dedupI : ∀ (l : List Int), (dedupI l).Nodup
  | [] => List.Pairwise.nil
  | x :: l => by
    unfold dedupI
    by_cases h : x ∈ l
    · rw [if_pos h]
      exact nodup_dedupI l
    · rw [if_neg h]
      exact List.nodup_cons.mpr ⟨fun z => h (mem_dedupI.mp z), nodup_dedupI l⟩
theorem len_dedupI : ∀ (l : List Int), (dedupI l).length ≤ l.length
  | [] => Nat.le_refl _
  | x :: l => by
    have ih := len_dedupI l
    unfold dedupI
    split <;> simp only [List.length_cons] <;> omega
/-- sorted(set(l)) -/
def sortU (l : List Int) : List Int := sortI (dedupI l)
theorem mem_sortU {k : Int} {l : List Int} : k ∈ sortU l ↔ k ∈ l := ((sortI_perm _).mem_iff).trans mem_dedupI
theorem sortU_lt (l : List Int) : (sortU l).Pairwise (· < ·) := by
  have h1 := sortI_le (dedupI l)
  have h2 : (sortU l).Nodup := (sortI_perm _).symm.nodup (nodup_dedupI l)
  have h3 : (sortU l).Pairwise fun a b => a ≤ b ∧ a ≠ b := h1.and h2
  exact h3.imp fun h => by omega
theorem sortU_len (l : List Int) : (sortU l).length ≤ l.length := by
  unfold sortU
  rw [(sortI_perm _).length_eq]
  exact len_dedupI l
theorem inc_one {l r : List Int} (h1 : l.Pairwise (· < ·)) (h2 : r.Pairwise (· < ·)) (h : ∀ k, k ∈ l ↔ k ∈ r) : l = r := by
  have n1 : l.Nodup := h1.imp fun h => by omega
  have n2 : r.Nodup := h2.imp fun h => by omega
  exact sorted_one ((List.perm_ext_iff_of_nodup n1 n2).mpr h) (h1.imp fun h => by omega) (h2.imp fun h => by omega)
theorem bb_set : bootBuiltins "set" = some (.type "set") := by decide +kernel
theorem ev_sortU {m : M S (List Int)} {q1 q2 : Pos} (hm : ∀ i, (Xs i).mg "sorted" = none) (hm2 : ∀ i, (Xs i).mg "set" = none) (h : EV Xs F G a m) (hg : ∀ i, Gl (Xs i) "sorted" := by intro _; rfl) (hg2 : ∀ i, Gl (Xs i) "set" := by intro _; rfl)
    (hc : ∀ i, (Xs i).calm = true := by intro _; rfl)
    (he : ∀ i, starEach [a] (Xs i).env = (false, eval a (Xs i).env) :: starEach [] (Xs i).env := by intro _; rfl)
    (he2 : ∀ i, starEach [.Call (.Name "set" q1) [a] [] q2] (Xs i).env = (false, eval (.Call (.Name "set" q1) [a] [] q2) (Xs i).env) :: starEach [] (Xs i).env := by intro _; rfl)
    {w : World} (hK : ∀ i, (Xs i).K = K := by intro _; rfl) (hw : ∀ i, (Xs i).w = w := by intro _; rfl) :
    EV Xs F G (.Call (.Name "sorted" p) [.Call (.Name "set" q1) [a] [] q2] [] pos) (bindM m fun l => guardM (l.length < 64) (pureM (sortU l))) := by
  obtain ⟨ta, hp, hx⟩ := h
  refine ⟨tCB (rSortedSet w) (tCons (tCB (rSetOfL K w) (tCons ta tNil)) tNil), fun i => by
    rw [← hK i, ← hw i]
    exact pe_callB (cr_sortedSet (hc i)) (hg i) (hm i) bb_sorted (pa_cons (pe_callTy (cr_setL (hc i)) (hg2 i) (hm2 i) bb_set (pa_cons (hp i) pa_nil (he i)) (by decide) (by decide) (he i) rfl) pa_nil (he2 i)) (by decide) (by decide) (he2 i) rfl,
    fun Zx t H s y s' g hm' Q q => ?_⟩
  obtain ⟨l, s1, h1, h2⟩ := bind_some hm'
  obtain ⟨hl, h3⟩ := guard_eq h2
  obtain ⟨rfl, rfl⟩ := pure_eq h3
  refine hx Zx t H s l s1 g h1 _ fun v H1 g1 f1 r1 => ?_
  obtain ⟨pp, xs, rfl, n1, h, r⟩ := r1.toLst
  rw [r.ints] at h
  refine ⟨pp, l, rfl, SqL.of h, by omega, fun ps cc hps hcc => ?_⟩
  refine ⟨ps, _, cc, rfl, upd_same, by omega, fun ns pn hlt hmem hlen hpn => ?_⟩
  have sm : Same H1 (upd H1 ps (SetO w ps (fun j => decide (j ∈ l)) cc)) := same_new hps
  have sm2 : Same (upd H1 ps (SetO w ps (fun j => decide (j ∈ l)) cc)) (upd (upd H1 ps (SetO w ps (fun j => decide (j ∈ l)) cc)) pn (.lst (ns.map V.int))) := same_new hpn
  have en : ns = sortU l := inc_one hlt (sortU_lt l) fun k => by
    rw [hmem k, mem_sortU]
    exact decide_eq_true_iff
  subst en
  have g2 := (g1.same sm)
  exact q _ _ (g2.same sm2) ((f1.trans (Fix.same sm)).trans (Fix.same sm2)) (.lst (g2.new hpn) upd_same (RpL.of_ints _))
mutual
theorem Rp.dp {K : PySem.W.Frag} {Z : Addr → Prop} {H : Hp} : ∀ {v : V} {d : PyData}, Rp Z H v d → d.canLay0 = true → Dp K H v d
  | _, _, .non, _ => .non
  | _, _, .bl b, _ => .bl b
  | _, _, .int i, _ => .int i
  | _, _, .str x, _ => .str x
  | _, _, .lst _ h r, k => .lst (SqL.of h) (RpL.dp r (by simpa [PyData.canLay0] using k))
  | _, _, .tup _ h r, k => .tup (h.sq) (RpL.dp r (by simpa [PyData.canLay0] using k))
  | _, _, .dic _ _ _, k => by simp [PyData.canLay0] at k
theorem RpL.dp {K : PySem.W.Frag} {Z : Addr → Prop} {H : Hp} : ∀ {v : List V} {d : List PyData}, RpL Z H v d → PyData.canLayAll0 d = true → DpAll K H v d
  | _, _, .nil, _ => .nil
  | _, _, .cons (d := d) (ds := ds) h t, k => by
    have k' : PyData.canLay0 d = true ∧ PyData.canLayAll0 ds = true := by simpa [PyData.canLayAll0] using k
    exact .cons (Rp.dp h k'.1) (RpL.dp t k'.2)
end
def shpOk (x : A) : Prop := SeqAt.shaped (enc x) = true
instance (x : A) : Decidable (shpOk x) := inferInstanceAs (Decidable (_ = true))
def eqDM {A B : Type} [Enc A] [Enc B] (m : M S A) (n : M S B) : M S Bool := bin2 (fun x y => if shpOk x ∧ shpOk y then some (PyData.eqv (enc x) (enc y)) else none) m n
def neDM {A B : Type} [Enc A] [Enc B] (m : M S A) (n : M S B) : M S Bool := bin2 (fun x y => if shpOk x ∧ shpOk y then some (!PyData.eqv (enc x) (enc y)) else none) m n
theorem rv_eqD {g : PyData → PyData → Bool} {r : R2} (hr : ∀ x y H Q d e, Dp K H x d → Dp K H y e → SeqAt.shaped d = true → SeqAt.shaped e = true → Q (.bl (g d e)) H → r x y H Q) :
    RV2 r (fun (x : A) (y : B) => if shpOk x ∧ shpOk y then some (g (enc x) (enc y)) else none) := fun F Zx G s t H x y vx vy z gd rx ry e Q q => by
  replace e : (if shpOk x ∧ shpOk y then some (g (enc x) (enc y)) else none) = some z := e
  by_cases hl : shpOk x ∧ shpOk y
  · rw [if_pos hl] at e
    cases e
    exact hr vx vy H Q _ _ (rx.dp (SeqAt.canLay_of_shaped hl.1)) (ry.dp (SeqAt.canLay_of_shaped hl.2)) hl.1 hl.2 (q _ H (Same.refl H) (.bl _))
  · rw [if_neg hl] at e
    cases e
theorem ev_eqD {m : M S A} {n : M S B} {k : Nat} (hr : ∀ i, Room k (Xs i).A) (ha : EV Xs F G a m) (hb : EV Xs F G b n) (hK : ∀ i, (Xs i).K = K := by intro _; rfl) : EV Xs F G (.Compare a [.Eq] [b] pos) (eqDM m n) :=
  ev_cmp (r := rEqD K) (fun i => by rw [← hK i]; exact op_eqD (hr i).units) (rv_eqD (K := K) (g := PyData.eqv) fun x y H Q d e h1 h2 h3 h4 q => ⟨d, e, h1, h2, h3, h4, q⟩) ha hb
theorem et_eqD {m : M S A} {n : M S B} {k : Nat} (hr : ∀ i, Room k (Xs i).A) (ha : EV Xs F G a m) (hb : EV Xs F G b n) (hK : ∀ i, (Xs i).K = K := by intro _; rfl) : ET Xs F G (.Compare a [.Eq] [b] pos) (eqDM m n) :=
  et_cmp (r := rEqD K) (fun i => by rw [← hK i]; exact op_eqD (hr i).units) (rv_eqD (K := K) (g := PyData.eqv) fun x y H Q d e h1 h2 h3 h4 q => ⟨d, e, h1, h2, h3, h4, q⟩) ha hb
theorem ev_neD {m : M S A} {n : M S B} {k : Nat} (hr : ∀ i, Room k (Xs i).A) (ha : EV Xs F G a m) (hb : EV Xs F G b n) (hK : ∀ i, (Xs i).K = K := by intro _; rfl) : EV Xs F G (.Compare a [.NotEq] [b] pos) (neDM m n) :=
  ev_cmp (r := rNeD K) (fun i => by rw [← hK i]; exact op_neD (hr i).units) (rv_eqD (K := K) (g := fun d e => !PyData.eqv d e) fun x y H Q d e h1 h2 h3 h4 q => ⟨d, e, h1, h2, h3, h4, q⟩) ha hb
theorem et_neD {m : M S A} {n : M S B} {k : Nat} (hr : ∀ i, Room k (Xs i).A) (ha : EV Xs F G a m) (hb : EV Xs F G b n) (hK : ∀ i, (Xs i).K = K := by intro _; rfl) : ET Xs F G (.Compare a [.NotEq] [b] pos) (neDM m n) :=
  et_cmp (r := rNeD K) (fun i => by rw [← hK i]; exact op_neD (hr i).units) (rv_eqD (K := K) (g := fun d e => !PyData.eqv d e) fun x y H Q d e h1 h2 h3 h4 q => ⟨d, e, h1, h2, h3, h4, q⟩) ha hb
theorem ev_isNone {m : M S (Option A)} {j : Nat} {q1 : Pos} (hA : ∀ y : A, enc y ≠ PyData.none) (ha : EV Xs F G a m) : EV Xs F G (.Compare a [.Is] [.Constant .none j q1] pos) (mapM1 Option.isNone m) := by
  obtain ⟨ta, hp, hx⟩ := ha
  refine ⟨tIsN ta, fun i => pe_cmp (pc_isN (hp i)), fun Zx t H s y s' g hm Q q => ?_⟩
  obtain ⟨z, s1, h1, h2⟩ := bind_some hm
  obtain ⟨rfl, rfl⟩ := pure_eq h2
  refine hx Zx t H s z s1 g h1 _ fun v H1 g1 f1 r1 => ?_
  have e : decide (v = .non) = z.isNone := by
    cases z with
    | none =>
      have r1' : Rp (ZF F Zx G t) H1 v .none := r1
      cases r1'
      rfl
    | some y =>
      have r1' : Rp (ZF F Zx G t) H1 v (enc y) := r1
      refine decide_eq_false fun e => ?_
      subst e
      generalize he : enc y = d at r1'
      cases r1'
      exact hA y he
  rw [e]
  exact q _ H1 g1 f1 (.bl _)
theorem et_isNone {m : M S (Option A)} {j : Nat} {q1 : Pos} (hA : ∀ y : A, enc y ≠ PyData.none) (ha : EV Xs F G a m) : ET Xs F G (.Compare a [.Is] [.Constant .none j q1] pos) (mapM1 Option.isNone m) := by
  obtain ⟨ta, hp, hx⟩ := ha
  refine ⟨tB (tIsN ta), fun i => pt_cmp (pc_isN (hp i)), fun Zx t H s y s' g hm Q q => ?_⟩
  obtain ⟨z, s1, h1, h2⟩ := bind_some hm
  obtain ⟨rfl, rfl⟩ := pure_eq h2
  refine hx Zx t H s z s1 g h1 _ fun v H1 g1 f1 r1 => ?_
  have e : decide (v = .non) = z.isNone := by
    cases z with
    | none =>
      have r1' : Rp (ZF F Zx G t) H1 v .none := r1
      cases r1'
      rfl
    | some y =>
      have r1' : Rp (ZF F Zx G t) H1 v (enc y) := r1
      refine decide_eq_false fun e => ?_
      subst e
      generalize he : enc y = d at r1'
      cases r1'
      exact hA y he
  rw [e]
  exact ⟨_, rfl, q H1 g1 f1⟩
end
end PL

namespace PL
open PySem L2 Enc
/-- a deck: its cells, how many draws -/
structure Dk where
  cells : List Int
  n : Int
/-- where its two lists stand -/
structure DkA where
  d : Addr
  c : Addr
  ne : d ≠ c
def fmA (k : DkA) : Fm Dk where
  Z := fun b => b = k.d ∨ b = k.c
  at_ := fun s H => H k.d = some (.lst [.ref k.c, .int s.n]) ∧ H k.c = some (.lst (s.cells.map V.int))
  loc := fun s H H' h ⟨a, b⟩ => ⟨by rw [h _ (.inl rfl)]; exact a, by rw [h _ (.inr rfl)]; exact b⟩
  trk := fun s H b ⟨h1, h2⟩ z => by
    rcases z with z | z
    · rw [z, h1]
      intro q
      cases q
    · rw [z, h2]
      intro q
      cases q
def rootA (k : DkA) : Addr := k.d
/-- reading a deck -/
def dkN : M Dk Int := fun s => some (s.n, s)
def dkLen : M Dk Int := fun s => some ((s.cells.length : Int), s)
def dkCell (i : Int) : M Dk Int := fun s => (atI s.cells i).map fun x => (x, s)
def dkCells : M Dk (List Int) := fun s => some (s.cells, s)
def dkSetN (x : Int) : M Dk Unit := fun s => some ((), { s with n := x })
def dkSetCell (i x : Int) : M Dk Unit := fun s => (ixN s.cells.length i).map fun j => ((), { s with cells := s.cells.set j x })
section
variable {I : Type} {Xs : I → Cx} {k : DkA} {G : List Sl} {pos p p2 : Pos} {a b c e : Expr} {x : Str} {j : Nat} {K : PySem.W.Frag}
theorem Gd.raw {S : Type} {F : Fm S} {Zx : Addr → Prop} {s : S} {t : St} {H : Hp} {v : V} (g : Gd F Zx G s t H) (h : G[j]? = some (.raw v)) : t[j]? = some (some v) := by
  obtain ⟨hk, _⟩ := List.getElem?_eq_some_iff.mp h
  have hk' : j < t.length := by
    rw [g.len]
    exact hk
  have ht : t[j]? = some (t[j]'hk') := List.getElem?_eq_getElem hk'
  rw [ht, show t[j]'hk' = some v from g.slot j _ _ h ht]
theorem ev_dkN {j0 : Nat} {q1 : Pos} (h : G[j]? = some (.raw (.ref (rootA k)))) (hN : ∀ i, (Xs i).N[j]? = some x := by intro _; rfl)
    (hv : ∀ i, Vis (Xs i).env.scope x := by first | exact fun _ => Or.inl rfl | exact fun _ => Or.inr (Or.inl rfl) | exact fun _ => Or.inr (Or.inr rfl))
    (hd : (x == ("__debug__" : Str)) = false := by decide) (hcd : (x == ("__classdict__" : Str)) = false := by decide) (hK : ∀ i, (Xs i).K = K := by intro _; rfl) :
    EV Xs (fmA k) G (.Subscript (.Name x p) (.Constant (.int 1) j0 q1) pos) dkN := by
  refine ⟨tOp (rIxL K) (tVar j) (tC (.int 1)), fun i => by rw [← hK i]; exact pe_ix ix_list (pe_var (hN i) (hv i) hd hcd) pe_int (fun _ _ => rfl), fun Zx t H s y s' g hm Q q => ?_⟩
  cases hm
  exact ⟨_, g.raw h, k.d, _, 1, .int s.n, rfl, rfl, SqL.of g.at_.1, rfl, q _ H g (Fix.refl H) (.int _)⟩
theorem ev_dkLen {j0 : Nat} {q1 q2 : Pos} (hm : ∀ i, (Xs i).mg "len" = none) (h : G[j]? = some (.raw (.ref (rootA k)))) (hN : ∀ i, (Xs i).N[j]? = some x := by intro _; rfl)
    (hv : ∀ i, Vis (Xs i).env.scope x := by first | exact fun _ => Or.inl rfl | exact fun _ => Or.inr (Or.inl rfl) | exact fun _ => Or.inr (Or.inr rfl))
    (hd : (x == ("__debug__" : Str)) = false := by decide) (hcd : (x == ("__classdict__" : Str)) = false := by decide) (hg : ∀ i, Gl (Xs i) "len" := by intro _; rfl)
    (he : ∀ i, starEach [.Subscript (.Name x p) (.Constant (.int 0) j0 q1) q2] (Xs i).env = (false, eval (.Subscript (.Name x p) (.Constant (.int 0) j0 q1) q2) (Xs i).env) :: starEach [] (Xs i).env := by intro _; rfl) (hK : ∀ i, (Xs i).K = K := by intro _; rfl) :
    EV Xs (fmA k) G (.Call (.Name "len" p2) [.Subscript (.Name x p) (.Constant (.int 0) j0 q1) q2] [] pos) dkLen := by
  refine ⟨tCB (fun xs H Q => ∃ p ys, xs = [.ref p] ∧ (SqL K H p ys ∨ SqT K H p ys) ∧ Q (.int ys.length) H) (tCons (tOp (rIxL K) (tVar j) (tC (.int 0))) tNil), fun i => by
    rw [← hK i]
    exact pe_callB call_len_seq (hg i) (hm i) bb_len (pa_cons (pe_ix ix_list (pe_var (hN i) (hv i) hd hcd) pe_int (fun _ _ => rfl)) pa_nil (he i)) (by decide) (by decide) (he i) rfl, fun Zx t H s y s' g hm' Q q => ?_⟩
  cases hm'
  refine ⟨_, g.raw h, k.d, _, 0, .ref k.c, rfl, rfl, SqL.of g.at_.1, rfl, k.c, _, rfl, .inl (SqL.of g.at_.2), ?_⟩
  rw [List.length_map]
  exact q _ H g (Fix.refl H) (.int _)
theorem ev_dkCell {m : M Dk Int} {j0 : Nat} {q1 q2 : Pos} (h : G[j]? = some (.raw (.ref (rootA k)))) (hb : EV Xs (fmA k) G b m) (hs : PlainIx b := by exact fun _ _ => rfl) (hN : ∀ i, (Xs i).N[j]? = some x := by intro _; rfl)
    (hv : ∀ i, Vis (Xs i).env.scope x := by first | exact fun _ => Or.inl rfl | exact fun _ => Or.inr (Or.inl rfl) | exact fun _ => Or.inr (Or.inr rfl))
    (hd : (x == ("__debug__" : Str)) = false := by decide) (hcd : (x == ("__classdict__" : Str)) = false := by decide) (hK : ∀ i, (Xs i).K = K := by intro _; rfl) :
    EV Xs (fmA k) G (.Subscript (.Subscript (.Name x p) (.Constant (.int 0) j0 q1) q2) b pos) (bindM m dkCell) := by
  obtain ⟨tb, hp, ho⟩ := hb
  refine ⟨tOp (rIxL K) (tOp (rIxL K) (tVar j) (tC (.int 0))) tb, fun i => by rw [← hK i]; exact pe_ix ix_list (pe_ix ix_list (pe_var (hN i) (hv i) hd hcd) pe_int (fun _ _ => rfl)) (hp i) hs, fun Zx t H s y s' g hm Q q => ?_⟩
  obtain ⟨z, s1, h1, h2⟩ := bind_some hm
  refine ⟨_, g.raw h, k.d, _, 0, .ref k.c, rfl, rfl, SqL.of g.at_.1, rfl, ?_⟩
  refine ho Zx t H s z s1 g h1 _ fun v H1 g1 f1 r1 => ?_
  obtain rfl := r1.toInt
  unfold dkCell at h2
  cases e : atI s1.cells z with
  | none =>
    rw [e] at h2
    cases h2
  | some w =>
    rw [e] at h2
    cases h2
    refine ⟨k.c, _, z, .int y, rfl, rfl, SqL.of g1.at_.2, ?_, q _ H1 g1 f1 (.int _)⟩
    rw [atI_map, e]
    rfl
theorem ev_dkCells {j0 : Nat} {q1 : Pos} (h : G[j]? = some (.raw (.ref (rootA k)))) (hN : ∀ i, (Xs i).N[j]? = some x := by intro _; rfl) : True := trivial
/-- deck[1] = e -/
theorem ss_dkN {L R : Type} [Enc R] {Gl : L → List Sl} {m : M Dk Int} {j0 : Nat} {q1 q2 : Pos} (h : G[j]? = some (.raw (.ref (rootA k)))) (hb : EV Xs (fmA k) G e m) (hN : ∀ i, (Xs i).N[j]? = some x := by intro _; rfl)
    (hv : ∀ i, Vis (Xs i).env.scope x := by first | exact fun _ => Or.inl rfl | exact fun _ => Or.inr (Or.inl rfl) | exact fun _ => Or.inr (Or.inr rfl))
    (hd : (x == ("__debug__" : Str)) = false := by decide) (hcd : (x == ("__classdict__" : Str)) = false := by decide)
    (hs : ∀ i, swapsWithSole [.Subscript (.Name x p) (.Constant (.int 1) j0 q1) q2] e pos.line (Xs i).env = pure false := by intro _; rfl) (hw : ∀ i, swappedStores [.Subscript (.Name x p) (.Constant (.int 1) j0 q1) q2] e (Xs i).env = pure none := by intro _; rfl)
    (h1 : ∀ i, (assignEach [.Subscript (.Name x p) (.Constant (.int 1) j0 q1) q2] (Xs i).env).map (·.2) = [assign (.Subscript (.Name x p) (.Constant (.int 1) j0 q1) q2) (Xs i).env] := by intro _; rfl) :
    SS (R := R) (L := L) Xs (fmA k) G (.Assign [.Subscript (.Name x p) (.Constant (.int 1) j0 q1) q2] e pos) (bindM m fun y => bindM (dkSetN y) fun _ => pureM (.nx ())) (fun _ => G) Gl := by
  obtain ⟨te, hp, ho⟩ := hb
  refine ⟨tAsg te (gSub (tVar j) (tC (.int 1)) rSetL), fun i => ps_asg (hp i) (pg_sub (pe_var (hN i) (hv i) hd hcd) pe_int set_list) (hs i) (hw i) (h1 i), fun Zx t H s r s' g hm D q => ?_⟩
  obtain ⟨z, s1, e1, e2⟩ := bind_some hm
  obtain ⟨u, s2, e3, e4⟩ := bind_some e2
  obtain ⟨rfl, rfl⟩ := pure_eq e4
  cases e3
  refine ho Zx t H s z s1 g e1 _ fun v H1 g1 f1 r1 => ?_
  obtain rfl := r1.toInt
  refine ⟨_, g1.raw h, k.d, _, 1, 1, rfl, rfl, g1.at_.1, rfl, ?_⟩
  have fx : Fix (fmA k) H1 (upd H1 k.d (.lst [.ref k.c, .int z])) := fun b o z' h' => by
    rw [upd_ne (fun w => z' (.inl w))]
    exact h'
  exact q t _ (g1.fix fx ⟨upd_same, by rw [upd_ne k.ne.symm]; exact g1.at_.2⟩) (Stp.fix (f1.trans fx))
theorem ss_dkCell {L R : Type} [Enc R] {Gl : L → List Sl} {m n : M Dk Int} {j0 : Nat} {q1 q2 q3 : Pos} (h : G[j]? = some (.raw (.ref (rootA k)))) (hb : EV Xs (fmA k) G e m) (hi : EV Xs (fmA k) G b n) (hN : ∀ i, (Xs i).N[j]? = some x := by intro _; rfl)
    (hv : ∀ i, Vis (Xs i).env.scope x := by first | exact fun _ => Or.inl rfl | exact fun _ => Or.inr (Or.inl rfl) | exact fun _ => Or.inr (Or.inr rfl))
    (hd : (x == ("__debug__" : Str)) = false := by decide) (hcd : (x == ("__classdict__" : Str)) = false := by decide)
    (hs : ∀ i, swapsWithSole [.Subscript (.Subscript (.Name x p) (.Constant (.int 0) j0 q1) q2) b q3] e pos.line (Xs i).env = pure false := by intro _; rfl)
    (hw : ∀ i, swappedStores [.Subscript (.Subscript (.Name x p) (.Constant (.int 0) j0 q1) q2) b q3] e (Xs i).env = pure none := by intro _; rfl)
    (h1 : ∀ i, (assignEach [.Subscript (.Subscript (.Name x p) (.Constant (.int 0) j0 q1) q2) b q3] (Xs i).env).map (·.2) = [assign (.Subscript (.Subscript (.Name x p) (.Constant (.int 0) j0 q1) q2) b q3) (Xs i).env] := by intro _; rfl) (hK : ∀ i, (Xs i).K = K := by intro _; rfl)
    (hz : ∀ i v, assign (.Subscript (.Subscript (.Name x p) (.Constant (.int 0) j0 q1) q2) b q3) (Xs i).env v = (do
      let ov ← holding [v] (eval (.Subscript (.Name x p) (.Constant (.int 0) j0 q1) q2) (Xs i).env)
      let iv ← holding [v, ov] (eval b (Xs i).env)
      standAt q3
      holding [v, ov, iv] (setItem ov iv v)
      release [v, ov, iv] []) := by intro _ _; rfl) :
    SS (R := R) (L := L) Xs (fmA k) G (.Assign [.Subscript (.Subscript (.Name x p) (.Constant (.int 0) j0 q1) q2) b q3] e pos) (bindM m fun y => bindM n fun i => bindM (dkSetCell i y) fun _ => pureM (.nx ())) (fun _ => G) Gl := by
  obtain ⟨te, hp, ho⟩ := hb
  obtain ⟨ti, hq, hoi⟩ := hi
  refine ⟨tAsg te (gSub (tOp (rIxL K) (tVar j) (tC (.int 0))) ti rSetL), fun i => ps_asg (hp i) (pg_sub (by rw [← hK i]; exact pe_ix ix_list (pe_var (hN i) (hv i) hd hcd) pe_int (fun _ _ => rfl)) (hq i) set_list (hz i)) (hs i) (hw i) (h1 i), fun Zx t H s r s' g hm D q => ?_⟩
  obtain ⟨z, s1, e1, e2⟩ := bind_some hm
  obtain ⟨y, s2, e3, e4⟩ := bind_some e2
  obtain ⟨u, s3, e5, e6⟩ := bind_some e4
  obtain ⟨rfl, rfl⟩ := pure_eq e6
  refine ho Zx t H s z s1 g e1 _ fun v H1 g1 f1 r1 => ?_
  obtain rfl := r1.toInt
  refine ⟨_, g1.raw h, k.d, _, 0, .ref k.c, rfl, rfl, SqL.of g1.at_.1, rfl, ?_⟩
  refine hoi Zx t H1 s1 y s2 g1 e3 _ fun v2 H2 g2 f2 r2 => ?_
  obtain rfl := r2.toInt
  unfold dkSetCell at e5
  cases e : ixN s2.cells.length y with
  | none =>
    rw [e] at e5
    cases e5
  | some w =>
    rw [e] at e5
    cases e5
    refine ⟨k.c, _, y, w, rfl, rfl, g2.at_.2, by rw [List.length_map]; exact e, ?_⟩
    have fx : Fix (fmA k) H2 (upd H2 k.c (.lst ((s2.cells.map V.int).set w (.int z)))) := fun b o z' h' => by
      rw [upd_ne (fun w => z' (.inr w))]
      exact h'
    exact q t _ (g2.fix fx ⟨by rw [upd_ne k.ne]; exact g2.at_.1, by rw [upd_same, List.map_set]⟩) (Stp.fix ((f1.trans f2).trans fx))
end
section
variable {A U S T : Type} [Enc A] {P : Program} {w : World} {K : PySem.W.Frag} {mg : Str → Option Value} {base : Heap}
theorem noOwn_all {G : List Sl} {t : St} (h : ∀ l ∈ G, ∀ d, l ≠ .own d) (b : Addr) : ¬ Own G t b := fun ⟨i, d, z, _⟩ => h _ (List.mem_of_getElem? z) d rfl
/-- a def whose first argument is the deck -/
theorem defD {Fm_ : T → Fm S} {root : T → Addr} {x : Str} {st : Stmt} {f : Addr} {fd : FuncData} {N ps : List Str} {k : Nat} {en : U → List PyData} {m : U → M S (Fl Unit Empty A)} {no : Option A} (F : Fun K x x st f fd) (Sc : FnScope N ps (defScope st)) (hg : mg x = some (.ref f)) (hb : Binds K fd ps [])
    (hen : ∀ u, (en u).length + 1 = ps.length) (hno : ∀ r, no = some r → enc r = PyData.none)
    (hbody : ∀ (cdv : Value) (A : Around) (outer : List Env) (s : Shared) (H : Hp) (E : XK), Room k (A.deeper (PyProof.Rows.envOfC x (defScope st) s.heap.objs.size f cdv)) → A.guards = some [] → ∀ (d : T) u,
      ∃ Gn, SV (fun _ : Unit => (cxOf CX0 P w K mg base N x (defScope st) f cdv A outer s H E).nox) (Fm_ d) (.raw (.ref (root d)) :: ((en u).map .dat ++ List.replicate (N.length - ((en u).length + 1)) .un)) (defBody st) (m u) Gn (fun z => z.elim)) :
    DefG P w K mg base CX0 (k + 1) x ps (spD Fm_ root en fun u => retM no (m u)) := by
  refine ⟨f, fd, Fun.okG F Sc (fun vs H Q E ⟨d, Z, u, r, s, s', ws, e, _, _, hr, _⟩ => by rw [e, List.length_cons, hr.len, hen]) (fun cdv A outer sh H vs Q E hr hgd hsp => ?_), hg, F.kp, hb⟩
  obtain ⟨d, Zx, u, r, s, s', ws, rfl, hat, htr, hrp, hf, q⟩ := hsp
  have noo : ∀ l ∈ (Sl.raw (.ref (root d)) :: ((en u).map Sl.dat ++ List.replicate (N.length - ((en u).length + 1)) .un)), ∀ e, l ≠ .own e := fun l hl e z => by
    subst z
    rcases List.mem_cons.mp hl with y | y
    · cases y
    · rcases List.mem_append.mp y with y | y
      · obtain ⟨_, _, y⟩ := List.mem_map.mp y
        cases y
      · have := List.eq_of_mem_replicate y
        cases this
  have hl := hrp.len
  have est : L2.start N (.ref (root d) :: ws) = some (.ref (root d)) :: (ws.map some ++ List.replicate (N.length - ((en u).length + 1)) none) := by
    unfold L2.start
    rw [List.map_cons, List.cons_append, List.length_cons, hl]
  have g0 : Gd (Fm_ d) Zx (.raw (.ref (root d)) :: ((en u).map .dat ++ List.replicate (N.length - ((en u).length + 1)) .un)) s (L2.start N (.ref (root d) :: ws)) H := by
    have nOwn := fun b => noOwn_all (t := L2.start N (.ref (root d) :: ws)) noo b
    refine ⟨?_, hat, htr, fun i l o h1 h2 => ?_, fun i j e1 e2 p h1 => absurd rfl (noo _ (List.mem_of_getElem? h1) e1), fun p z => absurd z (nOwn p)⟩
    · rw [est]
      simp only [List.length_cons, List.length_append, List.length_map, List.length_replicate, hl]
    · rw [est] at h2
      cases i with
      | zero =>
        cases h1
        cases h2
        rfl
      | succ i =>
        rw [List.getElem?_cons_succ, List.getElem?_append] at h1 h2
        rw [List.length_map] at h1 h2
        rw [hl] at h2
        by_cases hi : i < (en u).length
        · rw [if_pos hi, List.getElem?_map] at h1 h2
          cases e : (en u)[i]? with
          | none =>
            rw [e] at h1
            cases h1
          | some y =>
            rw [e] at h1
            cases h1
            obtain ⟨v, hv, rv⟩ := hrp.get e
            rw [hv] at h2
            cases h2
            exact ⟨v, rfl, rv.ext (Ext.less fun b z => by
              rcases z with z | z | z
              · exact .inl z
              · exact .inr z
              · exact absurd z (nOwn b))⟩
        · rw [if_neg hi] at h1
          have := List.eq_of_mem_replicate (List.mem_of_getElem? h1)
          subst this
          trivial
  obtain ⟨fl, s2, h1, h2⟩ := bind_some hf
  have nOwn := fun b => noOwn_all (t := L2.start N (.ref (root d) :: ws)) noo b
  obtain ⟨Gn, ts, hp, ho⟩ := hbody cdv A outer sh H E hr hgd d u
  refine ⟨ts, (hp ()).nox, ho Zx _ H s fl s2 g0 h1 _ ?_⟩
  cases fl with
  | rt r' =>
    obtain ⟨rfl, rfl⟩ := pure_eq h2
    exact fun v H' a5 k5 rv => q v H' a5 (fun b o z e => k5 b o z (nOwn b) e) rv
  | nx b =>
    obtain ⟨h3, rfl⟩ := ofO_eq h2
    refine fun t' H' g' st' => q .non H' g'.at_ (fun b o z e => st'.1 b o z (nOwn b) e) ?_
    rw [hno _ h3]
    exact .non
  | bk z => exact z.elim
  | ct z => exact z.elim
end
end PL

namespace PL
open PySem L2 Enc
/-- the script in a slot -/
def scrF (K : PySem.W.Frag) (ns : List Int) (Z : Addr → Prop) (H : Hp) (v : V) : Prop := ∃ a, v = .ref a ∧ ((¬ Z a ∧ ∃ o, H a = some (.frz o (.lst (ns.map V.int)))) ∨
  ∃ (o : Obj) (its : Array Value) (n : Nat), K.lookup a = some o ∧ o.cls = .type "list" ∧ o.dict = none ∧ o.data = .seq its n ∧ its.size ≤ sizeLine ∧ Vals (ns.map V.int) its.toList)
theorem scrF_ext {K : PySem.W.Frag} {ns : List Int} : ∀ Z H Z' H' v, Ext Z H Z' H' → scrF K ns Z H v → scrF K ns Z' H' v := fun Z H Z' H' v e ⟨a, h, r⟩ =>
  ⟨a, h, r.imp (fun ⟨n, o, q⟩ => ⟨e.not n q, o, e.1 _ _ n q⟩) id⟩
abbrev slScr (K : PySem.W.Frag) (ns : List Int) : Sl := .ext (scrF K ns) scrF_ext
theorem scrF_sq {K : PySem.W.Frag} {ns : List Int} {Z : Addr → Prop} {H : Hp} {v : V} (h : scrF K ns Z H v) : ∃ a, v = .ref a ∧ SqL K H a (ns.map V.int) := by
  obtain ⟨a, e, h | h⟩ := h
  · obtain ⟨_, o, h⟩ := h
    exact ⟨a, e, .inl (.inr ⟨o, h⟩)⟩
  · exact ⟨a, e, .inr h⟩
section
variable {I S : Type} {F : Fm S} {Xs : I → Cx} {G : List Sl} {pos p p2 : Pos} {a b c e : Expr} {x : Str} {j : Nat} {K : PySem.W.Frag} {ns : List Int}
theorem Gd.scr {Zx : Addr → Prop} {s : S} {t : St} {H : Hp} (g : Gd F Zx G s t H) (h : G[j]? = some (slScr K ns)) : ∃ v, t[j]? = some (some v) ∧ scrF K ns (ZF F Zx G t) H v := by
  obtain ⟨hk, _⟩ := List.getElem?_eq_some_iff.mp h
  have hk' : j < t.length := by
    rw [g.len]
    exact hk
  have ht : t[j]? = some (t[j]'hk') := List.getElem?_eq_getElem hk'
  obtain ⟨v, e, r⟩ := g.slot j _ _ h ht
  exact ⟨v, by rw [ht, e], r⟩
/-- script[:n] -/
theorem ev_scrCut {n : Nat} {j0 : Nat} {q1 : Pos} (h : G[j]? = some (slScr K ns)) (hN : ∀ i, (Xs i).N[j]? = some x := by intro _; rfl)
    (hv : ∀ i, Vis (Xs i).env.scope x := by first | exact fun _ => Or.inl rfl | exact fun _ => Or.inr (Or.inl rfl) | exact fun _ => Or.inr (Or.inr rfl))
    (hd : (x == ("__debug__" : Str)) = false := by decide) (hcd : (x == ("__classdict__" : Str)) = false := by decide) (hK : ∀ i, (Xs i).K = K := by intro _; rfl) :
    EV Xs F G (.Subscript (.Name x p) (.Slice none (some (.Constant (.int (n : Int)) j0 q1)) none p2) pos) (pureM (ns.take n)) := by
  refine ⟨tSl (rSlL K) (tVar j) tNoPart (tPart (tC (.int (n : Int)))), fun i => by rw [← hK i]; exact pe_slice sl_list (pe_var (hN i) (hv i) hd hcd) po_none (po_some pe_int), fun Zx t H s y s' g hm Q q => ?_⟩
  obtain ⟨rfl, rfl⟩ := pure_eq hm
  obtain ⟨v, hv1, r⟩ := g.scr h
  obtain ⟨a, rfl, hs⟩ := scrF_sq r
  refine ⟨_, hv1, (n : Int), rfl, a, _, rfl, hs, fun pn hn => ?_⟩
  have ec : cutV (ns.map V.int) none (some (n : Int)) = (ns.take n).map V.int := by
    unfold cutV
    rw [HT.sIx_none, HT.sIx_nat, List.drop_zero, Nat.sub_zero, List.map_take]
    rw [List.length_map]
    by_cases hl : n ≤ ns.length
    · rw [Nat.min_eq_left hl]
    · rw [Nat.min_eq_right (by omega), List.take_of_length_le (by rw [List.length_map]; omega), List.take_of_length_le (by rw [List.length_map]; omega)]
  rw [ec]
  have sm : Same H (upd H pn (.lst ((ns.take n).map V.int))) := same_new hn
  exact q _ _ (g.same sm) (Fix.same sm) (.lst (g.new hn) upd_same (RpL.of_ints _))
theorem ev_scrLen (hm : ∀ i, (Xs i).mg "len" = none) (h : G[j]? = some (slScr K ns)) (hN : ∀ i, (Xs i).N[j]? = some x := by intro _; rfl)
    (hv : ∀ i, Vis (Xs i).env.scope x := by first | exact fun _ => Or.inl rfl | exact fun _ => Or.inr (Or.inl rfl) | exact fun _ => Or.inr (Or.inr rfl))
    (hd : (x == ("__debug__" : Str)) = false := by decide) (hcd : (x == ("__classdict__" : Str)) = false := by decide) (hg : ∀ i, Gl (Xs i) "len" := by intro _; rfl)
    (he : ∀ i, starEach [.Name x p] (Xs i).env = (false, eval (.Name x p) (Xs i).env) :: starEach [] (Xs i).env := by intro _; rfl) (hK : ∀ i, (Xs i).K = K := by intro _; rfl) :
    EV Xs F G (.Call (.Name "len" p2) [.Name x p] [] pos) (pureM (ns.length : Int)) := by
  refine ⟨tCB (fun xs H Q => ∃ p ys, xs = [.ref p] ∧ (SqL K H p ys ∨ SqT K H p ys) ∧ Q (.int ys.length) H) (tCons (tVar j) tNil), fun i => by
    rw [← hK i]
    exact pe_callB call_len_seq (hg i) (hm i) bb_len (pa_cons (pe_var (hN i) (hv i) hd hcd) pa_nil (he i)) (by decide) (by decide) (he i) rfl, fun Zx t H s y s' g hm' Q q => ?_⟩
  obtain ⟨rfl, rfl⟩ := pure_eq hm'
  obtain ⟨v, hv1, r⟩ := g.scr h
  obtain ⟨a, rfl, hs⟩ := scrF_sq r
  refine ⟨_, hv1, a, _, rfl, .inl hs, ?_⟩
  rw [List.length_map]
  exact q _ H g (Fix.refl H) (.int _)
end
section
variable {S T : Type} {P : Program} {w : World} {K : PySem.W.Frag} {mg : Str → Option Value} {base : Heap}
/-- a def of the script that hands back new data -/
def spMk (K : PySem.W.Frag) (f : List Int → Option PyData) : Sp := fun vs H Q _ => ∃ (a : Addr) (ns : List Int) (d : PyData), vs = [.ref a] ∧ scrF K ns (fun _ => False) H (.ref a) ∧ ns.length ≤ 63 ∧ f ns = some d ∧
  ∀ v H', Same H H' → Rp (fun b => H b ≠ none ∧ b ≠ a) H' v d → Q v H'
theorem defMk {x y : Str} {st : Stmt} {f : Addr} {fd : FuncData} {N : List Str} {k : Nat} {m : List Int → M Unit (Fl Unit Empty PyData)} (F : Fun K x x st f fd) (Sc : FnScope N [y] (defScope st)) (hg : mg x = some (.ref f)) (hb : Binds K fd [y] [])
    (hbody : ∀ (cdv : Value) (A : Around) (outer : List Env) (s : Shared) (H : Hp) (E : XK), Room k (A.deeper (PyProof.Rows.envOfC x (defScope st) s.heap.objs.size f cdv)) → A.guards = some [] → ∀ ns : List Int,
      ∃ Gn, SV (fun _ : Unit => (cxOf CX0 P w K mg base N x (defScope st) f cdv A outer s H E).nox) fm0 (slScr K ns :: List.replicate (N.length - 1) .un) (defBody st) (m ns) Gn (fun z => z.elim)) :
    DefG P w K mg base CX0 (k + 1) x [y] (spMk K fun ns => (retM none (m ns) ()).map (·.1)) := by
  refine ⟨f, fd, Fun.okG F Sc (fun vs H Q E ⟨a, ns, d, e, _⟩ => by rw [e]; rfl) (fun cdv A outer sh H vs Q E hr hgd hsp => ?_), hg, F.kp, hb⟩
  obtain ⟨a, ns, d, rfl, hscr, hlen, hf, q⟩ := hsp
  have noo : ∀ l ∈ (slScr K ns :: List.replicate (N.length - 1) .un), ∀ e, l ≠ .own e := fun l hl e z => by
    subst z
    rcases List.mem_cons.mp hl with y | y
    · cases y
    · have := List.eq_of_mem_replicate y
      cases this
  have nOwn := fun b => noOwn_all (t := L2.start N [.ref a]) noo b
  have g0 : Gd fm0 (fun b => H b ≠ none ∧ b ≠ a) (slScr K ns :: List.replicate (N.length - 1) .un) () (L2.start N [.ref a]) H := by
    refine ⟨?_, trivial, fun b z => z.1, fun i l o h1 h2 => ?_, fun i j e1 e2 p h1 => absurd rfl (noo _ (List.mem_of_getElem? h1) e1), fun p z => absurd z (nOwn p)⟩
    · unfold L2.start
      simp only [List.length_cons, List.length_append, List.length_map, List.length_replicate, List.length_nil]
      omega
    · have h2' : (some (V.ref a) :: List.replicate (N.length - 1) none)[i]? = some o := h2
      cases i with
      | zero =>
        cases h1
        cases h2'
        refine ⟨.ref a, rfl, a, rfl, ?_⟩
        obtain ⟨a', e, h | h⟩ := hscr
        · cases e
          refine .inl ⟨fun z => ?_, h.2⟩
          rcases z with z | z | z
          · exact z
          · exact z.2 rfl
          · exact nOwn _ z
        · cases e
          exact .inr h
      | succ i =>
        rw [List.getElem?_cons_succ] at h1
        have := List.eq_of_mem_replicate (List.mem_of_getElem? h1)
        subst this
        trivial
  replace hf : (retM none (m ns) ()).map (·.1) = some d := hf
  have hm : ∃ s1, retM none (m ns) () = some (d, s1) := by
    cases e : retM none (m ns) () with
    | none =>
      rw [e] at hf
      cases hf
    | some p =>
      rw [e] at hf
      cases hf
      exact ⟨p.2, rfl⟩
  obtain ⟨s1, hm⟩ := hm
  obtain ⟨fl, s2, h1, h2⟩ := bind_some hm
  obtain ⟨Gn, ts, hp, ho⟩ := hbody cdv A outer sh H E hr hgd ns
  refine ⟨ts, (hp ()).nox, ho _ _ H () fl s2 g0 h1 _ ?_⟩
  cases fl with
  | rt r' =>
    obtain ⟨rfl, rfl⟩ := pure_eq h2
    exact fun v H' _ k5 rv => q v H' (fun b o e => k5 b o (fun z => z) (nOwn b) e) (rv.ext (Ext.less fun b z => .inr z))
  | nx b =>
    obtain ⟨h3, _⟩ := ofO_eq h2
    cases h3
  | bk z => exact z.elim
  | ct z => exact z.elim
/-- what is asked of a law -/
def spLaw (K : PySem.W.Frag) : Sp := fun vs H Q _ => ∃ (a : Addr) (ns : List Int), vs = [.ref a] ∧ Only H ∧ SqL K H a (ns.map V.int) ∧ ns.length ≤ 63 ∧ ∀ H', Q (.bl true) H'
theorem only_scr {H : Hp} {a : Addr} {ns : List Int} (h : Only H) (s : SqL K H a (ns.map V.int)) : scrF K ns (fun _ => False) H (.ref a) := by
  rcases s with (s | ⟨o, s⟩) | s
  · rcases h a with z | ⟨o, xs, z⟩
    · rw [z] at s
      cases s
    · rw [z] at s
      cases s
  · exact ⟨a, rfl, .inl ⟨id, o, s⟩⟩
  · exact ⟨a, rfl, .inr s⟩
/-- the law's def: its first statement makes the deck, the rest is a function of the deck -/
theorem defLaw {Fm_ : T → Fm S} {root : T → Addr} {init : List Int → S} {mk : List Int → Option PyData} {xd y z : Str} {st : Stmt} {f : Addr} {fd : FuncData} {N : List Str} {k j : Nat} {m : M S (Fl Unit Empty Bool)} {py p1 p2 p3 p4 : Pos} {rest : List Stmt}
    (F : Fun K "law" "law" st f fd) (Sc : FnScope N [y] (defScope st)) (D : DefG P w K mg base CX0 k xd [y] (spMk K mk)) (hbd : defBody st = .Assign [.Name z py] (.Call (.Name xd p1) [.Name y p2] [] p3) p4 :: rest)
    (hmk : ∀ (ns : List Int) (Z : Addr → Prop) (H' : Hp) (v : V) (d : PyData), mk ns = some d → Rp Z H' v d → ∃ t, v = .ref (root t) ∧ (Fm_ t).at_ (init ns) H')
    (hmk2 : ∀ ns, ∃ d, mk ns = some d) (hj : N[j]? = some z) (hj0 : j ≠ 0) (hN0 : N[0]? = some y)
    (hpe : ∀ (cdv : Value) (A : Around) (outer : List Env) (s : Shared) (H : Hp) (E : XK) {sp E' t}, PE (cxOf CX0 P w K mg base N "law" (defScope st) f cdv A outer s H E).nox (.Call (.Name xd p1) [.Name y p2] [] p3) (tCall sp [] E' t) →
      PS (cxOf CX0 P w K mg base N "law" (defScope st) f cdv A outer s H E).nox (.Assign [.Name z py] (.Call (.Name xd p1) [.Name y p2] [] p3) p4) (tAsg (tCall sp [] E' t) (gName j)))
    (hpv : ∀ (cdv : Value) (A : Around) (outer : List Env) (s : Shared) (H : Hp) (E : XK), PA (cxOf CX0 P w K mg base N "law" (defScope st) f cdv A outer s H E).nox [.Name y p2] (tCons (tVar 0) tNil))
    (hgl : ∀ (cdv : Value) (A : Around) (outer : List Env) (s : Shared) (H : Hp) (E : XK), Gl (cxOf CX0 P w K mg base N "law" (defScope st) f cdv A outer s H E).nox xd) (hdb : (xd == ("__debug__" : Str)) = false)
    (hrest : ∀ (cdv : Value) (A : Around) (outer : List Env) (s : Shared) (H : Hp) (E : XK), Room k (A.deeper (PyProof.Rows.envOfC "law" (defScope st) s.heap.objs.size f cdv)) → A.guards = some [] → ∀ t : T,
      ∃ Gn, SV (fun _ : Unit => (cxOf CX0 P w K mg base N "law" (defScope st) f cdv A outer s H E).nox) (Fm_ t) ((List.replicate N.length .un).set j (.raw (.ref (root t)))) rest m Gn (fun z => z.elim))
    (hm : ∀ ns : List Int, ns.length ≤ 63 → ∃ s', retM none m (init ns) = some (true, s')) : FnG P w K mg base CX0 (k + 1) f fd [y] (spLaw K) := by
  refine Fun.okG F Sc (fun vs H Q E ⟨a, ns, e, _⟩ => by rw [e]; rfl) (fun cdv A outer sh H vs Q E hr hgd hsp => ?_)
  obtain ⟨a, ns, rfl, ho, hs, hlen, q⟩ := hsp
  obtain ⟨s', hm⟩ := hm ns hlen
  obtain ⟨fl, s2, h1, h2⟩ := bind_some hm
  have hrest' := fun t => hrest cdv A outer sh H E hr hgd t
  have hN : j < N.length := (List.getElem?_eq_some_iff.mp hj).1
  rw [hbd]
  have hU : ∀ t, TSok (Fm_ t) ((List.replicate N.length .un).set j (.raw (.ref (root t)))) (tsU (fun _ : Unit => (cxOf CX0 P w K mg base N "law" (defScope st) f cdv A outer sh H E).nox) rest) m (fun _ : Unit => (Classical.choose (hrest' t)) ()) (fun z : Empty => z.elim) := fun t => (Classical.choose_spec (hrest' t)).uni
  refine ⟨tSeq (tAsg (tCall (spMk K mk) [] E0 (tCons (tVar 0) tNil)) (gName j)) (tsU (fun _ : Unit => (cxOf CX0 P w K mg base N "law" (defScope st) f cdv A outer sh H E).nox) rest), (pss_cons (hpe cdv A outer sh H E (pe_callG D hr hgd (hgl cdv A outer sh H E) pass0 (hpv cdv A outer sh H E) hdb rfl rfl)) (tsU_ps (Xs := fun _ : Unit => (cxOf CX0 P w K mg base N "law" (defScope st) f cdv A outer sh H E).nox) ())).nox, ?_⟩
  refine ⟨.ref a, ?_, ?_⟩
  · show (some (V.ref a) :: List.replicate (N.length - 1) none)[0]? = _
    rfl
  obtain ⟨d, hd⟩ := hmk2 ns
  refine ⟨a, ns, d, rfl, only_scr ho hs, hlen, hd, fun v H1 sm rv => ?_⟩
  obtain ⟨td, rfl, hat⟩ := hmk ns _ H1 v d hd rv
  have noo : ∀ l ∈ (List.replicate N.length Sl.un).set j (.raw (.ref (root td))), ∀ e, l ≠ .own e := fun l hl e z => by
    subst z
    rcases List.mem_or_eq_of_mem_set hl with y | y
    · have := List.eq_of_mem_replicate y
      cases this
    · cases y
  have nOwn := fun b => noOwn_all (t := (L2.start N [V.ref a]).set j (some (.ref (root td)))) noo b
  have lst : (L2.start N [V.ref a]).length = N.length := by
    unfold L2.start
    simp only [List.length_append, List.length_map, List.length_replicate, List.length_cons, List.length_nil]
    omega
  have g0 : Gd (Fm_ td) (fun _ => False) ((List.replicate N.length .un).set j (.raw (.ref (root td)))) (init ns) ((L2.start N [V.ref a]).set j (some (.ref (root td)))) H1 := by
    refine ⟨by rw [List.length_set, List.length_set, List.length_replicate, lst], hat, fun b z => z.elim, fun i l o e1 e2 => ?_, fun i j e1 e2 p e3 => absurd rfl (noo _ (List.mem_of_getElem? e3) e1), fun p z => absurd z (nOwn p)⟩
    by_cases hi : j = i
    · subst hi
      rw [List.getElem?_set, if_pos rfl, if_pos (by rw [List.length_replicate]; exact hN)] at e1
      rw [List.getElem?_set, if_pos rfl, if_pos (by rw [lst]; exact hN)] at e2
      cases e1
      cases e2
      rfl
    · rw [List.getElem?_set_ne hi] at e1
      have := List.eq_of_mem_replicate (List.mem_of_getElem? e1)
      subst this
      trivial
  refine hU td _ _ H1 (init ns) fl s2 g0 h1 _ ?_
  cases fl with
  | rt r' =>
    obtain ⟨rfl, rfl⟩ := pure_eq h2
    exact fun v H' _ k5 rv => by
      obtain rfl := rv.bool
      exact q H'
  | nx b =>
    obtain ⟨h3, _⟩ := ofO_eq h2
    cases h3
  | bk z => exact z.elim
  | ct z => exact z.elim
end
section
theorem lawG {P : Program} {w : World} {K : PySem.W.Frag} {mg mb : Str → Option Value} {k : Nat} {fa a : Addr} {fd : FuncData} {x : Str} {s1 : Shared} {vs : List Value} {ns : List Int}
    (KX : K.In s1.heap) (hns : s1.heap.Ns mainGlobals mg) (hb : s1.heap.Ns builtinsNs mb) (hbb : ∀ x : Str, x ≠ "__name__" → mb x = bootBuiltins x) (hlim : s1.heap.NoLimit) (hg : s1.gens = #[])
    (ha : s1.heap.get? a = some { cls := .type "list", data := .seq vs.toArray }) (hi : PyProof.Rows.IntsAre vs ns) (hl : ns.length ≤ 63) (hr : Room k callerA)
    (F : ∀ base : Heap, K.In base → base.Ns mainGlobals mg → FnG P w K mg base CX0 k fa fd [x] (spLaw K)) (hbind : ∀ (s : Shared) (u : Value), BindsTo s fd ⟨[u], []⟩ [(x, u)]) :
    codeAny (model P w) callerA (.call (.ref fa) ⟨[.ref a], []⟩) (fun r s' => r = .ok (.ret (.bool true)) ∧ PySem.OldK s1.heap s'.heap ∧ s'.os = s1.os ∧ PyProof.Rows.AllBare s'.gens) s1 := by
  have rv := vals_ints hi
  have lenV := hi.length
  have hline : ns.length ≤ sizeLine := Nat.le_trans hl (by rw [sizeLine_eq]; decide)
  -- from an abstract heap in which at most the script is tracked
  have core : ∀ H : Hp, Only H → SqL K H a (ns.map V.int) → HOk P w H s1.heap → (∀ b, H b ≠ none → b = a) → (H a ≠ none → K.lookup a = none) →
      codeAny (model P w) callerA (.call (.ref fa) ⟨[.ref a], []⟩) (fun r s' => r = .ok (.ret (.bool true)) ∧ PySem.OldK s1.heap s'.heap ∧ s'.os = s1.os ∧ PyProof.Rows.AllBare s'.gens) s1 := by
    intro H hO hS hok hA hK
    have noA : ∀ {b : Addr} {o : Obj} {es : Array DictEntry} {ep : Nat}, s1.heap.get? b = some o → o.data = .dict es ep → H b = none := fun {b o es ep} e d => by
      cases q : H b with
      | none => rfl
      | some u =>
        obtain rfl : b = a := hA b (by rw [q]; intro z; cases z)
        rw [ha] at e
        cases e
        have d' : Data.seq vs.toArray _ = Data.dict es ep := d
        cases d'
    have nsK : ∀ {b : Addr} {m : Str → Option Value}, s1.heap.Ns b m → (hidT s1.heap H).Ns b m := fun {b m} ⟨o, es, ep, e, d, r⟩ => ⟨o, es, ep, hidT_get e (noA e d), d, r⟩
    have hKb : K.In (hidT s1.heap H) := fun b o e => hidT_get (KX b o e) (by
      cases q : H b with
      | none => rfl
      | some u =>
        obtain rfl : b = a := hA b (by rw [q]; intro z; cases z)
        rw [hK (by rw [q]; intro z; cases z)] at e
        cases e)
    have hM : Mod K mg (hidT s1.heap H) := ⟨hKb, nsK hns, ⟨mb, nsK hb, hbb⟩, let ⟨mc, q1, q2⟩ := hlim; ⟨mc, nsK q1, q2⟩⟩
    have e0 : Env0 P w K mg (hidT s1.heap H) callerA [] s1 H := ⟨rfl, hM, fun b o e => of_hidT e, Nat.le_of_eq (hidT_size _ _), trivial, fun b hb => absurd (show b ∈ ([] : List Addr) from hb) List.not_mem_nil, hok, .of_eq hg⟩
    refine codeAny_mono ((F _ hKb (nsK hns)).run callerA [] s1 H ⟨[.ref a], []⟩ [.ref a] [.ref a] (fun v _ => v = .bl true) (fun _ _ _ => False) hr rfl e0 (hbind s1 (.ref a)) (.cons rfl .nil) ⟨a, ns, rfl, hO, hS, hl, fun _ => rfl⟩) fun r s' h => ?_
    cases r with
    | error e => exact h.elim
    | ok fl =>
      cases fl with
      | next => exact h.elim
      | brk => exact h.elim
      | cont => exact h.elim
      | ret u =>
        obtain ⟨v, H', os, bare, un, hok', r', q⟩ := h
        have q' : v = .bl true := q
        subst q'
        obtain rfl : u = Value.bool true := r'
        refine ⟨rfl, PySem.OldK.of_keep fun b o e => ?_, os, bare⟩
        cases q : H b with
        | none => exact un.keep b o e q (fun z => absurd (show b ∈ ([] : List Addr) from z) List.not_mem_nil) List.not_mem_nil
        | some u =>
          rcases hO b with z | ⟨ob, xs, z⟩
          · rw [q] at z
            cases z
          · obtain ⟨e1, _⟩ := hok b _ z
            obtain ⟨e2, _⟩ := hok' b _ (un.frzs b ob _ z)
            rw [e] at e1
            cases e1
            exact e2
  cases hk : K.lookup a with
  | some o =>
    have e := KX a o hk
    rw [ha] at e
    cases e
    refine core (fun _ => none) (fun _ => .inl rfl) (.inr ⟨_, vs.toArray, _, hk, rfl, rfl, rfl, by rw [List.size_toArray, lenV]; exact hline, by simpa using rv⟩) (fun b u z => by
      have z' : (none : Option HO) = some u := z
      cases z') (fun b z => absurd rfl z) fun z => absurd rfl z
  | none =>
    refine core (fun b => if b = a then some (.frz { cls := .type "list", data := .seq vs.toArray } (.lst (ns.map V.int))) else none) (fun b => ?_) (.inl (.inr ⟨{ cls := .type "list", data := .seq vs.toArray }, if_pos rfl⟩)) (fun b u z => ?_) (fun b z => ?_) fun _ => hk
    · by_cases hb : b = a
      · exact .inr ⟨_, _, if_pos hb⟩
      · exact .inl (if_neg hb)
    · by_cases hb : b = a
      · have z' := (if_pos hb).symm.trans z
        cases z'
        subst hb
        exact ⟨ha, by rw [List.length_map]; exact hline, vs, _, rv, ha⟩
      · have z' := (if_neg hb).symm.trans z
        cases z'
    · by_cases hb : b = a
      · exact hb
      · exact absurd (if_neg hb) z
/-- the goal that the head leaves, from the law's promise -/
theorem walkG {l : PySem.W.OpenLaw} {k : Nat} {q : Program} {loose : List Str} {XP : (Str → Option Value) → Heap → Prop} {YP : World → Heap → Prop} {d : DefRec} {K : PySem.Params → PySem.W.Frag} {x : Str}
    (hn : l.most = some 63) (hdf : d.params.defaults = []) (hr : Room k callerA) (hY : ∀ (w : World) (h : Heap), YP w h → (K w.params).In h)
    (F : ∀ (w : World) (mg : Str → Option Value) (fa : Addr) (h : Heap), (K w.params).In h → h.Ns mainGlobals mg → mg d.name = some (.ref fa) →
      ∃ fd : FuncData, (∀ (s : Shared) (u : Value), BindsTo s fd ⟨[u], []⟩ [(x, u)]) ∧
        ∀ base : Heap, (K w.params).In base → base.Ns mainGlobals mg → FnG l.prog w (K w.params) mg base CX0 k fa fd [x] (spLaw (K w.params))) :
    PySem.W.WalkO q loose XP YP l.row.toRowW d [] (fun f vs => PySem.call f vs) := by
  refine Att.attach_call hn hdf fun w s0 s1 mg mb fa o pm cd doc a vs ns G Y ho hd hcd hmg hobj hints hlen hg => ?_
  have KX := hY w _ Y
  obtain ⟨fd, hb, hF⟩ := F w mg fa _ KX G.T.g hmg
  exact lawG KX G.T.g G.T.b G.T.builtins G.T.nolimit hg hobj hints hlen hr hF hb
end
end PL

namespace PL
open PySem L2 Enc
section
variable {I S A B C U : Type} [Enc A] [Enc B] [Enc C] {Xs : I → Cx} {F : Fm S} {G : List Sl} {pos p p2 : Pos} {e a b c tg iter : Expr} {es : List Expr} {K : PySem.W.Frag} {x y z : Str}
def repOk (d : PyData) : Prop := d.showable = true ∧ d.canLay0 = true ∧ d.depth ≤ 60 ∧ d.shown.length ≤ 16777216
instance (d : PyData) : Decidable (repOk d) := inferInstanceAs (Decidable (_ ∧ _ ∧ _ ∧ _))
def rRepr (K : PySem.W.Frag) : List V → Hp → VK → Prop := fun vs H Q => ∃ (v : V) (d : PyData), vs = [v] ∧ Dp K H v d ∧ repOk d ∧ Q (.str d.shown) H
theorem cr_repr {X : Cx} {k : Nat} (hr : Room k X.A) (hg : X.A.guards = some []) : CallR X (.builtin "repr") (rRepr X.K) := by
  intro pins s st H vs us Q J r h
  obtain ⟨v, d, rfl, hd, ⟨h1, h2, h3, h4⟩, q⟩ := h
  obtain ⟨u, rfl, ru⟩ := vals1 r
  have hz : d.shown.length ≤ sizeLine := by
    rw [sizeLine_eq]
    exact h4
  have hu := hr.units
  obtain ⟨as, rd⟩ := Dp.reads J d v u hd ru
  have two : ∀ {a : Addr}, u = .ref a → wpAny (model X.prog X.w) X.A (call (.builtin "repr") [u]) (L2.EP X pins st Q) X.xe s := fun {a} e => by
    subst e
    exact repr_of_reads' rd h1 (PyData.noDict_hsm (PyData.hasDict_of_canLay d h2)) hg (by omega) (fun b o q => q) (fun h' t tk hk => ⟨.str d.shown, H, J.kept hk, ⟨_, rfl⟩, q⟩) hz
  cases rd with
  | none => exact PySem.P.repr_of_none ⟨.str _, H, J.tok _, ⟨_, rfl⟩, by simpa only [PyData.shown] using q⟩
  | bool b => exact PySem.P.repr_of_bool ⟨.str _, H, J.tok _, ⟨_, rfl⟩, by simpa only [PyData.shown] using q⟩
  | int i t => exact PySem.P.repr_of_int (by simpa [PyData.showable] using h1) ⟨.str _, H, J.tok _, ⟨_, rfl⟩, by simpa only [PyData.shown] using q⟩
  | str x t => exact PySem.P.repr_of_str ⟨.str _, H, J.tok _, ⟨_, rfl⟩, by simpa only [PyData.shown] using q⟩ (by simpa only [PyData.shown] using hz)
  | list _ _ _ _ => exact two rfl
  | tuple _ _ _ _ => exact two rfl
  | dict _ _ _ _ _ => exact two rfl
theorem bb_repr : bootBuiltins "repr" = some (.builtin "repr") := by decide +kernel
def repF (y : A) : Option Str := if repOk (enc y) then some (enc y).shown else none
theorem ev_repr {m : M S A} {k : Nat} (hr : ∀ i, Room k (Xs i).A) (hgd : ∀ i, (Xs i).A.guards = some []) (hm : ∀ i, (Xs i).mg "repr" = none) (h : EV Xs F G a m) (hg : ∀ i, Gl (Xs i) "repr" := by intro _; rfl)
    (he : ∀ i, starEach [a] (Xs i).env = (false, eval a (Xs i).env) :: starEach [] (Xs i).env := by intro _; rfl) (hK : ∀ i, (Xs i).K = K := by intro _; rfl) : EV Xs F G (.Call (.Name "repr" p) [a] [] pos) (fun1M repF m) :=
  ev_b1 (r := rRepr K) (fun i => by rw [← hK i]; exact cr_repr (hr i) (hgd i)) (fun F Zx G s t H u vs z g r e Q q => by
    obtain ⟨v, rfl, rv⟩ := r.one
    replace e : (if repOk (enc u.1) then some (enc u.1).shown else none) = some z := e
    by_cases ho : repOk (enc u.1)
    · rw [if_pos ho] at e
      cases e
      exact ⟨v, enc u.1, rfl, rv.dp ho.2.1, ho, q _ H (Same.refl H) (.str _)⟩
    · rw [if_neg ho] at e
      cases e) hm bb_repr h hg (by decide) (by decide) he
def eqSM (m n : M S Str) : M S Bool := bin2 (fun x y : Str => some (decide (x = y))) m n
def neSM (m n : M S Str) : M S Bool := bin2 (fun x y : Str => some (!decide (x = y))) m n
@[simp] theorem eqSM_pure (x y : Str) : eqSM (pureM x : M S Str) (pureM y) = pureM (decide (x = y)) := rfl
@[simp] theorem neSM_pure (x y : Str) : neSM (pureM x : M S Str) (pureM y) = pureM (!decide (x = y)) := rfl
theorem rv_eqS : RV2 rEq (fun x y : Str => some (decide (x = y))) := fun F Zx G s t H x y vx vy z gd rx ry e Q q => by
  cases e
  rw [rx.toStr, ry.toStr]
  refine ⟨rfl, q _ H (Same.refl H) ?_⟩
  rw [show decide (V.str x = V.str y) = decide (x = y) by simp]
  exact .bl _
theorem rv_neS : RV2 rNe (fun x y : Str => some (!decide (x = y))) := fun F Zx G s t H x y vx vy z gd rx ry e Q q => by
  cases e
  rw [rx.toStr, ry.toStr]
  refine ⟨rfl, q _ H (Same.refl H) ?_⟩
  rw [show decide (V.str x = V.str y) = decide (x = y) by simp]
  exact .bl _
theorem ev_eqS {m n : M S Str} (h : EV Xs F G a m) (h2 : EV Xs F G b n) : EV Xs F G (.Compare a [.Eq] [b] pos) (eqSM m n) := ev_cmp (fun _ => op_eq) rv_eqS h h2
theorem et_eqS {m n : M S Str} (h : EV Xs F G a m) (h2 : EV Xs F G b n) : ET Xs F G (.Compare a [.Eq] [b] pos) (eqSM m n) := et_cmp (fun _ => op_eq) rv_eqS h h2
theorem ev_neS {m n : M S Str} (h : EV Xs F G a m) (h2 : EV Xs F G b n) : EV Xs F G (.Compare a [.NotEq] [b] pos) (neSM m n) := ev_cmp (fun _ => op_ne) rv_neS h h2
theorem et_neS {m n : M S Str} (h : EV Xs F G a m) (h2 : EV Xs F G b n) : ET Xs F G (.Compare a [.NotEq] [b] pos) (neSM m n) := et_cmp (fun _ => op_ne) rv_neS h h2
def maxI (i j : Int) : Int := if j > i then j else i
def minI (i j : Int) : Int := if j < i then j else i
def fun2M {A B C : Type} (f : A → B → Option C) (m : M S A) (n : M S B) : M S C := bindM m fun x => bindM n fun y => ofO (f x y)
@[simp] theorem fun2M_pure (f : A → B → Option C) (x : A) (y : B) : fun2M f (pureM x : M S A) (pureM y) = ofO (f x y) := rfl
theorem ev_b2 {id : String} {r : List V → Hp → VK → Prop} {f : A → B → Option C} {m : M S A} {n : M S B} (hc : ∀ i, CallR (Xs i) (.builtin id) r) (hr : RVC r (fun u : A × B × Unit => [enc u.1, enc u.2.1]) fun u => f u.1 u.2.1) (hm : ∀ i, (Xs i).mg x = none) (hv : bootBuiltins x = some (.builtin id))
    (h : EV Xs F G a m) (h' : EV Xs F G b n) (hg : ∀ i, Gl (Xs i) x := by intro _; rfl) (hn : x ≠ "__name__" := by decide) (hdb : (x == ("__debug__" : Str)) = false := by decide)
    (hs1 : ∀ i, starEach [a, b] (Xs i).env = (false, eval a (Xs i).env) :: starEach [b] (Xs i).env := by intro _; rfl) (hs2 : ∀ i, starEach [b] (Xs i).env = (false, eval b (Xs i).env) :: starEach [] (Xs i).env := by intro _; rfl)
    (hpl : ∀ i, (backTo pos (starEach [b] (Xs i).env)).any (·.1) = false := by intro _; rfl) : EV Xs F G (.Call (.Name x p) [a, b] [] pos) (fun2M f m n) := by
  refine EV.eq (ev_blt (en := fun u : A × B × Unit => [enc u.1, enc u.2.1]) hc hr hm hv (ea_cons h (ea_cons h' ea_nil hs2) hs1) hg hn hdb hs1 hpl) ?_
  unfold fun2M pairM
  rw [bind_assoc]
  congr 1
  funext u
  rw [bind_assoc, bind_assoc]
  rfl
theorem ev_max2 {m n : M S Int} (hm : ∀ i, (Xs i).mg "max" = none) (h : EV Xs F G a m) (h' : EV Xs F G b n) (hc : ∀ i, (Xs i).calm = true := by intro _; rfl) (hg : ∀ i, Gl (Xs i) "max" := by intro _; rfl)
    (hs1 : ∀ i, starEach [a, b] (Xs i).env = (false, eval a (Xs i).env) :: starEach [b] (Xs i).env := by intro _; rfl) (hs2 : ∀ i, starEach [b] (Xs i).env = (false, eval b (Xs i).env) :: starEach [] (Xs i).env := by intro _; rfl)
    (hpl : ∀ i, (backTo pos (starEach [b] (Xs i).env)).any (·.1) = false := by intro _; rfl) : EV Xs F G (.Call (.Name "max" p) [a, b] [] pos) (fun2M (fun i j : Int => some (maxI i j)) m n) :=
  ev_b2 (fun i => call_max2 (hc i)) (fun F Zx G s t H u vs z g r e Q q => by
    obtain ⟨v, w, rfl, r1, r2⟩ := r.two
    obtain rfl := r1.toInt
    obtain rfl := r2.toInt
    cases e
    exact ⟨_, _, rfl, q _ H (Same.refl H) (.int _)⟩) hm bb_max h h' hg (by decide) (by decide) hs1 hs2 hpl
theorem ev_min2 {m n : M S Int} (hm : ∀ i, (Xs i).mg "min" = none) (h : EV Xs F G a m) (h' : EV Xs F G b n) (hc : ∀ i, (Xs i).calm = true := by intro _; rfl) (hg : ∀ i, Gl (Xs i) "min" := by intro _; rfl)
    (hs1 : ∀ i, starEach [a, b] (Xs i).env = (false, eval a (Xs i).env) :: starEach [b] (Xs i).env := by intro _; rfl) (hs2 : ∀ i, starEach [b] (Xs i).env = (false, eval b (Xs i).env) :: starEach [] (Xs i).env := by intro _; rfl)
    (hpl : ∀ i, (backTo pos (starEach [b] (Xs i).env)).any (·.1) = false := by intro _; rfl) : EV Xs F G (.Call (.Name "min" p) [a, b] [] pos) (fun2M (fun i j : Int => some (minI i j)) m n) :=
  ev_b2 (fun i => call_min2 (hc i)) (fun F Zx G s t H u vs z g r e Q q => by
    obtain ⟨v, w, rfl, r1, r2⟩ := r.two
    obtain rfl := r1.toInt
    obtain rfl := r2.toInt
    cases e
    exact ⟨_, _, rfl, q _ H (Same.refl H) (.int _)⟩) hm bb_min h h' hg (by decide) (by decide) hs1 hs2 hpl
/-- max, min of a list that is not empty -/
def maxL : List Int → Option Int
  | [] => none
  | x :: l => some (l.foldl maxI x)
def minL : List Int → Option Int
  | [] => none
  | x :: l => some (l.foldl minI x)
theorem foldl_maxI : ∀ (l : List Int) (x : Int), (l.foldl maxI x = x ∨ l.foldl maxI x ∈ l) ∧ x ≤ l.foldl maxI x ∧ ∀ y ∈ l, y ≤ l.foldl maxI x
  | [], x => ⟨.inl rfl, Int.le_refl _, fun y h => absurd h List.not_mem_nil⟩
  | z :: l, x => by
    obtain ⟨h1, h2, h3⟩ := foldl_maxI l (maxI x z)
    have e : (z :: l).foldl maxI x = l.foldl maxI (maxI x z) := rfl
    have m1 : x ≤ maxI x z ∧ z ≤ maxI x z ∧ (maxI x z = x ∨ maxI x z = z) := by
      unfold maxI
      split <;> omega
    rw [e]
    refine ⟨?_, by omega, fun y hy => ?_⟩
    · rcases h1 with h1 | h1
      · rw [h1]
        rcases m1.2.2 with q | q
        · exact .inl q
        · rw [q]
          exact .inr List.mem_cons_self
      · exact .inr (List.mem_cons_of_mem _ h1)
    · rcases List.mem_cons.mp hy with q | q
      · rw [q]
        omega
      · exact h3 y q
theorem foldl_minI : ∀ (l : List Int) (x : Int), (l.foldl minI x = x ∨ l.foldl minI x ∈ l) ∧ l.foldl minI x ≤ x ∧ ∀ y ∈ l, l.foldl minI x ≤ y
  | [], x => ⟨.inl rfl, Int.le_refl _, fun y h => absurd h List.not_mem_nil⟩
  | z :: l, x => by
    obtain ⟨h1, h2, h3⟩ := foldl_minI l (minI x z)
    have e : (z :: l).foldl minI x = l.foldl minI (minI x z) := rfl
    have m1 : minI x z ≤ x ∧ minI x z ≤ z ∧ (minI x z = x ∨ minI x z = z) := by
      unfold minI
      split <;> omega
    rw [e]
    refine ⟨?_, by omega, fun y hy => ?_⟩
    · rcases h1 with h1 | h1
      · rw [h1]
        rcases m1.2.2 with q | q
        · exact .inl q
        · rw [q]
          exact .inr List.mem_cons_self
      · exact .inr (List.mem_cons_of_mem _ h1)
    · rcases List.mem_cons.mp hy with q | q
      · rw [q]
        omega
      · exact h3 y q
theorem maxL_spec {l : List Int} {m : Int} (h : maxL l = some m) : m ∈ l ∧ ∀ y ∈ l, y ≤ m := by
  cases l with
  | nil => cases h
  | cons x l =>
    cases h
    obtain ⟨h1, h2, h3⟩ := foldl_maxI l x
    exact ⟨h1.elim (fun q => by rw [q]; exact List.mem_cons_self) (fun q => List.mem_cons_of_mem _ q), fun y hy => (List.mem_cons.mp hy).elim (fun q => by rw [q]; exact h2) (h3 y)⟩
theorem minL_spec {l : List Int} {m : Int} (h : minL l = some m) : m ∈ l ∧ ∀ y ∈ l, m ≤ y := by
  cases l with
  | nil => cases h
  | cons x l =>
    cases h
    obtain ⟨h1, h2, h3⟩ := foldl_minI l x
    exact ⟨h1.elim (fun q => by rw [q]; exact List.mem_cons_self) (fun q => List.mem_cons_of_mem _ q), fun y hy => (List.mem_cons.mp hy).elim (fun q => by rw [q]; exact h2) (h3 y)⟩
theorem ev_maxL {m : M S (List Int)} (hm : ∀ i, (Xs i).mg "max" = none) (h : EV Xs F G a m) (hc : ∀ i, (Xs i).calm = true := by intro _; rfl) (hg : ∀ i, Gl (Xs i) "max" := by intro _; rfl)
    (he : ∀ i, starEach [a] (Xs i).env = (false, eval a (Xs i).env) :: starEach [] (Xs i).env := by intro _; rfl) (hK : ∀ i, (Xs i).K = K := by intro _; rfl) : EV Xs F G (.Call (.Name "max" p) [a] [] pos) (fun1M maxL m) :=
  ev_b1 (r := rMax K) (fun i => by rw [← hK i]; exact cr_max (hc i)) (fun F Zx G s t H u vs z g r e Q q => by
    obtain ⟨v, rfl, rv⟩ := r.one
    obtain ⟨pp, xs, rfl, n, h, l⟩ := rv.toLst
    rw [l.ints] at h
    replace e : maxL u.1 = some z := e
    obtain ⟨h1, h2⟩ := maxL_spec e
    refine ⟨pp, u.1, rfl, SqL.of h, List.length_pos_of_mem h1, fun mm hm1 hm2 => ?_⟩
    obtain rfl : mm = z := by
      have := h2 _ hm1
      have := hm2 _ h1
      omega
    exact q _ H (Same.refl H) (.int _)) hm bb_max h hg (by decide) (by decide) he
theorem ev_minL {m : M S (List Int)} (hm : ∀ i, (Xs i).mg "min" = none) (h : EV Xs F G a m) (hc : ∀ i, (Xs i).calm = true := by intro _; rfl) (hg : ∀ i, Gl (Xs i) "min" := by intro _; rfl)
    (he : ∀ i, starEach [a] (Xs i).env = (false, eval a (Xs i).env) :: starEach [] (Xs i).env := by intro _; rfl) (hK : ∀ i, (Xs i).K = K := by intro _; rfl) : EV Xs F G (.Call (.Name "min" p) [a] [] pos) (fun1M minL m) :=
  ev_b1 (r := rMin K) (fun i => by rw [← hK i]; exact cr_min (hc i)) (fun F Zx G s t H u vs z g r e Q q => by
    obtain ⟨v, rfl, rv⟩ := r.one
    obtain ⟨pp, xs, rfl, n, h, l⟩ := rv.toLst
    rw [l.ints] at h
    replace e : minL u.1 = some z := e
    obtain ⟨h1, h2⟩ := minL_spec e
    refine ⟨pp, u.1, rfl, SqL.of h, List.length_pos_of_mem h1, fun mm hm1 hm2 => ?_⟩
    obtain rfl : mm = z := by
      have := h2 _ hm1
      have := hm2 _ h1
      omega
    exact q _ H (Same.refl H) (.int _)) hm bb_min h hg (by decide) (by decide) he
/-- values ahead of their stores: data, or new objects of the frame's own (ps) -/
inductive Pend (Z : Addr → Prop) (H : Hp) : List Addr → List V → List (PyData × Bool) → Prop
  | nil : Pend Z H [] [] []
  | d {ps vs v d r} : Rp Z H v d → Pend Z H ps vs r → Pend Z H ps (v :: vs) ((d, false) :: r)
  | o {p ps vs d r} : OwnC Z H p d → Pend Z H ps vs r → Pend Z H (p :: ps) (.ref p :: vs) ((d, true) :: r)
theorem Pend.ext {Z Z' : Addr → Prop} {H H' : Hp} (e : Ext Z H Z' H') : ∀ {ps : List Addr} {vs : List V} {ds : List (PyData × Bool)}, (∀ p ∈ ps, ∀ o, H p = some o → H' p = some o) → Pend Z H ps vs ds → Pend Z' H' ps vs ds
  | _, _, _, _, .nil => .nil
  | _, _, _, k, .d h t => .d (h.ext e) (t.ext e k)
  | _, _, _, k, .o h t => .o (OwnC.ext e (k _ List.mem_cons_self) h) (t.ext e fun p hp => k p (List.mem_cons_of_mem _ hp))
def mkSl : PyData × Bool → Sl
  | (d, true) => .own d
  | (d, false) => .dat d
def storeG (G : List Sl) : List Nat → List (PyData × Bool) → List Sl
  | k :: ks, d :: ds => storeG (G.set k (mkSl d)) ks ds
  | _, _ => G
def storeT (t : St) : List Nat → List V → St
  | k :: ks, v :: vs => storeT (t.set k (some v)) ks vs
  | _, _ => t
theorem noOwn_set {G : List Sl} {k : Nat} {l : Sl} : ∀ {ks : List Nat}, noOwn G ks = true → k ∉ ks → noOwn (G.set k l) ks = true
  | [], _, _ => rfl
  | j :: ks, h, n => by
    unfold noOwn at h ⊢
    rw [List.all_cons, Bool.and_eq_true] at h ⊢
    refine ⟨?_, noOwn_set (ks := ks) h.2 fun z => n (List.mem_cons_of_mem _ z)⟩
    rw [List.getElem?_set_ne (fun z => n (by rw [z]; exact List.mem_cons_self))]
    exact h.1
theorem noOwn_one {G : List Sl} {k : Nat} {ks : List Nat} (h : noOwn G (k :: ks) = true) : noOwn G [k] = true ∧ noOwn G ks = true := by
  unfold noOwn at h ⊢
  rw [List.all_cons, Bool.and_eq_true] at h
  exact ⟨by rw [List.all_cons, List.all_nil, Bool.and_true]; exact h.1, h.2⟩
theorem Gd.storeAll {Zx : Addr → Prop} {s : S} {H : Hp} : ∀ {ks : List Nat} {ps : List Addr} {vs : List V} {ds : List (PyData × Bool)} {G : List Sl} {t : St}, Gd F (fun b => Zx b ∨ b ∈ ps) G s t H →
    Pend (ZF F (fun b => Zx b ∨ b ∈ ps) G t) H ps vs ds → noOwn G ks = true → ks.Nodup → ks.length = ds.length → (∀ k ∈ ks, k < G.length) → (∀ p ∈ ps, ¬ F.Z p ∧ ¬ Zx p) → ps.Nodup →
      Gd F Zx (storeG G ks ds) s (storeT t ks vs) H ∧ ∀ b, Own (storeG G ks ds) (storeT t ks vs) b ↔ Own G t b ∨ b ∈ ps
  | [], _, _, [], G, t, g, .nil, _, _, _, _, _, _ => ⟨g.less fun b z => .inl z, fun b => ⟨.inl, fun z => z.elim id fun y => absurd y List.not_mem_nil⟩⟩
  | k :: ks, _, _, [], G, t, g, .nil, _, _, hl, _, _, _ => absurd hl (by simp)
  | k :: ks, ps, v :: vs, (d, false) :: ds, G, t, g, .d h r, hno, hnd, hl, hk, hps, hpn => by
    obtain ⟨n1, n2⟩ := noOwn_one hno
    have nk := List.nodup_cons.mp hnd
    have ow := fun b => own_set (d := d) (t := t) (o := some v) n1 b
    have g2 := g.set n1 h
    have ez : ZF F (fun b => Zx b ∨ b ∈ ps) (G.set k (.dat d)) (t.set k (some v)) = ZF F (fun b => Zx b ∨ b ∈ ps) G t := funext fun b => propext ⟨fun z => z.imp id (Or.imp id (ow b).mp), fun z => z.imp id (Or.imp id (ow b).mpr)⟩
    obtain ⟨a, b⟩ := Gd.storeAll (ks := ks) g2 (by rw [ez]; exact r) (noOwn_set n2 nk.1) nk.2 (Nat.succ.inj hl) (fun j hj => by rw [List.length_set]; exact hk j (List.mem_cons_of_mem _ hj)) hps hpn
    exact ⟨a, fun c => (b c).trans (or_congr (ow c) Iff.rfl)⟩
  | k :: ks, p :: ps, .ref _ :: vs, (d, true) :: ds, G, t, g, .o h r, hno, hnd, hl, hk, hps, hpn => by
    obtain ⟨n1, n2⟩ := noOwn_one hno
    have nk := List.nodup_cons.mp hnd
    have pn := List.nodup_cons.mp hpn
    have g1 : Gd F (fun b => (Zx b ∨ b ∈ ps) ∨ b = p) G s t H := g.less fun b z => by
      rcases z with (z | z) | z
      · exact .inl z
      · exact .inr (List.mem_cons_of_mem _ z)
      · rw [z]
        exact .inr List.mem_cons_self
    have e1 : (fun b => (Zx b ∨ b ∈ ps) ∨ b = p) = fun b => Zx b ∨ b ∈ p :: ps := funext fun b => propext ⟨fun z => by
      rcases z with (z | z) | z
      · exact .inl z
      · exact .inr (List.mem_cons_of_mem _ z)
      · rw [z]
        exact .inr List.mem_cons_self, fun z => by
      rcases z with z | z
      · exact .inl (.inl z)
      · exact (List.mem_cons.mp z).elim .inr fun y => .inl (.inr y)⟩
    have hp := hps p List.mem_cons_self
    obtain ⟨g2, ow⟩ := g1.setOwn n1 hp.1 (fun z => z.elim hp.2 pn.1) (by rw [e1]; exact h) (hk k List.mem_cons_self)
    have ez : ZF F (fun b => Zx b ∨ b ∈ ps) (G.set k (.own d)) (t.set k (some (.ref p))) = ZF F (fun b => Zx b ∨ b ∈ p :: ps) G t := funext fun b => propext ⟨fun z => by
      rcases z with z | z | z
      · exact .inl z
      · exact .inr (.inl (z.imp id fun y => List.mem_cons_of_mem _ y))
      · rcases (ow b).mp z with z | z
        · exact .inr (.inr z)
        · rw [z]
          exact .inr (.inl (.inr List.mem_cons_self)), fun z => by
      rcases z with z | (z | z) | z
      · exact .inl z
      · exact .inr (.inl (.inl z))
      · rcases List.mem_cons.mp z with z | z
        · exact .inr (.inr ((ow b).mpr (.inr z)))
        · exact .inr (.inl (.inr z))
      · exact .inr (.inr ((ow b).mpr (.inl z)))⟩
    obtain ⟨a, b⟩ := Gd.storeAll (ks := ks) g2 (by rw [ez]; exact r) (noOwn_set n2 nk.1) nk.2 (Nat.succ.inj hl) (fun j hj => by rw [List.length_set]; exact hk j (List.mem_cons_of_mem _ hj)) (fun q hq => hps q (List.mem_cons_of_mem _ hq)) pn.2
    refine ⟨a, fun c => (b c).trans ?_⟩
    rw [ow c, List.mem_cons, or_assoc]
def EKA (Xs : I → Cx) (F : Fm S) (G : List Sl) (es : List Expr) {U : Type} (m : M S U) (en : U → List (PyData × Bool)) : Prop := ∃ ta, (∀ i, PA (Xs i) es ta) ∧
  ∀ Zx t H s u s', Gd F Zx G s t H → m s = some (u, s') → ∀ Q : List V → Hp → Prop, (∀ vs H' ps, Gd F (fun b => Zx b ∨ b ∈ ps) G s' t H' → Fix F H H' → (∀ p ∈ ps, H p = none) → ps.Nodup →
    Pend (ZF F (fun b => Zx b ∨ b ∈ ps) G t) H' ps vs (en u) → Q vs H') → ta t H Q
theorem ek_nil : EKA Xs F G [] (pureM ()) fun _ => [] := by
  refine ⟨tNil, fun _ => pa_nil, fun Zx t H s y s' g hm Q q => ?_⟩
  obtain ⟨rfl, rfl⟩ := pure_eq hm
  exact q [] H [] (g.less fun b z => z.elim id fun y => absurd y List.not_mem_nil) (Fix.refl H) (fun p hp => absurd hp List.not_mem_nil) List.nodup_nil .nil
theorem ek_d {m : M S A} {n : M S U} {en : U → List (PyData × Bool)} (h : EV Xs F G e m) (hr : EKA Xs F G es n en)
    (hs : ∀ i, starEach (e :: es) (Xs i).env = (false, eval e (Xs i).env) :: starEach es (Xs i).env := by intro _; rfl) : EKA Xs F G (e :: es) (pairM m n) fun p => (enc p.1, false) :: en p.2 := by
  obtain ⟨te, hp, ho⟩ := h
  obtain ⟨ta, hq, hb⟩ := hr
  refine ⟨tCons te ta, fun i => pa_cons (hp i) (hq i) (hs i), fun Zx t H s y s' g hm Q q => ?_⟩
  obtain ⟨z, s1, h1, h2⟩ := bind_some hm
  obtain ⟨w, s2, h3, h4⟩ := bind_some h2
  obtain ⟨rfl, rfl⟩ := pure_eq h4
  refine ho Zx t H s z s1 g h1 _ fun v H1 g1 f1 r1 => ?_
  refine hb Zx t H1 s1 w s2 g1 h3 _ fun vs H2 ps g2 f2 hps hnd r2 => ?_
  refine q _ H2 ps g2 (f1.trans f2) (fun p hp => ?_) hnd (.d (r1.ext ⟨fun b o z h => f2 b o (fun k => z (.inl k)) h, fun b z => ?_⟩) r2)
  · cases e : H p with
    | none => rfl
    | some o =>
      have nF : ¬ F.Z p := fun z => F.trk _ _ _ g1.at_ z (hps p hp)
      have := f1 p o nF e
      rw [hps p hp] at this
      cases this
  · rcases z with z | (z | z) | z
    · exact .inl (.inl z)
    · exact .inl (.inr (.inl z))
    · exact .inr (hps b z)
    · exact .inl (.inr (.inr z))
theorem ek_o {m : M S A} {n : M S U} {en : U → List (PyData × Bool)} (h : EO Xs F G e m) (hr : EKA Xs F G es n en)
    (hs : ∀ i, starEach (e :: es) (Xs i).env = (false, eval e (Xs i).env) :: starEach es (Xs i).env := by intro _; rfl) : EKA Xs F G (e :: es) (pairM m n) fun p => (enc p.1, true) :: en p.2 := by
  obtain ⟨te, hp, ho⟩ := h
  obtain ⟨ta, hq, hb⟩ := hr
  refine ⟨tCons te ta, fun i => pa_cons (hp i) (hq i) (hs i), fun Zx t H s y s' g hm Q q => ?_⟩
  obtain ⟨z, s1, h1, h2⟩ := bind_some hm
  obtain ⟨w, s2, h3, h4⟩ := bind_some h2
  obtain ⟨rfl, rfl⟩ := pure_eq h4
  refine ho Zx t H s z s1 g h1 _ fun pp H1 g1 f1 hpn r1 => ?_
  refine hb _ t H1 s1 w s2 g1 h3 _ fun vs H2 ps g2 f2 hps hnd r2 => ?_
  have nF : ¬ F.Z pp := fun z => F.trk _ _ _ g.at_ z hpn
  have np : pp ∉ ps := fun z => g1.trk pp (.inr rfl) (hps pp z)
  have e1 : (fun b => (Zx b ∨ b = pp) ∨ b ∈ ps) = fun b => Zx b ∨ b ∈ pp :: ps := funext fun b => propext ⟨fun z => by
    rcases z with (z | z) | z
    · exact .inl z
    · rw [z]
      exact .inr List.mem_cons_self
    · exact .inr (List.mem_cons_of_mem _ z), fun z => by
    rcases z with z | z
    · exact .inl (.inl z)
    · exact (List.mem_cons.mp z).elim (fun y => .inl (.inr y)) .inr⟩
  rw [e1] at g2 r2
  have ex : Ext (ZF F (fun b => Zx b ∨ b = pp) G t) H1 (ZF F (fun b => Zx b ∨ b ∈ pp :: ps) G t) H2 := ⟨fun b o z h => f2 b o (fun k => z (.inl k)) h, fun b z => by
    rcases z with z | (z | z) | z
    · exact .inl (.inl z)
    · exact .inl (.inr (.inl (.inl z)))
    · rcases List.mem_cons.mp z with z | z
      · exact .inl (.inr (.inl (.inr z)))
      · exact .inr (hps b z)
    · exact .inl (.inr (.inr z))⟩
  refine q _ H2 (pp :: ps) g2 (f1.trans f2) (fun p hp => ?_) (List.nodup_cons.mpr ⟨np, hnd⟩) (.o (OwnC.ext ex (fun o ho => f2 pp o nF ho) r1) r2)
  rcases List.mem_cons.mp hp with z | z
  · rw [z]
    exact hpn
  · cases e : H p with
    | none => rfl
    | some o =>
      have nF : ¬ F.Z p := fun y => F.trk _ _ _ g1.at_ y (hps p z)
      have := f1 p o nF e
      rw [hps p z] at this
      cases this
theorem Pend.len {Z : Addr → Prop} {H : Hp} : ∀ {ps : List Addr} {vs : List V} {ds : List (PyData × Bool)}, Pend Z H ps vs ds → vs.length = ds.length
  | _, _, _, .nil => rfl
  | _, _, _, .d _ t => congrArg (· + 1) t.len
  | _, _, _, .o _ t => congrArg (· + 1) t.len
theorem ss_par2 {L R : Type} [Enc R] {Gl : L → List Sl} {m : M S U} {en : U → List (PyData × Bool)} {i j : Nat} {px py pt : Pos} {kt k2 : Nat} {pt2 : Pos} (h : EKA Xs F G [a, b] m en) (hN : ∀ i, (Xs i).N.Nodup) (hij : i ≠ j := by decide) (hen : ∀ u, (en u).length = 2 := by intro _; rfl)
    (hno : noOwn G [i, j] = true := by rfl) (hk : i < G.length ∧ j < G.length := by exact ⟨Nat.le_of_ble_eq_true rfl, Nat.le_of_ble_eq_true rfl⟩) (hi : ∀ q, (Xs q).N[i]? = some x := by intro _; rfl) (hj : ∀ q, (Xs q).N[j]? = some y := by intro _; rfl)
    (hx : ∀ q, (Xs q).env.scope.names.lookup x = some .local := by intro _; rfl) (hy : ∀ q, (Xs q).env.scope.names.lookup y = some .local := by intro _; rfl) (hc : ∀ i, (Xs i).calm = true := by intro _; rfl)
    (hw : ∀ q, swappedStores [.Tuple [.Name x px, .Name y py] kt pt] (.Tuple [a, b] k2 pt2) (Xs q).env = pure (some [x, y]) := by intro _; rfl)
    (hs : ∀ q, swapsWithSole [.Tuple [.Name x px, .Name y py] kt pt] (.Tuple [a, b] k2 pt2) pos.line (Xs q).env = pure false := by intro _; rfl) :
    SS (R := R) (L := L) Xs F G (.Assign [.Tuple [.Name x px, .Name y py] kt pt] (.Tuple [a, b] k2 pt2) pos) (bindM m fun u => pureM (.nx u)) (fun u => storeG G [i, j] (en u)) Gl := by
  obtain ⟨ta, hp, ho⟩ := h
  refine ⟨tPar i j ta, fun q => ps_par (hc q) (hN q) (hi q) (hj q) hij (hx q) (hy q) (hp q) (hw q) (hs q), fun Zx t H s r s' g hm D q => ?_⟩
  obtain ⟨u, s1, h1, h2⟩ := bind_some hm
  obtain ⟨rfl, rfl⟩ := pure_eq h2
  refine ho Zx t H s u s1 g h1 _ fun vs H1 ps g1 f1 hps hnd r1 => ?_
  have hl := r1.len
  rw [hen] at hl
  obtain ⟨v, w, rfl⟩ : ∃ v w, vs = [v, w] := by
    match vs, hl with
    | [v, w], _ => exact ⟨v, w, rfl⟩
  obtain ⟨g2, ow⟩ := g1.storeAll (ks := [i, j]) r1 hno (by simpa using hij) (by rw [hen]; rfl) (fun k hk' => by
    rcases List.mem_cons.mp hk' with z | z
    · rw [z]
      exact hk.1
    · rw [List.mem_singleton.mp z]
      exact hk.2) (fun p hp => ⟨fun z => F.trk _ _ _ g.at_ z (hps p hp), fun z => g.trk p z (hps p hp)⟩) hnd
  exact ⟨v, w, rfl, q _ H1 g2 ⟨fun b o z _ h => f1 b o z h, fun b z => ((ow b).mp z).imp id (hps b)⟩⟩
theorem ss_par3 {L R : Type} [Enc R] {Gl : L → List Sl} {m : M S U} {en : U → List (PyData × Bool)} {i j l : Nat} {px py pz pt : Pos} {kt k2 : Nat} {pt2 : Pos} (h : EKA Xs F G [a, b, c] m en) (hN : ∀ i, (Xs i).N.Nodup) (hij : i ≠ j ∧ i ≠ l ∧ j ≠ l := by decide) (hen : ∀ u, (en u).length = 3 := by intro _; rfl)
    (hno : noOwn G [i, j, l] = true := by rfl) (hk : i < G.length ∧ j < G.length ∧ l < G.length := by exact ⟨Nat.le_of_ble_eq_true rfl, Nat.le_of_ble_eq_true rfl, Nat.le_of_ble_eq_true rfl⟩) (hi : ∀ q, (Xs q).N[i]? = some x := by intro _; rfl) (hj : ∀ q, (Xs q).N[j]? = some y := by intro _; rfl) (hl : ∀ q, (Xs q).N[l]? = some z := by intro _; rfl)
    (hx : ∀ q, (Xs q).env.scope.names.lookup x = some .local := by intro _; rfl) (hy : ∀ q, (Xs q).env.scope.names.lookup y = some .local := by intro _; rfl) (hz : ∀ q, (Xs q).env.scope.names.lookup z = some .local := by intro _; rfl) (hc : ∀ i, (Xs i).calm = true := by intro _; rfl)
    (hw : ∀ q, swappedStores [.Tuple [.Name x px, .Name y py, .Name z pz] kt pt] (.Tuple [a, b, c] k2 pt2) (Xs q).env = pure (some [x, y, z]) := by intro _; rfl)
    (hs : ∀ q, swapsWithSole [.Tuple [.Name x px, .Name y py, .Name z pz] kt pt] (.Tuple [a, b, c] k2 pt2) pos.line (Xs q).env = pure false := by intro _; rfl) :
    SS (R := R) (L := L) Xs F G (.Assign [.Tuple [.Name x px, .Name y py, .Name z pz] kt pt] (.Tuple [a, b, c] k2 pt2) pos) (bindM m fun u => pureM (.nx u)) (fun u => storeG G [i, j, l] (en u)) Gl := by
  obtain ⟨ta, hp, ho⟩ := h
  refine ⟨tPar3 i j l ta, fun q => ps_par3 (hc q) (hN q) (hi q) (hj q) (hl q) hij.1 hij.2.1 hij.2.2 (hx q) (hy q) (hz q) (hp q) (hw q) (hs q), fun Zx t H s r s' g hm D q => ?_⟩
  obtain ⟨u, s1, h1, h2⟩ := bind_some hm
  obtain ⟨rfl, rfl⟩ := pure_eq h2
  refine ho Zx t H s u s1 g h1 _ fun vs H1 ps g1 f1 hps hnd r1 => ?_
  have hlen := r1.len
  rw [hen] at hlen
  obtain ⟨v, w, o, rfl⟩ : ∃ v w o, vs = [v, w, o] := by
    match vs, hlen with
    | [v, w, o], _ => exact ⟨v, w, o, rfl⟩
  obtain ⟨g2, ow⟩ := g1.storeAll (ks := [i, j, l]) r1 hno (by
    obtain ⟨n1, n2, n3⟩ := hij
    simp [n1, n2, n3]) (by rw [hen]; rfl) (fun k hk' => by
    rcases List.mem_cons.mp hk' with z | z
    · rw [z]
      exact hk.1
    · rcases List.mem_cons.mp z with z | z
      · rw [z]
        exact hk.2.1
      · rw [List.mem_singleton.mp z]
        exact hk.2.2) (fun p hp => ⟨fun z => F.trk _ _ _ g.at_ z (hps p hp), fun z => g.trk p z (hps p hp)⟩) hnd
  exact ⟨v, w, o, rfl, q _ H1 g2 ⟨fun b o z _ h => f1 b o z h, fun b z => ((ow b).mp z).imp id (hps b)⟩⟩
end
end PL

namespace PL
open PySem L2 Enc
section
variable {S A B C D U N L R N1 : Type}
def tup2M (m : M S A) (n : M S B) : M S (A × B) := mapM1 (fun u : A × B × Unit => ((u.1, u.2.1) : A × B)) (pairM m (pairM n (pureM ())))
def tup3M (m : M S A) (n : M S B) (o : M S C) : M S (T3 A B C) := mapM1 (fun u : A × B × C × Unit => (⟨u.1, u.2.1, u.2.2.1⟩ : T3 A B C)) (pairM m (pairM n (pairM o (pureM ()))))
@[simp] theorem tup2M_pure (x : A) (y : B) : tup2M (pureM x : M S A) (pureM y) = pureM (x, y) := rfl
@[simp] theorem tup3M_pure (x : A) (y : B) (z : C) : tup3M (pureM x : M S A) (pureM y) (pureM z) = pureM ⟨x, y, z⟩ := rfl
def lstM (m : M S (List A)) : M S (List A) := bindM m fun l => guardM (lenOk l.length) (pureM l)
def tupM (m : M S (List A)) : M S (Tup A) := bindM m fun l => guardM (lenOk l.length) (pureM (toTup l))
theorem lstM_pure {l : List A} (h : l.length ≤ 16777216) : lstM (pureM l : M S (List A)) = pureM l := if_pos h
theorem tupM_pure {l : List A} (h : l.length ≤ 16777216) : tupM (pureM l : M S (List A)) = pureM (toTup l) := if_pos h
def compM (ml : M S (List A)) (p : A → M S Bool) (f : A → M S B) : M S (List B) := bindM ml fun l => guardM (lenOk l.length) (lcM p f l)
def retS (m : M S R) : M S (Fl N L R) := bindM m fun r => pureM (.rt r)
def setS (m : M S N) : M S (Fl N L R) := bindM m fun y => pureM (.nx y)
def appS (l : List A) (m : M S A) : M S (Fl A L R) := bindM m fun y => guardM (lenOk (l.length + 1)) (pureM (.nx y))
def forS (ml : M S (List A)) (f : N → A → M S (Fl N N R)) (y0 : N) : M S (Fl N L R) := bindM ml fun l => liftM (loopM f l y0)
def callF (f : U → Option A) (m : M S U) : M S A := bindM m fun u => ofO (f u)
def sortUM (m : M S (List Int)) : M S (List Int) := bindM m fun l => guardM (l.length < 64) (pureM (sortU l))
def rng1M (m : M S Int) : M S (List Int) := bindM m fun n => guardM (rgOk n) (pureM (rangeL 0 n))
def rng2M (m n : M S Int) : M S (List Int) := bindM m fun lo => bindM n fun hi => guardM (rgOk lo ∧ rgOk hi) (pureM (rangeL lo hi))
def zipM (m : M S (List A)) (n : M S (List B)) : M S (List (A × B)) := bindM m fun x => bindM n fun y => pureM (x.zip y)
def enumM (m : M S (List A)) : M S (List (Int × A)) := bindM m fun x => pureM (x.zipIdx.map fun q => ((q.2 : Int), q.1))
def untM (m : M S (Tup A)) : M S (List A) := mapM1 unTup m
def catTM (m n : M S (Tup A)) : M S (Tup A) := mapM1 toTup (catM (mapM1 unTup m) (mapM1 unTup n))
def cutTM (m : M S (Tup A)) (n o : M S (Option Int)) : M S (Tup A) := mapM1 toTup (cutM (mapM1 unTup m) n o)
@[simp] theorem untM_pure (l : Tup A) : untM (pureM l : M S (Tup A)) = pureM (unTup l) := rfl
@[simp] theorem cutTM_pure (l : Tup A) (lo hi : Option Int) : cutTM (pureM l : M S (Tup A)) (pureM lo) (pureM hi) = pureM (toTup (cutL lo hi (unTup l))) := rfl
@[simp] theorem retS_pure (r : R) : retS (N := N) (L := L) (pureM r : M S R) = pureM (.rt r) := rfl
@[simp] theorem setS_pure (r : N) : setS (L := L) (R := R) (pureM r : M S N) = pureM (.nx r) := rfl
@[simp] theorem callF_pure (f : U → Option A) (u : U) : callF f (pureM u : M S U) = ofO (f u) := rfl
@[simp] theorem zipM_pure (x : List A) (y : List B) : zipM (pureM x : M S (List A)) (pureM y) = pureM (x.zip y) := rfl
@[simp] theorem seq_set (m : M S N1) (k : N1 → M S (Fl N L R)) : seqM (setS m) k = bindM m k := by
  unfold setS seqM
  rw [bind_assoc]
  rfl
theorem rng1M_pure {n : Int} (h : rgOk n) : rng1M (pureM n : M S Int) = pureM (rangeL 0 n) := if_pos h
theorem rng2M_pure {m n : Int} (h : rgOk m ∧ rgOk n) : rng2M (pureM m : M S Int) (pureM n) = pureM (rangeL m n) := if_pos h
theorem sortUM_pure {l : List Int} (h : l.length < 64) : sortUM (pureM l : M S (List Int)) = pureM (sortU l) := if_pos h
/-- loops and comprehensions that do not fail -/
theorem lcM_pure {p : A → M S Bool} {f : A → M S B} {q : A → Bool} {g : A → B} : ∀ {l : List A}, (∀ x ∈ l, p x = pureM (q x)) → (∀ x ∈ l, q x = true → f x = pureM (g x)) → lcM p f l = pureM ((l.filter q).map g)
  | [], _, _ => rfl
  | x :: l, h1, h2 => by
    have ih := lcM_pure (l := l) (fun y hy => h1 y (List.mem_cons_of_mem _ hy)) (fun y hy => h2 y (List.mem_cons_of_mem _ hy))
    show bindM (p x) _ = _
    rw [h1 x List.mem_cons_self, bind_pure, ih]
    cases e : q x with
    | false =>
      rw [List.filter_cons_of_neg (by rw [e]; exact Bool.false_ne_true)]
      rfl
    | true =>
      rw [List.filter_cons_of_pos e, h2 x List.mem_cons_self e]
      rfl
theorem compM_pure {p : A → M S Bool} {f : A → M S B} {q : A → Bool} {g : A → B} {l : List A} (hl : l.length ≤ 16777216) (h1 : ∀ x ∈ l, p x = pureM (q x)) (h2 : ∀ x ∈ l, q x = true → f x = pureM (g x)) :
    compM (pureM l) p f = pureM ((l.filter q).map g) := by
  show guardM (lenOk l.length) (lcM p f l) = _
  rw [guard_true (show lenOk l.length from hl), lcM_pure h1 h2]
theorem compM_map {p : A → M S Bool} {f : A → M S B} {g : A → B} {l : List A} (hl : l.length ≤ 16777216) (h1 : ∀ x ∈ l, p x = pureM true) (h2 : ∀ x ∈ l, f x = pureM (g x)) :
    compM (pureM l) p f = pureM (l.map g) := by
  rw [compM_pure hl h1 fun x hx _ => h2 x hx, List.filter_eq_self.mpr fun _ _ => rfl]
theorem loopM_pure {f : L → A → M S (Fl L L R)} {g : L → A → L} : ∀ {l : List A} {y : L} (Iv : L → Prop), Iv y → (∀ y x, x ∈ l → Iv y → f y x = pureM (.nx (g y x)) ∧ Iv (g y x)) → loopM f l y = pureM (.nx (l.foldl g y))
  | [], _, _, _, _ => rfl
  | x :: l, y, Iv, h0, h => by
    obtain ⟨h1, h2⟩ := h y x List.mem_cons_self h0
    show bindM (f y x) _ = _
    rw [h1, bind_pure]
    exact loopM_pure Iv h2 fun y x hx hy => h y x (List.mem_cons_of_mem _ hx) hy
structure Cnt (S : Type) where
  cnt : S → Nat
  most : Nat
def OkM (K : Cnt S) (c : Nat) (m : M S A) (Q : A → Prop) : Prop := ∀ s, K.cnt s + c ≤ K.most → ∃ a s', m s = some (a, s') ∧ Q a ∧ K.cnt s' ≤ K.cnt s + c
variable {K : Cnt S} {c c' d : Nat} {m : M S A} {n : M S B} {Q Q' : A → Prop} {T : B → Prop}
theorem OkM.pure {a : A} (h : Q a) : OkM K 0 (pureM a) Q := fun s _ => ⟨a, s, rfl, h, Nat.le_refl _⟩
theorem OkM.bind {k : A → M S B} (h : OkM K c m Q) (hk : ∀ a, Q a → OkM K d (k a) T) : OkM K (c + d) (bindM m k) T := fun s hs => by
  obtain ⟨a, s1, h1, h2, h3⟩ := h s (by omega)
  obtain ⟨b, s2, h4, h5, h6⟩ := hk a h2 s1 (by omega)
  refine ⟨b, s2, ?_, h5, by omega⟩
  unfold bindM
  rw [h1]
  exact h4
theorem OkM.mono (h : OkM K c m Q) (hc : c ≤ c') (hq : ∀ a, Q a → Q' a) : OkM K c' m Q' := fun s hs => by
  obtain ⟨a, s1, h1, h2, h3⟩ := h s (by omega)
  exact ⟨a, s1, h1, hq a h2, by omega⟩
theorem OkM.ofO {o : Option A} {a : A} (h : o = some a) (hq : Q a) : OkM K 0 (PL.ofO o) Q := fun s _ => ⟨a, s, by rw [h]; rfl, hq, Nat.le_refl _⟩
theorem OkM.of_eq {m' : M S A} (e : m = m') (h : OkM K c m' Q) : OkM K c m Q := e ▸ h
theorem OkM.guard {p : Prop} [Decidable p] (hp : p) (h : OkM K c m Q) : OkM K c (guardM p m) Q := by
  rw [guard_true hp]
  exact h
theorem OkM.lc {p : A → M S Bool} {f : A → M S B} {R : B → Prop} : ∀ {l : List A}, (∀ x ∈ l, OkM K 0 (p x) fun _ => True) → (∀ x ∈ l, OkM K c (f x) R) → OkM K (l.length * c) (lcM p f l) fun r => (∀ y ∈ r, R y) ∧ r.length ≤ l.length
  | [], _, _ => by
    refine OkM.mono (OkM.pure (a := []) (Q := fun r => (∀ y ∈ r, R y) ∧ r.length ≤ 0) ⟨fun y hy => absurd hy List.not_mem_nil, Nat.le_refl _⟩) (by simp) fun _ h => h
  | x :: l, h1, h2 => by
    have ih := OkM.lc (l := l) (fun y hy => h1 y (List.mem_cons_of_mem _ hy)) (fun y hy => h2 y (List.mem_cons_of_mem _ hy))
    have hc : ∀ y, R y → OkM K (l.length * c + 0) (bindM (lcM p f l) fun r => pureM (y :: r)) fun r : List B => (∀ y ∈ r, R y) ∧ r.length ≤ l.length + 1 := fun y hy =>
      OkM.bind ih fun r hr => OkM.pure ⟨fun z hz => (List.mem_cons.mp hz).elim (fun e => by rw [e]; exact hy) (hr.1 z), by rw [List.length_cons]; omega⟩
    have hb : ∀ b : Bool, OkM K (c + (l.length * c + 0)) (if b then bindM (f x) fun y => bindM (lcM p f l) fun r => pureM (y :: r) else lcM p f l) fun r : List B => (∀ y ∈ r, R y) ∧ r.length ≤ l.length + 1 := fun b => by
      cases b with
      | false => exact OkM.mono ih (by omega) fun r h => ⟨h.1, by omega⟩
      | true => exact OkM.bind (h2 x List.mem_cons_self) hc
    refine OkM.mono (OkM.bind (h1 x List.mem_cons_self) fun b _ => hb b) (by rw [List.length_cons, Nat.succ_mul]; omega) fun r h => h
/-- a comprehension without tests -/
theorem OkM.lcAll {f : A → M S B} {R : B → Prop} : ∀ {l : List A}, (∀ x ∈ l, OkM K c (f x) R) → OkM K (l.length * c) (lcM (fun _ => pureM true) f l) fun r => (∀ y ∈ r, R y) ∧ r.length = l.length
  | [], _ => by
    refine OkM.mono (OkM.pure (a := []) (Q := fun r => (∀ y ∈ r, R y) ∧ r.length = 0) ⟨fun y hy => absurd hy List.not_mem_nil, rfl⟩) (by simp) fun _ h => h
  | x :: l, h2 => by
    have ih := OkM.lcAll (l := l) (fun y hy => h2 y (List.mem_cons_of_mem _ hy))
    have e : lcM (fun _ => pureM true) f (x :: l) = bindM (f x) fun y => bindM (lcM (fun _ => pureM true) f l) fun r => pureM (y :: r) := rfl
    have hb : OkM K (c + (l.length * c + 0)) (bindM (f x) fun y => bindM (lcM (fun _ => pureM true) f l) fun r => pureM (y :: r)) fun r : List B => (∀ y ∈ r, R y) ∧ r.length = l.length + 1 :=
      OkM.bind (h2 x List.mem_cons_self) fun y hy => OkM.bind ih fun r hr => OkM.pure ⟨fun z hz => (List.mem_cons.mp hz).elim (fun e => by rw [e]; exact hy) (hr.1 z), by rw [List.length_cons]; omega⟩
    exact OkM.mono (OkM.of_eq e hb) (by rw [List.length_cons, Nat.succ_mul]; omega) fun r h => h
/-- a loop by an invariant: of the items taken and the state; it may return r with V r -/
theorem OkM.loop {f : L → A → M S (Fl L L R)} {V : R → Prop} (all : List A) (Iv : List A → L → Prop) (hf : ∀ pre x post y, all = pre ++ x :: post → Iv pre y → OkM K c (f y x) fun r => match r with
      | .nx y' => Iv (pre ++ [x]) y'
      | .ct y' => Iv (pre ++ [x]) y'
      | .bk _ => False
      | .rt r => V r) : ∀ (l pre : List A) (y : L), all = pre ++ l → Iv pre y → OkM K (l.length * c) (loopM f l y) fun r => match r with
      | .nx y' => Iv all y'
      | .rt r => V r
      | .bk z => z.elim
      | .ct z => z.elim
  | [], pre, y, e, h => by
    rw [List.append_nil] at e
    subst e
    exact OkM.mono (OkM.pure (a := (Fl.nx y : Fl L Empty R)) (Q := fun r => match r with
      | .nx y' => Iv all y'
      | .rt r => V r
      | .bk z => z.elim
      | .ct z => z.elim) h) (by simp) fun _ h => h
  | x :: l, pre, y, e, h => by
    refine OkM.mono (OkM.bind (d := l.length * c) (hf pre x l y e h) fun r hr => ?_) (by rw [List.length_cons, Nat.succ_mul]; omega) fun _ h => h
    have e2 : all = (pre ++ [x]) ++ l := by rw [e, List.append_assoc]; rfl
    cases r with
    | nx y' => exact OkM.loop all Iv hf l (pre ++ [x]) y' e2 hr
    | ct y' => exact OkM.loop all Iv hf l (pre ++ [x]) y' e2 hr
    | bk y' => exact hr.elim
    | rt v => exact OkM.mono (OkM.pure (a := (Fl.rt v : Fl L Empty R)) hr) (by omega) fun _ h => h
end
end PL

namespace PL
open PySem L2 Enc
theorem FnG.mono {P : Program} {w : World} {K : PySem.W.Frag} {mg : Str → Option Value} {base : Heap} {CX : CXT} {k j : Nat} {f : Addr} {fd : FuncData} {ps : List Str} {sp : Sp} (F : FnG P w K mg base CX k f fd ps sp) (h : k ≤ j) : FnG P w K mg base CX j f fd ps sp :=
  ⟨F.len, fun A outer s H args us vs Q E hr => F.run A outer s H args us vs Q E (hr.mono h)⟩
theorem DefG.mono {P : Program} {w : World} {K : PySem.W.Frag} {mg : Str → Option Value} {base : Heap} {CX : CXT} {k j : Nat} {x : Str} {ps : List Str} {sp : Sp} (D : DefG P w K mg base CX k x ps sp) (h : k ≤ j) : DefG P w K mg base CX j x ps sp := by
  obtain ⟨f, fd, F, a, b, c⟩ := D
  exact ⟨f, fd, F.mono h, a, b, c⟩
/-- what the making def returns -/
def deckD (l : List Int) : PyData := .list [enc l, enc (0 : Int)]
def initA (ns : List Int) : Dk := ⟨(ns.take 63).map absI, 0⟩
theorem rpl_ints {Z : Addr → Prop} {H : Hp} : ∀ {l : List Int} {xs : List V}, RpL Z H xs (l.map enc) → xs = l.map V.int
  | [], _, h => by
    cases h
    rfl
  | i :: l, _, h => by
    cases h with
    | cons a b =>
      obtain rfl := Rp.toInt a
      rw [rpl_ints b]
      rfl
theorem mk_A {mk : List Int → Option PyData} (e : ∀ ns, mk ns = some (deckD ((ns.take 63).map absI))) (ns : List Int) (Z : Addr → Prop) (H : Hp) (v : V) (d : PyData) (h : mk ns = some d) (r : Rp Z H v d) : ∃ t : DkA, v = .ref (rootA t) ∧ (fmA t).at_ (initA ns) H := by
  rw [e ns] at h
  cases h
  cases r with
  | lst z1 h1 r1 =>
    cases r1 with
    | cons a b =>
      cases b with
      | cons b c =>
        cases c
        obtain rfl := Rp.toInt b
        cases a with
        | lst z2 h2 r2 =>
          obtain rfl := rpl_ints r2
          refine ⟨⟨_, _, fun q => ?_⟩, rfl, h1, h2⟩
          rw [q, h2] at h1
          injection h1 with h1
          injection h1 with h1
          cases hl : (ns.take 63).map absI with
          | nil =>
            rw [hl] at h1
            cases h1
          | cons i l =>
            rw [hl] at h1
            cases h1
theorem mkA_eq (ns : List Int) : (retM none (retS (mapM1 enc (lstM (consM (mapM1 enc (compM (pureM (ns.take 63)) (fun _ : Int => pureM true) (fun x : Int => fun1M (fun n : Int => some (absI n)) (pureM x)))) (consM (mapM1 enc (pureM (0 : Int))) (pureM ([] : List PyData)))))) : M Unit (Fl Unit Empty PyData)) ()).map (·.1) = some (deckD ((ns.take 63).map absI)) := by
  have h : (ns.take 63).length ≤ 63 := List.length_take_le 63 ns
  have e : (compM (pureM (ns.take 63)) (fun _ : Int => pureM true) (fun x : Int => fun1M (fun n : Int => some (absI n)) (pureM x)) : M Unit (List Int)) = pureM ((ns.take 63).map absI) := compM_map (by omega) (fun _ _ => rfl) fun _ _ => rfl
  rw [e]
  rfl
end PL

namespace PL
open PySem L2 Enc
/-- shown in at most n signs, at most h deep -/
structure Bd (n h : Nat) (d : PyData) : Prop where
  sh : d.showable = true
  lay : d.canLay0 = true
  dep : d.depth ≤ h
  len : d.shown.length ≤ n
theorem Bd.mono {n m h k : Nat} {d : PyData} (b : Bd n h d) (h1 : n ≤ m) (h2 : h ≤ k) : Bd m k d := ⟨b.sh, b.lay, Nat.le_trans b.dep h2, Nat.le_trans b.len h1⟩
theorem Bd.int {i : Int} (h : i.natAbs < 10 ^ 60) : Bd 61 0 (.int i) := by
  refine ⟨?_, rfl, Nat.le_refl _, ?_⟩
  · have : i.natAbs.log2 < 1920 := by
      by_cases h0 : i.natAbs = 0
      · rw [h0]
        decide
      · exact (Nat.log2_lt h0).mpr (Nat.lt_trans h (by decide +kernel))
    simpa [PyData.showable] using this
  · show (Str.ofString (toString i)).length ≤ _
    rw [ofString_length]
    exact int_text_length_le10 (by decide) h
theorem Bd.bool {b : Bool} : Bd 5 0 (.bool b) := by cases b <;> exact ⟨rfl, rfl, Nat.le_refl _, by decide +kernel⟩
theorem Bd.none : Bd 4 0 .none := ⟨rfl, rfl, Nat.le_refl _, by decide +kernel⟩
theorem all_sh {n h : Nat} : ∀ {ds : List PyData}, (∀ d ∈ ds, Bd n h d) → PyData.showableAll ds = true ∧ PyData.canLayAll0 ds = true ∧ PyData.depthAll ds ≤ h ∧ piled (PyData.shownAll ds) ≤ ds.length * (n + 2)
  | [], _ => ⟨rfl, rfl, Nat.zero_le _, by simp [PyData.shownAll, piled]⟩
  | d :: ds, hb => by
    obtain ⟨a1, a2, a3, a4⟩ := all_sh (ds := ds) fun x hx => hb x (List.mem_cons_of_mem _ hx)
    obtain ⟨b1, b2, b3, b4⟩ := hb d List.mem_cons_self
    refine ⟨by simp [PyData.showableAll, a1, b1], by simp [PyData.canLayAll0, a2, b2], by simp only [PyData.depthAll]; omega, ?_⟩
    rw [PyData.shownAll, piled_cons, List.length_cons, Nat.succ_mul]
    omega
theorem listText_le (ts : List Str) : (listText ts).length ≤ piled ts + 2 := by
  cases ts with
  | nil => decide +kernel
  | cons t ts =>
    show (textFrom 1 _ ts ++ ("]" : Str)).length ≤ _
    rw [strLen_append, textFrom_length_pos _ _ _ (by decide), strLen_append, strLen_append, piled_cons]
    have e1 : (("[" : String) : Str).length = 1 := rfl
    have e2 : (("]" : String) : Str).length = 1 := rfl
    have e3 : (((if 0 > 0 then ", " else "") : String) : Str).length = 0 := rfl
    omega
theorem tupleText_le (ts : List Str) : (tupleText ts).length ≤ piled ts + 3 := by
  have e1 : (("(" : String) : Str).length = 1 := rfl
  have e4 : (((if ts.length == 1 then ",)" else ")") : String) : Str).length ≤ 2 := by
    split <;> decide +kernel
  show (("(" : Str) ++ Str.join ", " ts ++ _).length ≤ _
  rw [strLen_append, strLen_append]
  by_cases h : ts = []
  · subst h
    have e2 : (Str.join ", " []).length = 0 := rfl
    omega
  · have := join_length_add ts h
    omega
theorem Bd.list {n h k : Nat} {ds : List PyData} (hb : ∀ d ∈ ds, Bd n h d) (hk : ds.length ≤ k) : Bd (k * (n + 2) + 2) (h + 1) (.list ds) := by
  obtain ⟨a1, a2, a3, a4⟩ := all_sh hb
  refine ⟨by simpa [PyData.showable] using a1, by simpa [PyData.canLay0] using a2, by simp only [PyData.depth]; omega, ?_⟩
  have := listText_le (PyData.shownAll ds)
  have := Nat.mul_le_mul_right (n + 2) hk
  show (PyData.shown (.list ds)).length ≤ _
  simp only [PyData.shown]
  omega
theorem Bd.tup {n h k : Nat} {ds : List PyData} (hb : ∀ d ∈ ds, Bd n h d) (hk : ds.length ≤ k) : Bd (k * (n + 2) + 3) (h + 1) (.tuple ds) := by
  obtain ⟨a1, a2, a3, a4⟩ := all_sh hb
  refine ⟨by simpa [PyData.showable] using a1, by simpa [PyData.canLay0] using a2, by simp only [PyData.depth]; omega, ?_⟩
  have := tupleText_le (PyData.shownAll ds)
  have := Nat.mul_le_mul_right (n + 2) hk
  show (PyData.shown (.tuple ds)).length ≤ _
  simp only [PyData.shown]
  omega
section
variable {A B C : Type} [Enc A] [Enc B] [Enc C] {n m o h : Nat}
theorem Bd.listE {l : List A} {k : Nat} (hb : ∀ x ∈ l, Bd n h (enc x)) (hk : l.length ≤ k) : Bd (k * (n + 2) + 2) (h + 1) (enc l) :=
  Bd.list (fun d hd => by
    obtain ⟨x, hx, rfl⟩ := List.mem_map.mp hd
    exact hb x hx) (by rw [List.length_map]; exact hk)
theorem Bd.tupE {l : Tup A} {k : Nat} (hb : ∀ x ∈ unTup l, Bd n h (enc x)) (hk : (unTup l).length ≤ k) : Bd (k * (n + 2) + 3) (h + 1) (enc l) :=
  Bd.tup (ds := (unTup l).map enc) (fun d hd => by
    obtain ⟨x, hx, rfl⟩ := List.mem_map.mp hd
    exact hb x hx) (by rw [List.length_map]; exact hk)
theorem Bd.pair {x : A × B} (h1 : Bd n h (enc x.1)) (h2 : Bd n h (enc x.2)) : Bd (2 * (n + 2) + 3) (h + 1) (enc x) :=
  Bd.tup (ds := [enc x.1, enc x.2]) (fun d hd => by
    rcases List.mem_cons.mp hd with rfl | hd
    · exact h1
    · rcases List.mem_cons.mp hd with rfl | hd
      · exact h2
      · cases hd) (Nat.le_refl 2)
theorem Bd.t3 {x : T3 A B C} (h1 : Bd n h (enc x.a)) (h2 : Bd n h (enc x.b)) (h3 : Bd n h (enc x.c)) : Bd (3 * (n + 2) + 3) (h + 1) (enc x) :=
  Bd.tup (ds := [enc x.a, enc x.b, enc x.c]) (fun d hd => by
    rcases List.mem_cons.mp hd with rfl | hd
    · exact h1
    · rcases List.mem_cons.mp hd with rfl | hd
      · exact h2
      · rcases List.mem_cons.mp hd with rfl | hd
        · exact h3
        · cases hd) (Nat.le_refl 3)
theorem repF_of {x : A} (b : Bd n h (enc x)) (h1 : n ≤ 16777216) (h2 : h ≤ 60) : repF x = some (enc x).shown := if_pos ⟨b.sh, b.lay, Nat.le_trans b.dep h2, Nat.le_trans b.len h1⟩
end
end PL

namespace PL
open PySem L2 Enc
section
variable {S A B C D U N L R N1 L1 : Type}
theorem bind_guard {p : Prop} [Decidable p] (m : M S A) (k : A → M S B) : bindM (guardM p m) k = guardM p (bindM m k) := by
  unfold guardM
  split <;> rfl
theorem bind_if {b : Bool} (m n : M S A) (k : A → M S B) : bindM (if b = true then m else n) k = if b = true then bindM m k else bindM n k := by
  split <;> rfl
theorem bind_ite {p : Prop} [Decidable p] (m n : M S A) (k : A → M S B) : bindM (if p then m else n) k = if p then bindM m k else bindM n k := by
  split <;> rfl
theorem seq_nx (x : N1) (k : N1 → M S (Fl N L R)) : seqM (pureM (.nx x)) k = k x := rfl
theorem seq_rt (x : R) (k : N1 → M S (Fl N L R)) : seqM (pureM (.rt x)) k = pureM (.rt x) := rfl
theorem seq_bk (x : L) (k : N1 → M S (Fl N L R)) : seqM (pureM (.bk x)) k = pureM (.bk x) := rfl
theorem seq_ct (x : L) (k : N1 → M S (Fl N L R)) : seqM (pureM (.ct x)) k = pureM (.ct x) := rfl
theorem seq_bind (m : M S A) (f : A → M S (Fl N1 L R)) (k : N1 → M S (Fl N L R)) : seqM (bindM m f) k = bindM m fun a => seqM (f a) k := bind_assoc _ _ _
theorem seq_guard {p : Prop} [Decidable p] (m : M S (Fl N1 L R)) (k : N1 → M S (Fl N L R)) : seqM (guardM p m) k = guardM p (seqM m k) := bind_guard _ _
theorem seq_ite {p : Prop} [Decidable p] (m n : M S (Fl N1 L R)) (k : N1 → M S (Fl N L R)) : seqM (if p then m else n) k = if p then seqM m k else seqM n k := bind_ite _ _ _
theorem retM_nx (o : Option R) (x : Unit) : retM o (pureM (.nx x) : M S (Fl Unit Empty R)) = ofO o := rfl
theorem retM_rt (o : Option R) (x : R) : retM o (pureM (.rt x) : M S (Fl Unit Empty R)) = pureM x := rfl
theorem retM_bind (o : Option R) (m : M S A) (f : A → M S (Fl Unit Empty R)) : retM o (bindM m f) = bindM m fun a => retM o (f a) := bind_assoc _ _ _
theorem retM_guard {p : Prop} [Decidable p] (o : Option R) (m : M S (Fl Unit Empty R)) : retM o (guardM p m) = guardM p (retM o m) := bind_guard _ _
theorem retM_ite {p : Prop} [Decidable p] (o : Option R) (m n : M S (Fl Unit Empty R)) : retM o (if p then m else n) = if p then retM o m else retM o n := bind_ite _ _ _
theorem addM_nf (m n : M S Int) : addM m n = bindM m fun x => bindM n fun y => pureM (x + y) := rfl
theorem subM_nf (m n : M S Int) : subM m n = bindM m fun x => bindM n fun y => pureM (x - y) := rfl
theorem ofO_if {p : Prop} [Decidable p] (x : A) : (ofO (if p then some x else none) : M S A) = guardM p (pureM x) := by
  unfold guardM
  split <;> rfl
theorem mulM_nf (m n : M S Int) : mulM m n = bindM m fun x => bindM n fun y => guardM (mulOk x y) (pureM (x * y)) := by
  show bindM m (fun x => bindM n fun y => ofO (if mulOk x y then some (x * y) else none)) = _
  simp only [ofO_if]
theorem divM_nf (m n : M S Int) : divM m n = bindM m fun x => bindM n fun y => guardM (divOk x y) (pureM (x / y)) := by
  show bindM m (fun x => bindM n fun y => ofO (if divOk x y then some (x / y) else none)) = _
  simp only [ofO_if]
theorem modM_nf (m n : M S Int) : modM m n = bindM m fun x => bindM n fun y => guardM (modOk x y) (pureM (x % y)) := by
  show bindM m (fun x => bindM n fun y => ofO (if modOk x y then some (x % y) else none)) = _
  simp only [ofO_if]
theorem powM_nf (m n : M S Int) : powM m n = bindM m fun x => bindM n fun y => guardM (powOk x y) (pureM (x ^ y.toNat)) := by
  show bindM m (fun x => bindM n fun y => ofO (if powOk x y then some (x ^ y.toNat) else none)) = _
  simp only [ofO_if]
theorem catM_nf (m n : M S (List A)) : catM m n = bindM m fun x => bindM n fun y => guardM (lenOk (x.length + y.length)) (pureM (x ++ y)) := by
  show bindM m (fun x => bindM n fun y => ofO (if lenOk (x.length + y.length) then some (x ++ y) else none)) = _
  simp only [ofO_if]
theorem catTM_nf (m n : M S (Tup A)) : catTM m n = bindM m fun x => bindM n fun y => guardM (lenOk ((unTup x).length + (unTup y).length)) (pureM (toTup (unTup x ++ unTup y))) := by
  show mapM1 toTup (catM (mapM1 unTup m) (mapM1 unTup n)) = _
  simp only [catM_nf, mapM1, bind_assoc, bind_pure, bind_guard]
theorem cutTM_nf (m : M S (Tup A)) (n o : M S (Option Int)) : cutTM m n o = bindM m fun x => bindM n fun lo => bindM o fun hi => pureM (toTup (cutL lo hi (unTup x))) := by
  show mapM1 toTup (cutM (mapM1 unTup m) n o) = _
  simp only [cutM, mapM1, bind_assoc, bind_pure]
theorem ltM_nf (m n : M S Int) : ltM m n = bindM m fun x => bindM n fun y => pureM (decide (x < y)) := rfl
theorem leM_nf (m n : M S Int) : leM m n = bindM m fun x => bindM n fun y => pureM (decide (x ≤ y)) := rfl
theorem gtM_nf (m n : M S Int) : gtM m n = bindM m fun x => bindM n fun y => pureM (decide (y < x)) := rfl
theorem geM_nf (m n : M S Int) : geM m n = bindM m fun x => bindM n fun y => pureM (decide (y ≤ x)) := rfl
theorem eqIM_nf (m n : M S Int) : eqIM m n = bindM m fun x => bindM n fun y => pureM (decide (x = y)) := rfl
theorem neIM_nf (m n : M S Int) : neIM m n = bindM m fun x => bindM n fun y => pureM (!decide (x = y)) := rfl
theorem eqSM_nf (m n : M S Str) : eqSM m n = bindM m fun x => bindM n fun y => pureM (decide (x = y)) := rfl
theorem neSM_nf (m n : M S Str) : neSM m n = bindM m fun x => bindM n fun y => pureM (!decide (x = y)) := rfl
theorem eqDM_nf [Enc A] [Enc B] (m : M S A) (n : M S B) : eqDM m n = bindM m fun x => bindM n fun y => guardM (shpOk x ∧ shpOk y) (pureM (PyData.eqv (enc x) (enc y))) := by
  show bindM m (fun x => bindM n fun y => ofO (if shpOk x ∧ shpOk y then some (PyData.eqv (enc x) (enc y)) else none)) = _
  simp only [ofO_if]
theorem neDM_nf [Enc A] [Enc B] (m : M S A) (n : M S B) : neDM m n = bindM m fun x => bindM n fun y => guardM (shpOk x ∧ shpOk y) (pureM (!PyData.eqv (enc x) (enc y))) := by
  show bindM m (fun x => bindM n fun y => ofO (if shpOk x ∧ shpOk y then some (!PyData.eqv (enc x) (enc y)) else none)) = _
  simp only [ofO_if]
theorem ixM_nf (m : M S (List A)) (n : M S Int) : ixM m n = bindM m fun l => bindM n fun i => ofO (atI l i) := rfl
theorem fun1M_nf (f : A → Option B) (m : M S A) : fun1M f m = bindM m fun x => ofO (f x) := rfl
theorem fun2M_nf (f : A → B → Option C) (m : M S A) (n : M S B) : fun2M f m n = bindM m fun x => bindM n fun y => ofO (f x y) := rfl
theorem repM_nf (m : M S (List A)) (n : M S Int) : repM m n = bindM m fun x => bindM n fun k => guardM (-(2 ^ 62) ≤ k ∧ k < 2 ^ 62 ∧ lenOk (x.length * k.toNat)) (pureM (List.replicate k.toNat x).flatten) := by
  show bindM m (fun x => bindM n fun k => ofO (if -(2 ^ 62) ≤ k ∧ k < 2 ^ 62 ∧ lenOk (x.length * k.toNat) then some (List.replicate k.toNat x).flatten else none)) = _
  simp only [ofO_if]
end
def m_drawA (u : Int × Unit) : M Dk (Fl Unit Empty Int) :=
  (seqM (bindM (addM dkN (pureM (1 : Int))) fun y => bindM (dkSetN y) fun _ => pureM (.nx ())) (fun _ : Unit => (seqM (setS (tup2M (pureM (0 : Int)) (negM (pureM (1 : Int))))) (fun y1 : (Int × Int) => (seqM (iteM (gtM dkLen (pureM (0 : Int))) (seqM (setS (modM dkN dkLen)) (fun index2 : Int => (seqM (setS (bindM (pureM index2) dkCell)) (fun cell3 : Int => (pureM (.nx (cell3, index2))))))) (pureM (.nx (y1.1, y1.2)))) (fun s4 : (Int × Int) => (seqM (iteM (geM (pureM s4.1) (powM (pureM (10 : Int)) (pureM (18 : Int)))) (seqM (bindM (divM (pureM s4.1) (pureM u.1)) fun y => bindM (pureM s4.2) fun i => bindM (dkSetCell i y) fun _ => pureM (.nx ())) (fun _ : Unit => (retS (modM (pureM s4.1) (pureM u.1))))) (pureM (.nx ()))) (fun s5 : Unit => (retS (modM (divM (modM (powM (addM (addM (modM (pureM s4.1) (pureM (2147483587 : Int))) (mulM (pureM (7919 : Int)) dkN)) (pureM (1 : Int))) (pureM (5 : Int))) (pureM (2147483647 : Int))) (pureM (7 : Int))) (pureM u.1)))))))))))
def drawA (u : Int × Unit) : M Dk Int := retM none (m_drawA u)
/-- draws counted -/
def KA : Cnt Dk := ⟨fun s => if 0 ≤ s.n then s.n.toNat else 2 ^ 50 + 1, 2 ^ 50⟩
theorem KA_n {s : Dk} {c : Nat} (h : KA.cnt s + c ≤ KA.most) : 0 ≤ s.n ∧ s.n + c ≤ 2 ^ 50 := by
  have h' : (if 0 ≤ s.n then s.n.toNat else 2 ^ 50 + 1) + c ≤ 2 ^ 50 := h
  split at h'
  · omega
  · omega
theorem KA_of {s t : Dk} {c : Nat} (h : 0 ≤ s.n) (e : t.n = s.n + c) : KA.cnt t ≤ KA.cnt s + c := by
  show (if 0 ≤ t.n then t.n.toNat else 2 ^ 50 + 1) ≤ (if 0 ≤ s.n then s.n.toNat else 2 ^ 50 + 1) + c
  rw [if_pos h, if_pos (by omega)]
  omega
theorem wide_of {i : Int} (h : -(2 ^ 199) ≤ i) (h2 : i ≤ 2 ^ 199) : wide i := by
  unfold wide
  omega
theorem run_n {A : Type} (k : Int → M Dk A) (s : Dk) : bindM dkN k s = k s.n s := rfl
theorem run_len {A : Type} (k : Int → M Dk A) (s : Dk) : bindM dkLen k s = k (s.cells.length : Int) s := rfl
theorem run_setN {A : Type} (x : Int) (k : Unit → M Dk A) (s : Dk) : bindM (dkSetN x) k s = k () ⟨s.cells, x⟩ := rfl
theorem run_cell {A : Type} {i x : Int} {s : Dk} (h : atI s.cells i = some x) (k : Int → M Dk A) : bindM (dkCell i) k s = k x s := by
  unfold bindM dkCell
  rw [h]
  rfl
theorem run_setCell {A : Type} {i x : Int} {j : Nat} {s : Dk} (h : ixN s.cells.length i = some j) (k : Unit → M Dk A) : bindM (dkSetCell i x) k s = k () ⟨s.cells.set j x, s.n⟩ := by
  unfold bindM dkSetCell
  rw [h]
  rfl
theorem run_guard {A : Type} {p : Prop} [Decidable p] (h : p) (m : M Dk A) (s : Dk) : guardM p m s = m s := by rw [guard_true h]
theorem run_if {A : Type} {p : Prop} [Decidable p] (h : p) (m n : M Dk A) (s : Dk) : (if p then m else n) s = m s := by rw [if_pos h]
theorem run_else {A : Type} {p : Prop} [Decidable p] (h : ¬ p) (m n : M Dk A) (s : Dk) : (if p then m else n) s = n s := by rw [if_neg h]
theorem ok_drawA {n : Int} (hn : 0 < n) (hw : n ≤ 2 ^ 199) : OkM KA 1 (drawA (n, ())) fun r => 0 ≤ r ∧ r < n := by
  intro s hs
  obtain ⟨h0, h1⟩ := KA_n hs
  have hwn : divOk 0 n := ⟨hn, wide_of (by omega) hw⟩
  have p18 : powOk 10 18 := by decide
  have e18 : (10 : Int) ^ (18 : Int).toNat = 1000000000000000000 := by decide
  have hm : mulOk 7919 (s.n + 1) := ⟨by decide, wide_of (by omega) (by omega)⟩
  have hp : ∀ cell : Int, powOk (cell % 2147483587 + 7919 * (s.n + 1) + 1) 5 := fun cell => by
    have a1 : 0 ≤ cell % 2147483587 := Int.emod_nonneg _ (by decide)
    have a2 : cell % 2147483587 < 2147483587 := Int.emod_lt_of_pos _ (by decide)
    exact ⟨by decide, by decide, by omega⟩
  have ke : KA.cnt ⟨s.cells, s.n + 1⟩ ≤ KA.cnt s + 1 := KA_of h0 rfl
  have ks : ∀ j x, KA.cnt ⟨s.cells.set j x, s.n + 1⟩ ≤ KA.cnt s + 1 := fun j x => KA_of h0 rfl
  simp only [drawA, m_drawA, setS, retS, tup2M, pairM, mapM1, negM, iteM, gtM_nf, geM_nf, modM_nf, divM_nf, powM_nf, addM_nf, mulM_nf, bind_assoc, bind_pure, bind_guard, bind_ite, seq_bind, seq_guard, seq_nx, seq_rt, seq_ite, retM_bind, retM_guard, retM_rt, retM_ite,
    run_n, run_len, run_setN, run_guard p18, e18]
  have m2 : ∀ x : Int, modOk x 2147483587 := fun _ => (by decide : (0 : Int) < 2147483587)
  have m3 : ∀ x : Int, modOk x 2147483647 := fun _ => (by decide : (0 : Int) < 2147483647)
  have m4 : ∀ x : Int, divOk x 7 := fun _ => ⟨by decide, by decide⟩
  have m5 : ∀ x : Int, modOk x n := fun _ => hn
  have m6 : ∀ x : Int, divOk x n := fun _ => hwn
  by_cases hl : (0 : Int) < (s.cells.length : Int)
  · have e1 := Int.emod_nonneg (s.n + 1) (b := (s.cells.length : Int)) (by omega)
    have e2 := Int.emod_lt_of_pos (s.n + 1) hl
    have hj : ixN s.cells.length ((s.n + 1) % (s.cells.length : Int)) = some ((s.n + 1) % (s.cells.length : Int)).toNat := by
      unfold ixN
      rw [if_pos e1, if_pos e2]
    have hx : atI s.cells ((s.n + 1) % (s.cells.length : Int)) = some (s.cells[((s.n + 1) % (s.cells.length : Int)).toNat]'(by omega)) := by
      unfold atI
      rw [hj]
      exact List.getElem?_eq_getElem _
    rw [run_if (decide_eq_true hl), run_n, run_len, run_guard (show modOk (s.n + 1) (s.cells.length : Int) from hl), run_cell (s := ⟨s.cells, s.n + 1⟩) hx, run_guard p18]
    generalize (s.cells[((s.n + 1) % (s.cells.length : Int)).toNat]'(by omega)) = cell
    by_cases hc : 1000000000000000000 ≤ cell
    · rw [run_if (decide_eq_true hc), run_guard (m6 cell), run_setCell (s := ⟨s.cells, s.n + 1⟩) hj, run_guard (m5 cell)]
      exact ⟨_, _, rfl, ⟨Int.emod_nonneg _ (by omega), Int.emod_lt_of_pos _ hn⟩, ks _ _⟩
    · rw [run_else (by rw [decide_eq_false hc]; exact Bool.false_ne_true), run_guard (m2 _), run_n, run_guard hm, run_guard (hp _), run_guard (m3 _), run_guard (m4 _), run_guard (m5 _)]
      exact ⟨_, _, rfl, ⟨Int.emod_nonneg _ (by omega), Int.emod_lt_of_pos _ hn⟩, ke⟩
  · rw [run_else (by rw [decide_eq_false hl]; exact Bool.false_ne_true), run_guard p18, run_else (by decide), run_guard (m2 _), run_n, run_guard hm, run_guard (hp _), run_guard (m3 _), run_guard (m4 _), run_guard (m5 _)]
    exact ⟨_, _, rfl, ⟨Int.emod_nonneg _ (by omega), Int.emod_lt_of_pos _ hn⟩, ke⟩
end PL

namespace PL
open PySem L2 Enc
section
variable {S A B C D U N L R N1 L1 : Type} {K : Cnt S} {c d : Nat} {Q : A → Prop} {T : B → Prop}
theorem ob_pure {a : A} (h : Q a) : OkM K c (pureM a) Q := OkM.mono (OkM.pure h) (Nat.zero_le _) fun _ h => h
theorem ob_guard {p : Prop} [Decidable p] {m : M S A} (hp : p) (h : OkM K c m Q) : OkM K c (guardM p m) Q := OkM.guard hp h
theorem ob_if {b : Prop} [Decidable b] {m n : M S A} (h1 : b → OkM K c m Q) (h2 : ¬ b → OkM K c n Q) : OkM K c (if b then m else n) Q := by
  split
  · exact h1 ‹_›
  · exact h2 ‹_›
theorem ob_bind {m : M S A} {k : A → M S B} {e : Nat} (h : OkM K d m Q) (hd : d + e ≤ c) (hk : ∀ a, Q a → OkM K e (k a) T) : OkM K c (bindM m k) T := OkM.mono (OkM.bind h hk) hd fun _ h => h
theorem ob_ofO {o : Option A} {a : A} {k : A → M S B} (h : o = some a) (hk : OkM K c (k a) T) : OkM K c (bindM (ofO o) k) T := by
  rw [h]
  exact hk
theorem ob_ix {l : List A} {i : Int} {k : A → M S B} (h0 : 0 ≤ i) (h1 : i < (l.length : Int)) (hk : ∀ x, x ∈ l → OkM K c (k x) T) : OkM K c (bindM (ofO (atI l i)) k) T := by
  have hj : ixN l.length i = some i.toNat := by
    unfold ixN
    rw [if_pos h0, if_pos h1]
  have hx : atI l i = some (l[i.toNat]'(by omega)) := by
    unfold atI
    rw [hj]
    exact List.getElem?_eq_getElem _
  exact ob_ofO hx (hk _ (List.getElem_mem _))
theorem ob_ofO1 {o : Option A} {a : A} (h : o = some a) (hk : Q a) : OkM K c (ofO o) Q := by
  rw [h]
  exact ob_pure hk
theorem ob_lc {f : A → M S B} {k : List B → M S C} {l : List A} {P : B → Prop} {V : C → Prop} (N c1 e : Nat) (hl : l.length ≤ N) (hc : N * c1 + e ≤ c) (h : ∀ x ∈ l, OkM K c1 (f x) P) (hk : ∀ r : List B, (∀ y ∈ r, P y) → r.length = l.length → OkM K e (k r) V) :
    OkM K c (bindM (lcM (fun _ => pureM true) f l) k) V :=
  ob_bind (OkM.lcAll h) (Nat.le_trans (Nat.add_le_add_right (Nat.mul_le_mul_right _ hl) _) hc) fun r hr => hk r hr.1 hr.2
/-- a comprehension that is a map -/
theorem ob_map {f : A → M S B} {g : A → B} {k : List B → M S C} {l : List A} {V : C → Prop} (h : ∀ x ∈ l, f x = pureM (g x)) (hk : OkM K c (k (l.map g)) V) : OkM K c (bindM (lcM (fun _ => pureM true) f l) k) V := by
  rw [lcM_pure (q := fun _ => true) (g := g) (fun _ _ => rfl) fun x hx _ => h x hx, List.filter_eq_self.mpr fun _ _ => rfl]
  exact hk
theorem ob_filter {p : A → M S Bool} {f : A → M S B} {q : A → Bool} {g : A → B} {k : List B → M S C} {l : List A} {V : C → Prop} (h1 : ∀ x ∈ l, p x = pureM (q x)) (h : ∀ x ∈ l, q x = true → f x = pureM (g x)) (hk : OkM K c (k ((l.filter q).map g)) V) : OkM K c (bindM (lcM p f l) k) V := by
  rw [lcM_pure h1 h]
  exact hk
theorem ob_draw {n : Int} {k : Int → M Dk B} (hn : 0 < n) (hw : n ≤ 2 ^ 199) (hc : 1 ≤ c) (hk : ∀ r, 0 ≤ r → r < n → OkM KA (c - 1) (k r) T) : OkM KA c (bindM (drawA (n, ())) k) T :=
  ob_bind (ok_drawA hn hw) (by omega) fun r hr => hk r hr.1 hr.2
theorem ob_draw1 {n : Int} {Q : Int → Prop} (hn : 0 < n) (hw : n ≤ 2 ^ 199) (hc : 1 ≤ c) (hk : ∀ r, 0 ≤ r → r < n → Q r) : OkM KA c (drawA (n, ())) Q :=
  OkM.mono (ok_drawA hn hw) hc fun r hr => hk r hr.1 hr.2
/-- loops: an invariant of the items taken -/
theorem ob_for {f : L → A → M S (Fl L L R)} {k : L → M S (Fl N L1 R)} {l : List A} {y : L} {V : Fl N L1 R → Prop} (Nn c1 e : Nat) (Iv : List A → L → Prop) (hl : l.length ≤ Nn) (hc : Nn * c1 + e ≤ c) (h0 : Iv [] y)
    (h : ∀ pre x post y, l = pre ++ x :: post → Iv pre y → OkM K c1 (f y x) fun r => match r with
      | .nx y' => Iv (pre ++ [x]) y'
      | .ct y' => Iv (pre ++ [x]) y'
      | .bk _ => False
      | .rt r => V (.rt r)) (hk : ∀ y, Iv l y → OkM K e (k y) V) : OkM K c (seqM (liftM (loopM f l y)) k) V := by
  have h1 := OkM.loop (V := fun r => V (.rt r)) l Iv h l [] y rfl h0
  show OkM K c (bindM (bindM _ _) _) V
  rw [bind_assoc]
  refine ob_bind h1 (Nat.le_trans (Nat.add_le_add_right (Nat.mul_le_mul_right _ hl) _) hc) fun r hr => ?_
  cases r with
  | nx y' => exact hk y' hr
  | rt r => exact ob_pure hr
  | bk z => exact z.elim
  | ct z => exact z.elim
/-- loops that only look -/
theorem ob_each {f : Unit → A → M S (Fl Unit Unit R)} {k : Unit → M S (Fl N L1 R)} {l : List A} {V : Fl N L1 R → Prop} (Nn c1 e : Nat) (hl : l.length ≤ Nn) (hc : Nn * c1 + e ≤ c)
    (h : ∀ x ∈ l, OkM K c1 (f () x) fun r => r = .nx ()) (hk : OkM K e (k ()) V) : OkM K c (seqM (liftM (loopM f l ())) k) V :=
  ob_for Nn c1 e (fun _ _ => True) hl hc trivial (fun pre x post y e _ => OkM.mono (h x (by rw [e]; simp)) (Nat.le_refl _) fun r hr => by
    rw [hr]
    trivial) fun _ _ => hk
/-- a loop without failure that is a fold -/
theorem seq_fold {f : L → A → M S (Fl L L R)} {g : L → A → L} {l : List A} {y : L} (Iv : L → Prop) {k : L → M S (Fl N L1 R)} (h0 : Iv y) (h : ∀ y x, x ∈ l → Iv y → f y x = pureM (.nx (g y x)) ∧ Iv (g y x)) : seqM (liftM (loopM f l y)) k = k (l.foldl g y) := by
  rw [loopM_pure Iv h0 h]
  rfl
end
/-- the law at the end -/
theorem law_of {m : M Dk (Fl Unit Empty Bool)} {c : Nat} (hc : c ≤ 2 ^ 50) (h : OkM KA c m fun r => r = .rt true) (ns : List Int) : ∃ s', retM none m (initA ns) = some (true, s') := by
  obtain ⟨a, s', e, ha, _⟩ := h (initA ns) (show (if (0 : Int) ≤ 0 then (0 : Int).toNat else 2 ^ 50 + 1) + c ≤ 2 ^ 50 by simpa using hc)
  subst ha
  refine ⟨s', ?_⟩
  show bindM m _ _ = _
  unfold bindM
  rw [e]
  rfl
end PL

namespace PL
open PySem L2 Enc
/-- a loop and what comes after it -/
def lpM {S L R : Type} (m : M S (Fl L Empty R)) (k : L → M S R) : M S R := bindM m fun r => match r with
  | .nx y => k y
  | .rt r => pureM r
  | .bk z => z.elim
  | .ct z => z.elim
theorem retM_loop {S L R : Type} (o : Option R) (m : M S (Fl L Empty R)) (k : L → M S (Fl Unit Empty R)) : retM o (seqM (liftM m) k) = lpM m fun y => retM o (k y) := by
  show bindM (bindM (bindM m _) _) _ = bindM m _
  rw [bind_assoc, bind_assoc]
  congr 1
  funext r
  cases r with
  | nx y => rfl
  | rt r => rfl
  | bk z => exact z.elim
  | ct z => exact z.elim
theorem seq_seq {S N1 N2 N L R : Type} (m : M S (Fl N1 L R)) (k : N1 → M S (Fl N2 L R)) (k2 : N2 → M S (Fl N L R)) : seqM (seqM m k) k2 = seqM m fun y => seqM (k y) k2 := by
  show bindM (bindM m _) _ = bindM m _
  rw [bind_assoc]
  congr 1
  funext r
  cases r with
  | nx y => rfl
  | rt r => rfl
  | bk z => rfl
  | ct z => rfl
theorem bind_lp {S L R A : Type} (m : M S (Fl L Empty R)) (k : L → M S R) (k2 : R → M S A) : bindM (lpM m k) k2 = bindM m fun r => match r with
  | .nx y => bindM (k y) k2
  | .rt r => k2 r
  | .bk z => z.elim
  | .ct z => z.elim := by
  show bindM (bindM m _) _ = bindM m _
  rw [bind_assoc]
  congr 1
  funext r
  cases r with
  | nx y => rfl
  | rt r => rfl
  | bk z => exact z.elim
  | ct z => exact z.elim
/-- binds, guards and ifs move outward -/
theorem nf1 : (∀ {S A B : Type} (a : A) (k : A → M S B), bindM (pureM a) k = k a) ∧
    (∀ {S A B C : Type} (m : M S A) (f : A → M S B) (g : B → M S C), bindM (bindM m f) g = bindM m fun a => bindM (f a) g) ∧
    (∀ {S A B : Type} {p : Prop} [Decidable p] (m : M S A) (k : A → M S B), bindM (guardM p m) k = guardM p (bindM m k)) ∧
    (∀ {S A B : Type} {p : Prop} [Decidable p] (m n : M S A) (k : A → M S B), bindM (if p then m else n) k = if p then bindM m k else bindM n k) ∧
    (∀ {S N1 N L R : Type} (x : N1) (k : N1 → M S (Fl N L R)), seqM (pureM (.nx x)) k = k x) ∧
    (∀ {S N1 N L R : Type} (x : R) (k : N1 → M S (Fl N L R)), seqM (pureM (.rt x)) k = pureM (.rt x)) ∧
    (∀ {S N1 N L R : Type} (x : L) (k : N1 → M S (Fl N L R)), seqM (pureM (.bk x)) k = pureM (.bk x)) ∧
    (∀ {S N1 N L R : Type} (x : L) (k : N1 → M S (Fl N L R)), seqM (pureM (.ct x)) k = pureM (.ct x)) ∧
    (∀ {S A N1 N L R : Type} (m : M S A) (f : A → M S (Fl N1 L R)) (k : N1 → M S (Fl N L R)), seqM (bindM m f) k = bindM m fun a => seqM (f a) k) ∧
    (∀ {S N1 N L R : Type} {p : Prop} [Decidable p] (m : M S (Fl N1 L R)) (k : N1 → M S (Fl N L R)), seqM (guardM p m) k = guardM p (seqM m k)) ∧
    (∀ {S N1 N L R : Type} {p : Prop} [Decidable p] (m n : M S (Fl N1 L R)) (k : N1 → M S (Fl N L R)), seqM (if p then m else n) k = if p then seqM m k else seqM n k) ∧
    (∀ {S R : Type} (o : Option R) (x : R), retM o (pureM (.rt x) : M S (Fl Unit Empty R)) = pureM x) ∧
    (∀ {S R : Type} (o : Option R) (x : Unit), retM o (pureM (.nx x) : M S (Fl Unit Empty R)) = ofO o) ∧
    (∀ {S A R : Type} (o : Option R) (m : M S A) (f : A → M S (Fl Unit Empty R)), retM o (bindM m f) = bindM m fun a => retM o (f a)) ∧
    (∀ {S R : Type} {p : Prop} [Decidable p] (o : Option R) (m : M S (Fl Unit Empty R)), retM o (guardM p m) = guardM p (retM o m)) ∧
    (∀ {S R : Type} {p : Prop} [Decidable p] (o : Option R) (m n : M S (Fl Unit Empty R)), retM o (if p then m else n) = if p then retM o m else retM o n) ∧
    (∀ {S A B : Type} (f : A → B) (m : M S A), mapM1 f m = bindM m fun a => pureM (f a)) ∧
    (∀ {S A : Type} (a : A), (ofO (some a) : M S A) = pureM a) ∧
    (∀ {S L R : Type} (o : Option R) (m : M S (Fl L Empty R)) (k : L → M S (Fl Unit Empty R)), retM o (seqM (liftM m) k) = lpM m fun y => retM o (k y)) ∧
    (∀ {S N1 N2 N L R : Type} (m : M S (Fl N1 L R)) (k : N1 → M S (Fl N2 L R)) (k2 : N2 → M S (Fl N L R)), seqM (seqM m k) k2 = seqM m fun y => seqM (k y) k2) :=
  ⟨bind_pure, bind_assoc, bind_guard, bind_ite, seq_nx, seq_rt, seq_bk, seq_ct, seq_bind, seq_guard, seq_ite, retM_rt, retM_nx, retM_bind, retM_guard, retM_ite, fun _ _ => rfl, ofO_some, retM_loop, seq_seq⟩
theorem nf2 : (∀ {S : Type} (m n : M S Int), addM m n = bindM m fun x => bindM n fun y => pureM (x + y)) ∧
    (∀ {S : Type} (m n : M S Int), subM m n = bindM m fun x => bindM n fun y => pureM (x - y)) ∧
    (∀ {S : Type} (m n : M S Int), mulM m n = bindM m fun x => bindM n fun y => guardM (mulOk x y) (pureM (x * y))) ∧
    (∀ {S : Type} (m n : M S Int), divM m n = bindM m fun x => bindM n fun y => guardM (divOk x y) (pureM (x / y))) ∧
    (∀ {S : Type} (m n : M S Int), modM m n = bindM m fun x => bindM n fun y => guardM (modOk x y) (pureM (x % y))) ∧
    (∀ {S : Type} (m n : M S Int), powM m n = bindM m fun x => bindM n fun y => guardM (powOk x y) (pureM (x ^ y.toNat))) ∧
    (∀ {S : Type} (m : M S Int), negM m = bindM m fun x => pureM (-x)) ∧
    (∀ {S : Type} (m n : M S Int), ltM m n = bindM m fun x => bindM n fun y => pureM (decide (x < y))) ∧
    (∀ {S : Type} (m n : M S Int), leM m n = bindM m fun x => bindM n fun y => pureM (decide (x ≤ y))) ∧
    (∀ {S : Type} (m n : M S Int), gtM m n = bindM m fun x => bindM n fun y => pureM (decide (y < x))) ∧
    (∀ {S : Type} (m n : M S Int), geM m n = bindM m fun x => bindM n fun y => pureM (decide (y ≤ x))) ∧
    (∀ {S : Type} (m n : M S Int), eqIM m n = bindM m fun x => bindM n fun y => pureM (decide (x = y))) ∧
    (∀ {S : Type} (m n : M S Int), neIM m n = bindM m fun x => bindM n fun y => pureM (!decide (x = y))) ∧
    (∀ {S : Type} (m n : M S Str), eqSM m n = bindM m fun x => bindM n fun y => pureM (decide (x = y))) ∧
    (∀ {S : Type} (m n : M S Str), neSM m n = bindM m fun x => bindM n fun y => pureM (!decide (x = y))) ∧
    (∀ {S A B : Type} [Enc A] [Enc B] (m : M S A) (n : M S B), eqDM m n = bindM m fun x => bindM n fun y => guardM (shpOk x ∧ shpOk y) (pureM (PyData.eqv (enc x) (enc y)))) ∧
    (∀ {S A B : Type} [Enc A] [Enc B] (m : M S A) (n : M S B), neDM m n = bindM m fun x => bindM n fun y => guardM (shpOk x ∧ shpOk y) (pureM (!PyData.eqv (enc x) (enc y)))) ∧
    (∀ {S : Type} (m n : M S Bool), andM m n = bindM m fun c => if c then n else pureM false) ∧
    (∀ {S : Type} (m n : M S Bool), orM m n = bindM m fun c => if c then pureM true else n) ∧
    (∀ {S : Type} (m : M S Bool), notM m = bindM m fun c => pureM (!c)) ∧
    (∀ {S A : Type} (m : M S Bool) (x y : M S A), iteM m x y = bindM m fun c => if c then x else y) ∧
    (∀ {S : Type} (f g : Int → Int → Bool) (m n o : M S Int), chainM f g m n o = bindM m fun x => bindM n fun y => if f x y then bindM o fun z => pureM (g y z) else pureM false) :=
  ⟨addM_nf, subM_nf, mulM_nf, divM_nf, modM_nf, powM_nf, fun _ => rfl, ltM_nf, leM_nf, gtM_nf, geM_nf, eqIM_nf, neIM_nf, eqSM_nf, neSM_nf, eqDM_nf, neDM_nf, fun _ _ => rfl, fun _ _ => rfl, fun _ => rfl, fun _ _ _ => rfl, fun _ _ _ _ _ => rfl⟩
theorem nf3 : (∀ {S A B : Type} (m : M S A) (n : M S B), pairM m n = bindM m fun u => bindM n fun w => pureM (u, w)) ∧
    (∀ {S A : Type} (m : M S A) (n : M S (List A)), consM m n = bindM m fun u => bindM n fun w => pureM (u :: w)) ∧
    (∀ {S A : Type} (m n : M S (List A)), appM m n = bindM m fun u => bindM n fun w => pureM (u ++ w)) ∧
    (∀ {S A B : Type} (m : M S A) (n : M S B), tup2M m n = bindM m fun u => bindM n fun w => pureM (u, w)) ∧
    (∀ {S A B C : Type} (m : M S A) (n : M S B) (o : M S C), tup3M m n o = bindM m fun u => bindM n fun w => bindM o fun x => pureM (⟨u, w, x⟩ : T3 A B C)) ∧
    (∀ {S A : Type} (m : M S (List A)), lstM m = bindM m fun l => guardM (lenOk l.length) (pureM l)) ∧
    (∀ {S A : Type} (m : M S (List A)), tupM m = bindM m fun l => guardM (lenOk l.length) (pureM (toTup l))) ∧
    (∀ {S A B : Type} (ml : M S (List A)) (p : A → M S Bool) (f : A → M S B), compM ml p f = bindM ml fun l => guardM (lenOk l.length) (lcM p f l)) ∧
    (∀ {S N L R : Type} (m : M S R), (retS m : M S (Fl N L R)) = bindM m fun r => pureM (.rt r)) ∧
    (∀ {S N L R : Type} (m : M S N), (setS m : M S (Fl N L R)) = bindM m fun r => pureM (.nx r)) ∧
    (∀ {S A L R : Type} (l : List A) (m : M S A), (appS l m : M S (Fl A L R)) = bindM m fun y => guardM (lenOk (l.length + 1)) (pureM (.nx y))) ∧
    (∀ {S A N L R : Type} (ml : M S (List A)) (f : N → A → M S (Fl N N R)) (y0 : N), (forS ml f y0 : M S (Fl N L R)) = bindM ml fun l => liftM (loopM f l y0)) ∧
    (∀ {S A U : Type} (f : U → Option A) (m : M S U), callF f m = bindM m fun u => ofO (f u)) ∧
    (∀ {S A B : Type} (f : A → Option B) (m : M S A), fun1M f m = bindM m fun u => ofO (f u)) ∧
    (∀ {S A B C : Type} (f : A → B → Option C) (m : M S A) (n : M S B), fun2M f m n = bindM m fun x => bindM n fun y => ofO (f x y)) ∧
    (∀ {S : Type} (m : M S (List Int)), sortUM m = bindM m fun l => guardM (l.length < 64) (pureM (sortU l))) ∧
    (∀ {S : Type} (m : M S Int), rng1M m = bindM m fun n => guardM (rgOk n) (pureM (rangeL 0 n))) ∧
    (∀ {S : Type} (m n : M S Int), rng2M m n = bindM m fun lo => bindM n fun hi => guardM (rgOk lo ∧ rgOk hi) (pureM (rangeL lo hi))) ∧
    (∀ {S A B : Type} (m : M S (List A)) (n : M S (List B)), zipM m n = bindM m fun x => bindM n fun y => pureM (x.zip y)) ∧
    (∀ {S A : Type} (m : M S (List A)), enumM m = bindM m fun x => pureM (x.zipIdx.map fun q => ((q.2 : Int), q.1))) ∧
    (∀ {S A : Type} (m : M S (Tup A)), untM m = bindM m fun x => pureM (unTup x)) ∧
    (∀ {S A : Type} (m n : M S (List A)), catM m n = bindM m fun x => bindM n fun y => guardM (lenOk (x.length + y.length)) (pureM (x ++ y))) ∧
    (∀ {S A : Type} (m n : M S (Tup A)), catTM m n = bindM m fun x => bindM n fun y => guardM (lenOk ((unTup x).length + (unTup y).length)) (pureM (toTup (unTup x ++ unTup y)))) ∧
    (∀ {S A : Type} (m : M S (List A)) (n o : M S (Option Int)), cutM m n o = bindM m fun x => bindM n fun lo => bindM o fun hi => pureM (cutL lo hi x)) ∧
    (∀ {S A : Type} (m : M S (Tup A)) (n o : M S (Option Int)), cutTM m n o = bindM m fun x => bindM n fun lo => bindM o fun hi => pureM (toTup (cutL lo hi (unTup x)))) ∧
    (∀ {S A : Type} (m : M S (List A)) (n : M S Int), ixM m n = bindM m fun l => bindM n fun i => ofO (atI l i)) ∧
    (∀ {S A : Type} (m : M S (List A)) (n : M S Int), repM m n = bindM m fun x => bindM n fun k => guardM (-(2 ^ 62) ≤ k ∧ k < 2 ^ 62 ∧ lenOk (x.length * k.toNat)) (pureM (List.replicate k.toNat x).flatten)) := by
  refine ⟨fun _ _ => rfl, fun _ _ => rfl, fun _ _ => rfl, fun m n => ?_, fun m n o => ?_, fun _ => rfl, fun _ => rfl, fun _ _ _ => rfl, fun _ => rfl, fun _ => rfl, fun _ _ => rfl, fun _ _ _ => rfl, fun _ _ => rfl, fun _ _ => rfl, fun _ _ _ => rfl, fun _ => rfl, fun _ => rfl, fun _ _ => rfl, fun _ _ => rfl, fun _ => rfl, fun _ => rfl,
    catM_nf, catTM_nf, fun _ _ _ => rfl, cutTM_nf, fun _ _ => rfl, repM_nf⟩
  · simp only [tup2M, mapM1, pairM, bind_assoc, bind_pure]
  · simp only [tup3M, mapM1, pairM, bind_assoc, bind_pure]
theorem f_of {A : Type} {o : Option A} {m : M Unit (Fl Unit Empty A)} {v : A} (h : retM o m = pureM v) : (retM o m ()).map (·.1) = some v := by
  rw [h]
  rfl
theorem foldl_app {A B : Type} (f : A → B) : ∀ (l : List A) (y : List B), l.foldl (fun y x => y ++ [f x]) y = y ++ l.map f
  | [], y => by simp
  | x :: l, y => by
    rw [List.foldl_cons, foldl_app f l, List.map_cons]
    simp
/-- neighbours in an ascending list -/
theorem gap {l : List Int} (h : l.Pairwise (· < ·)) : ∀ {k : Nat} {a b : Int}, l[k]? = some a → l[k + 1]? = some b → a < b ∧ ∀ m ∈ l, m ≤ a ∨ b ≤ m := by
  intro k a b ha hb
  obtain ⟨hk, ea⟩ := List.getElem?_eq_some_iff.mp ha
  obtain ⟨hk1, eb⟩ := List.getElem?_eq_some_iff.mp hb
  have hp := List.pairwise_iff_getElem.mp h
  refine ⟨by rw [← ea, ← eb]; exact hp k (k + 1) hk hk1 (by omega), fun m hm => ?_⟩
  obtain ⟨j, hj, rfl⟩ := List.mem_iff_getElem.mp hm
  by_cases q : j ≤ k
  · by_cases q2 : j = k
    · subst q2
      exact .inl (by omega)
    · exact .inl (by rw [← ea]; exact Int.le_of_lt (hp j k hj hk (by omega)))
  · by_cases q2 : j = k + 1
    · subst q2
      exact .inr (by omega)
    · exact .inr (by rw [← eb]; exact Int.le_of_lt (hp (k + 1) j hk1 hj (by omega)))
theorem zip_tail {A : Type} (l : List A) : l.zip (l.drop 1) = (List.range (l.length - 1)).attach.map fun i => (l[i.1]'(by have := List.mem_range.mp i.2; omega), l[i.1 + 1]'(by have := List.mem_range.mp i.2; omega)) := by
  apply List.ext_getElem
  · simp
  · intro i h1 h2
    simp [Nat.add_comm]
/-- tests put together -/
theorem nf4 : (∀ {S : Type} (b x : Bool), (if b = true then (pureM x : M S Bool) else pureM false) = pureM (b && x)) ∧
    (∀ {S : Type} (b x : Bool), (if b = true then (pureM true : M S Bool) else pureM x) = pureM (b || x)) ∧
    (∀ {S A B : Type} (g : A → B) (l : List A), lcM (fun _ => (pureM true : M S Bool)) (fun x => (pureM (g x) : M S B)) l = pureM (l.map g)) ∧
    (∀ {S A B : Type} (q : A → Bool) (g : A → B) (l : List A), lcM (fun x => (pureM (q x) : M S Bool)) (fun x => (pureM (g x) : M S B)) l = pureM ((l.filter q).map g)) ∧
    (∀ {A : Type} (l : List A), l.filter (fun _ => true) = l) ∧
    (∀ {A : Type} (m n : A), (if true = true then m else n) = m) ∧ (∀ {A : Type} (m n : A), (if false = true then m else n) = n) ∧
    (∀ {A : Type} (m n : A), (if True then m else n) = m) ∧ (∀ {A : Type} (m n : A), (if False then m else n) = n) ∧
    (∀ {A : Type} (l : List A), [] ++ l = l) ∧ (∀ {A : Type} (l : List A), l ++ [] = l) ∧ (∀ {A : Type} (l : List A), l.map (fun x => x) = l) ∧ (∀ {A : Type} (x : A) (l : List A), [x] ++ l = x :: l) ∧ (∀ {A : Type} (l : List A), unTup (toTup l) = l) ∧ (∀ {A : Type} (l : Tup A), toTup (unTup l) = l) :=
  ⟨fun b x => by cases b <;> rfl, fun b x => by cases b <;> rfl, fun g l => by rw [lcM_pure (q := fun _ => true) (g := g) (fun _ _ => rfl) fun _ _ _ => rfl, List.filter_eq_self.mpr fun _ _ => rfl], fun q g l => lcM_pure (fun _ _ => rfl) fun _ _ _ => rfl, fun _ => List.filter_eq_self.mpr fun _ _ => rfl, fun _ _ => rfl, fun _ _ => rfl, fun _ _ => if_pos trivial, fun _ _ => if_neg not_false, fun _ => rfl, List.append_nil, List.map_id', fun _ _ => rfl, fun _ => rfl, fun _ => rfl⟩
theorem foldl_sum {A : Type} (q : A → Bool) (g : A → Int) : ∀ (l : List A) (y : Int), l.foldl (fun s x => if q x = true then s + g x else s) y = y + ((l.filter q).map g).sum
  | [], y => by simp
  | x :: l, y => by
    rw [List.foldl_cons, foldl_sum q g l]
    cases e : q x with
    | true =>
      rw [if_pos rfl, List.filter_cons_of_pos e, List.map_cons, List.sum_cons]
      omega
    | false =>
      rw [if_neg Bool.false_ne_true, List.filter_cons_of_neg (by rw [e]; exact Bool.false_ne_true)]
theorem foldl_add {A : Type} (g : A → Int) : ∀ (l : List A) (y : Int), l.foldl (fun s x => s + g x) y = y + (l.map g).sum
  | [], y => by simp
  | x :: l, y => by
    rw [List.foldl_cons, foldl_add g l, List.map_cons, List.sum_cons]
    omega
theorem atI_nth {A : Type} {l : List A} {k : Nat} (h : k < l.length) : atI l (k : Int) = some l[k] := by
  unfold atI
  have e : ixN l.length (k : Int) = some k := by
    unfold ixN
    rw [if_pos (by omega), if_pos (by omega), Int.toNat_natCast]
  rw [e]
  exact List.getElem?_eq_getElem h
theorem lenOk_le {n : Nat} (h : n ≤ 16777216) : lenOk n := h
theorem mem_rangeL {lo hi k : Int} : k ∈ rangeL lo hi ↔ lo ≤ k ∧ k < hi := by
  unfold rangeL
  rw [List.mem_map]
  constructor
  · rintro ⟨i, hi, rfl⟩
    have := List.mem_range.mp hi
    omega
  · intro h
    exact ⟨(k - lo).toNat, List.mem_range.mpr (by omega), by omega⟩
theorem len_rangeL (lo hi : Int) : (rangeL lo hi).length = (hi - lo).toNat := by
  unfold rangeL
  rw [List.length_map, List.length_range]
theorem get_rangeL {lo hi : Int} {i : Nat} (h : i < (rangeL lo hi).length) : (rangeL lo hi)[i] = lo + (i : Int) := by
  have e : (rangeL lo hi)[i]? = some (lo + (i : Int)) := by
    have h' : i < (hi - lo).toNat := by
      rw [len_rangeL] at h
      exact h
    show ((List.range (hi - lo).toNat).map _)[i]? = _
    rw [List.getElem?_map, List.getElem?_range h']
    rfl
  rw [List.getElem?_eq_getElem h] at e
  exact Option.some.inj e
theorem loop_app {S A B R : Type} {f : List B → A → M S (Fl (List B) (List B) R)} {g : A → B} : ∀ {l : List A} {y : List B}, y.length + l.length ≤ 16777216 → (∀ y x, x ∈ l → f y x = guardM (lenOk (y.length + 1)) (pureM (.nx (y ++ [g x])))) → loopM f l y = pureM (.nx (y ++ l.map g))
  | [], y, _, _ => by rw [List.map_nil, List.append_nil]; rfl
  | x :: l, y, h, hf => by
    show bindM (f y x) _ = _
    rw [List.length_cons] at h
    rw [hf y x List.mem_cons_self, guard_true (show lenOk (y.length + 1) from (by omega : y.length + 1 ≤ 16777216)), bind_pure]
    show loopM f l (y ++ [g x]) = _
    rw [loop_app (by rw [List.length_append, List.length_singleton]; omega) fun y x hx => hf y x (List.mem_cons_of_mem _ hx), List.map_cons, List.append_assoc]
    rfl
theorem seq_app {S A B N L R : Type} {f : List B → A → M S (Fl (List B) (List B) R)} (g : A → B) {l : List A} {k : List B → M S (Fl N L R)} (h : l.length ≤ 16777216) (hf : ∀ y x, x ∈ l → f y x = guardM (lenOk (y.length + 1)) (pureM (.nx (y ++ [g x])))) : seqM (liftM (loopM f l [])) k = k (l.map g) := by
  rw [loop_app (by simpa using h) hf]
  rfl
theorem cutL_tail {A : Type} (l : List A) : cutL (some 1) none l = l.drop 1 := by
  have e : HT.sIx l.length 0 (some 1) = min 1 l.length := by
    show (if (1 : Int) < 0 then ((1 : Int) + (l.length : Int)).toNat else min (1 : Int).toNat l.length) = _
    rw [if_neg (by decide)]
    rfl
  show (l.drop (HT.sIx l.length 0 (some 1))).take (l.length - HT.sIx l.length 0 (some 1)) = _
  rw [e, ← List.length_drop, List.take_length]
  cases l with
  | nil => rfl
  | cons x l => rw [show min 1 (x :: l).length = 1 by simp]
theorem cutL_init {A : Type} (l : List A) : cutL none (some (-1)) l = l.dropLast := by
  show (l.drop 0).take ((if (-1 : Int) < 0 then ((-1 : Int) + (l.length : Int)).toNat else min (-1 : Int).toNat l.length) - 0) = _
  rw [if_pos (by decide), List.drop_zero, Nat.sub_zero, List.dropLast_eq_take]
  congr 1
  omega
theorem lp_app {S A B R : Type} {f : List B → A → M S (Fl (List B) (List B) R)} (g : A → B) {l : List A} {k : List B → M S R} (h : l.length ≤ 16777216) (hf : ∀ y x, x ∈ l → f y x = guardM (lenOk (y.length + 1)) (pureM (.nx (y ++ [g x])))) : lpM (loopM f l []) k = k (l.map g) := by
  rw [loop_app (by simpa using h) hf]
  rfl
theorem lp_fold {S L A R : Type} {f : L → A → M S (Fl L L R)} {g : L → A → L} {l : List A} {y : L} (Iv : L → Prop) {k : L → M S R} (h0 : Iv y) (h : ∀ y x, x ∈ l → Iv y → f y x = pureM (.nx (g y x)) ∧ Iv (g y x)) : lpM (loopM f l y) k = k (l.foldl g y) := by
  rw [loopM_pure Iv h0 h]
  rfl
theorem ob_lp {S A L R : Type} {K : Cnt S} {c : Nat} {f : L → A → M S (Fl L L R)} {k : L → M S R} {l : List A} {y : L} {V : R → Prop} (Nn c1 e : Nat) (Iv : List A → L → Prop) (hl : l.length ≤ Nn) (hc : Nn * c1 + e ≤ c) (h0 : Iv [] y)
    (h : ∀ pre x post y, l = pre ++ x :: post → Iv pre y → OkM K c1 (f y x) fun r => match r with
      | .nx y' => Iv (pre ++ [x]) y'
      | .ct y' => Iv (pre ++ [x]) y'
      | .bk _ => False
      | .rt r => V r) (hk : ∀ y, Iv l y → OkM K e (k y) V) : OkM K c (lpM (loopM f l y) k) V := by
  have h1 := OkM.loop (V := V) l Iv h l [] y rfl h0
  refine ob_bind h1 (Nat.le_trans (Nat.add_le_add_right (Nat.mul_le_mul_right _ hl) _) hc) fun r hr => ?_
  cases r with
  | nx y' => exact hk y' hr
  | rt r => exact ob_pure hr
  | bk z => exact z.elim
  | ct z => exact z.elim
theorem ob_lp_each {S A R : Type} {K : Cnt S} {c : Nat} {f : Unit → A → M S (Fl Unit Unit R)} {k : Unit → M S R} {l : List A} {V : R → Prop} (Nn c1 e : Nat) (hl : l.length ≤ Nn) (hc : Nn * c1 + e ≤ c)
    (h : ∀ x ∈ l, OkM K c1 (f () x) fun r => r = .nx ()) (hk : OkM K e (k ()) V) : OkM K c (lpM (loopM f l ()) k) V :=
  ob_lp Nn c1 e (fun _ _ => True) hl hc trivial (fun pre x post y e _ => OkM.mono (h x (by rw [e]; simp)) (Nat.le_refl _) fun r hr => by
    rw [hr]
    trivial) fun _ _ => hk
inductive F2 {A B : Type} (P : A → B → Prop) : List A → List B → Prop
  | nil : F2 P [] []
  | cons {a : A} {b : B} {l : List A} {r : List B} : P a b → F2 P l r → F2 P (a :: l) (b :: r)
theorem F2.len {A B : Type} {P : A → B → Prop} : ∀ {l : List A} {r : List B}, F2 P l r → r.length = l.length
  | _, _, .nil => rfl
  | _, _, .cons _ t => by rw [List.length_cons, List.length_cons, F2.len t]
theorem F2.app {A B : Type} {P : A → B → Prop} {a : A} {b : B} (h : P a b) : ∀ {l : List A} {r : List B}, F2 P l r → F2 P (l ++ [a]) (r ++ [b])
  | _, _, .nil => .cons h .nil
  | _, _, .cons x t => .cons x (F2.app h t)
theorem F2.mem {A B : Type} {P : A → B → Prop} : ∀ {l : List A} {r : List B}, F2 P l r → ∀ b ∈ r, ∃ a, a ∈ l ∧ P a b
  | _, _, .nil, b, hb => absurd hb List.not_mem_nil
  | _, _, .cons x t, b, hb => by
    rcases List.mem_cons.mp hb with rfl | hb
    · exact ⟨_, List.mem_cons_self, x⟩
    · obtain ⟨a, h1, h2⟩ := F2.mem t b hb
      exact ⟨a, List.mem_cons_of_mem _ h1, h2⟩
theorem F2.map {A B : Type} {P : A → B → Prop} {g : B → A} (h : ∀ a b, P a b → g b = a) : ∀ {l : List A} {r : List B}, F2 P l r → r.map g = l
  | _, _, .nil => rfl
  | _, _, .cons x t => by rw [List.map_cons, h _ _ x, F2.map h t]
/-- a loop that grows a list, one item a turn -/
theorem ob_lp_grow {S A B R : Type} {K : Cnt S} {c : Nat} {f : List B → A → M S (Fl (List B) (List B) R)} {k : List B → M S R} {l : List A} {V : R → Prop} (Nn c1 e : Nat) (P : A → B → Prop) (hl : l.length ≤ Nn) (hc : Nn * c1 + e ≤ c)
    (h : ∀ x ∈ l, ∀ y : List B, y.length < Nn → OkM K c1 (f y x) fun r => ∃ b, P x b ∧ r = .nx (y ++ [b])) (hk : ∀ y, F2 P l y → OkM K e (k y) V) : OkM K c (lpM (loopM f l []) k) V :=
  ob_lp Nn c1 e (fun pre y => F2 P pre y) hl hc .nil (fun pre x post y e hy => by
    have hyl := hy.len
    have hll : pre.length < l.length := by rw [e]; simp
    refine OkM.mono (h x (by rw [e]; simp) y (by omega)) (Nat.le_refl _) fun r hr => ?_
    obtain ⟨b, hb, rfl⟩ := hr
    exact hy.app hb) hk
theorem p10_6 : (10 : Int) ^ (Int.toNat 6) = 1000000 := by decide
theorem p10_9 : (10 : Int) ^ (Int.toNat 9) = 1000000000 := by decide
theorem p10_18 : (10 : Int) ^ (Int.toNat 18) = 1000000000000000000 := by decide
end PL

namespace PL
open PySem L2 Enc
/-- a dict as its pairs, in its order -/
def Dic (A : Type) := List (Int × A)
def toDic {A : Type} (l : List (Int × A)) : Dic A := l
def unDic {A : Type} (l : Dic A) : List (Int × A) := l
def dkv {A : Type} [Enc A] (p : Int × A) : PyData × PyData := (kD (.inl p.1), enc p.2)
instance {A : Type} [Enc A] : Enc (Dic A) := ⟨fun l => .dict (List.map dkv (unDic l))⟩
def valD {A : Type} (l : Dic A) (k : Int) : Option A := ((unDic l).find? fun p => decide (p.1 = k)).map (·.2)
def putD {A : Type} (l : Dic A) (k : Int) (x : A) : Dic A := toDic (if ((unDic l).any fun p => decide (p.1 = k)) = true then (unDic l).map (fun p => if p.1 = k then (p.1, x) else p) else unDic l ++ [(k, x)])
def mkD {A : Type} (l : List (Int × A)) : Dic A := l.foldl (fun d p => putD d p.1 p.2) (toDic [])
def keysD {A : Type} (l : Dic A) : List Int := (unDic l).map (·.1)
section
variable {A B : Type} [Enc A] [Enc B] {Z : Addr → Prop} {H : Hp}
theorem kD_inl {k : Key} {i : Int} (e : kD k = kD (.inl i)) : k = .inl i := by
  cases k with
  | inl j =>
    have e' : PyData.int j = PyData.int i := e
    injection e' with e'
    rw [e']
  | inr x => cases e
theorem RpK.val {l : List (Int × A)} {k : Int} : ∀ {kvs : List (Key × V)}, RpK Z H kvs (l.map dkv) → (valD (toDic l) k = none → valV kvs (.inl k) = none) ∧ ∀ x, valD (toDic l) k = some x → ∃ v, valV kvs (.inl k) = some v ∧ Rp Z H v (enc x) := by
  induction l with
  | nil =>
    intro kvs r
    cases r
    exact ⟨fun _ => rfl, fun x e => by cases e⟩
  | cons p l ih =>
    intro kvs r
    have r' : RpK Z H kvs ((kD (.inl p.1), enc p.2) :: l.map dkv) := r
    generalize ek : kD (.inl p.1) = kd at r'
    cases r' with
    | @cons k0 v r0 _ _ h t =>
      obtain rfl := kD_inl ek.symm
      obtain ⟨a, b⟩ := ih t
      by_cases e : p.1 = k
      · have e1 : valD (toDic (p :: l)) k = some p.2 := by
          unfold valD
          show ((p :: l).find? _).map _ = _
          rw [List.find?_cons_of_pos (by simpa using e)]
          rfl
        rw [valV_pos (show (Sum.inl p.1 : Key) = .inl k by rw [e]), e1]
        exact ⟨(fun z => nomatch z), fun x z => by
          cases z
          exact ⟨v, rfl, h⟩⟩
      · have e1 : valD (toDic (p :: l)) k = valD (toDic l) k := by
          unfold valD
          show ((p :: l).find? _).map _ = _
          rw [List.find?_cons_of_neg (by simpa using e)]
          rfl
        have ne : ¬ (Sum.inl p.1 : Key) = .inl k := fun z => e (by injection z)
        rw [valV_neg (p := ((Sum.inl p.1 : Key), v)) ne, e1]
        exact ⟨a, b⟩
theorem RpK.len : ∀ {kvs : List (Key × V)} {ds : List (PyData × PyData)}, RpK Z H kvs ds → kvs.length = ds.length
  | _, _, .nil => rfl
  | _, _, .cons _ t => by rw [List.length_cons, List.length_cons, RpK.len t]
theorem RpK.any {l : List (Int × A)} {k : Int} : ∀ {kvs : List (Key × V)}, RpK Z H kvs (l.map dkv) → (kvs.any fun kv => decide (kv.1 = .inl k)) = l.any fun p => decide (p.1 = k) := by
  induction l with
  | nil =>
    intro kvs r
    cases r
    rfl
  | cons p l ih =>
    intro kvs r
    have r' : RpK Z H kvs ((kD (.inl p.1), enc p.2) :: l.map dkv) := r
    generalize ek : kD (.inl p.1) = kd at r'
    cases r' with
    | @cons k0 v r0 _ _ h t =>
      obtain rfl := kD_inl ek.symm
      rw [List.any_cons, List.any_cons, ih t]
      congr 1
      simp
theorem RpK.repl {l : List (Int × A)} {k : Int} {x : A} {v : V} (rv : Rp Z H v (enc x)) : ∀ {kvs : List (Key × V)}, RpK Z H kvs (l.map dkv) → RpK Z H (kvs.map fun kv => if kv.1 = .inl k then (kv.1, v) else kv) ((l.map fun p => if p.1 = k then (p.1, x) else p).map dkv) := by
  induction l with
  | nil =>
    intro kvs r
    cases r
    exact .nil
  | cons p l ih =>
    intro kvs r
    have r' : RpK Z H kvs ((kD (.inl p.1), enc p.2) :: l.map dkv) := r
    generalize ek : kD (.inl p.1) = kd at r'
    cases r' with
    | @cons k0 w r0 _ _ h t =>
      obtain rfl := kD_inl ek.symm
      rw [List.map_cons, List.map_cons, List.map_cons]
      by_cases e : p.1 = k
      · rw [if_pos e, if_pos (by rw [e])]
        exact .cons (k := .inl p.1) rv (ih t)
      · rw [if_neg e, if_neg (fun z => e (by injection z))]
        exact .cons (k := .inl p.1) h (ih t)
theorem RpK.snoc {k : Key} {v : V} {d : PyData} (rv : Rp Z H v d) : ∀ {kvs : List (Key × V)} {ds : List (PyData × PyData)}, RpK Z H kvs ds → RpK Z H (kvs ++ [(k, v)]) (ds ++ [(kD k, d)])
  | _, _, .nil => .cons rv .nil
  | _, _, .cons h t => .cons h (RpK.snoc rv t)
theorem RpK.put {l : List (Int × A)} {k : Int} {x : A} {v : V} {kvs : List (Key × V)} (rv : Rp Z H v (enc x)) (r : RpK Z H kvs (l.map dkv)) : RpK Z H (putK kvs (.inl k) v) ((unDic (putD (toDic l) k x)).map dkv) := by
  unfold putK putD
  rw [r.any]
  show RpK Z H _ (List.map dkv (if (l.any _) = true then l.map _ else l ++ [(k, x)]))
  by_cases e : (l.any fun p => decide (p.1 = k)) = true
  · rw [if_pos e, if_pos e]
    exact r.repl rv
  · rw [if_neg e, if_neg e, List.map_append]
    exact RpK.snoc rv r
theorem putD_len (l : Dic A) (k : Int) (x : A) : (unDic (putD l k x)).length ≤ (unDic l).length + 1 := by
  unfold putD
  show (if _ then _ else _ : List (Int × A)).length ≤ _
  split
  · rw [List.length_map]
    omega
  · rw [List.length_append]
    exact Nat.le_refl _
theorem Rp.toDic {v : V} {l : Dic A} (r : Rp Z H v (enc l)) : ∃ p kvs, v = .ref p ∧ ¬ Z p ∧ Rd H p (.dK kvs) ∧ RpK Z H kvs (List.map dkv (unDic l)) := by
  have r' : Rp Z H v (.dict (List.map dkv (unDic l))) := r
  cases r' with
  | dic n h t => exact ⟨_, _, rfl, n, h, t⟩
end
section
variable {I S A B C U N L R : Type} [Enc A] [Enc B] [Enc C] [Enc R] {Xs : I → Cx} {F : Fm S} {G : List Sl} {pos p p2 : Pos} {e a b c : Expr} {K : PySem.W.Frag} {x : Str}
theorem DGet.rk {H : Hp} {a : Addr} {kvs : List (Key × V)} {k : Key} (e : Rd H a (.dK kvs)) : DGet H a (kV k) (valV kvs k) := .inl ⟨kvs, k, e, rfl, rfl⟩
/-- a dict that is read, be it data or one's own -/
def ED (Xs : I → Cx) (F : Fm S) (G : List Sl) (e : Expr) (m : M S (Dic A)) : Prop := ∃ te, (∀ i, PE (Xs i) e te) ∧
  ∀ Zx t H s l s', Gd F Zx G s t H → m s = some (l, s') → ∀ Q : VK, (∀ p H', Gd F Zx G s' t H' → Fix F H H' → (∀ s2 H2, Gd F Zx G s2 t H2 → Fix F H' H2 → ∃ kvs, Rd H2 p (.dK kvs) ∧ RpK (ZF F Zx G t) H2 kvs (List.map dkv (unDic l))) → Q (.ref p) H') → te t H Q
theorem ed_of {m : M S (Dic A)} (h : EV Xs F G e m) : ED Xs F G e m := by
  obtain ⟨te, hp, ho⟩ := h
  refine ⟨te, hp, fun Zx t H s l s' g hm Q q => ho Zx t H s l s' g hm Q fun v H' g' f' r => ?_⟩
  obtain ⟨pp, kvs, rfl, n, h, rk⟩ := r.toDic
  refine q pp H' g' f' fun s2 H2 g2 f2 => ?_
  obtain ⟨pp', kvs', e', _, h', rk'⟩ := (r.fix f2).toDic
  cases e'
  exact ⟨kvs', h', rk'⟩
theorem ed_own {l : Dic A} {k : Nat} (h : G[k]? = some (.own (enc l))) (hN : ∀ i, (Xs i).N[k]? = some x := by intro _; rfl)
    (hv : ∀ i, Vis (Xs i).env.scope x := by first | exact fun _ => Or.inl rfl | exact fun _ => Or.inr (Or.inl rfl) | exact fun _ => Or.inr (Or.inr rfl))
    (hd : (x == ("__debug__" : Str)) = false := by decide) (hcd : (x == ("__classdict__" : Str)) = false := by decide) : ED Xs F G (.Name x pos) (pureM l) := by
  refine ⟨tVar k, fun i => pe_var (hN i) (hv i) hd hcd, fun Zx t H s l' s' g hm Q q => ?_⟩
  obtain ⟨rfl, rfl⟩ := pure_eq hm
  obtain ⟨hk, _⟩ := List.getElem?_eq_some_iff.mp h
  have hk' : k < t.length := by
    rw [g.len]
    exact hk
  have ht : t[k]? = some (t[k]'hk') := List.getElem?_eq_getElem hk'
  obtain ⟨pp, ep, _⟩ := g.slot k _ _ h ht
  rw [ep] at ht
  refine ⟨.ref pp, ht, q pp H g (Fix.refl H) fun s2 H2 g2 f2 => ?_⟩
  obtain ⟨pp', ep', r2⟩ := g2.slot k _ _ h ht
  cases ep'
  exact r2.imp fun _ h => ⟨.inl h.1, h.2⟩
/-- d[k] -/
def getDM (m : M S (Dic A)) (n : M S Int) : M S A := bindM m fun l => bindM n fun k => ofO (valD l k)
theorem ev_dget {m : M S (Dic A)} {n : M S Int} {k : Nat} (hr : ∀ i, Room k (Xs i).A) (hd : ED Xs F G a m) (hk : EV Xs F G b n) (hs : NoSl b := by exact fun _ _ => rfl) : EV Xs F G (.Subscript a b pos) (getDM m n) := by
  obtain ⟨td, hp, hx⟩ := hd
  obtain ⟨ty, hq, hy⟩ := hk
  refine ⟨tDGet td ty, fun i => pe_dget (by have := (hr i).units; omega) (hp i) (hq i) hs, fun Zx t H s y s' g hm Q q => ?_⟩
  obtain ⟨l, s1, e1, e2⟩ := bind_some hm
  obtain ⟨z, s2, e3, e4⟩ := bind_some e2
  obtain ⟨e5, rfl⟩ := ofO_eq e4
  refine hx Zx t H s l s1 g e1 _ fun pp H1 g1 f1 st => ?_
  refine hy Zx t H1 s1 z s2 g1 e3 _ fun u H2 g2 f2 r2 => ?_
  obtain rfl := r2.toInt
  obtain ⟨kvs, hkv, rk⟩ := st s2 H2 g2 f2
  obtain ⟨v, hv, rv⟩ := (RpK.val (l := unDic l) (k := z) rk).2 y e5
  exact ⟨pp, v, rfl, by rw [← hv]; exact DGet.rk (k := .inl z) hkv, q v H2 g2 (f1.trans f2) rv⟩
/-- k in d -/
def inDM (m : M S Int) (n : M S (Dic A)) : M S Bool := bindM m fun k => bindM n fun l => pureM (valD l k).isSome
def ninDM (m : M S Int) (n : M S (Dic A)) : M S Bool := bindM m fun k => bindM n fun l => pureM (!(valD l k).isSome)
theorem valV_some {Z : Addr → Prop} {H : Hp} {l : Dic A} {k : Int} {kvs : List (Key × V)} (rk : RpK Z H kvs (List.map dkv (unDic l))) : (valV kvs (.inl k)).isSome = (valD l k).isSome := by
  obtain ⟨h1, h2⟩ := RpK.val (l := unDic l) (k := k) rk
  cases e : valD l k with
  | none =>
    rw [h1 e]
    rfl
  | some y =>
    obtain ⟨v, hv, _⟩ := h2 y e
    rw [hv]
    rfl
theorem ok_din {ty td : TE} {m : M S Int} {n : M S (Dic A)} (hy : TEok F G ty m)
    (hx : ∀ Zx t H s l s', Gd F Zx G s t H → n s = some (l, s') → ∀ Q : VK, (∀ p H', Gd F Zx G s' t H' → Fix F H H' → (∀ s2 H2, Gd F Zx G s2 t H2 → Fix F H' H2 → ∃ kvs, Rd H2 p (.dK kvs) ∧ RpK (ZF F Zx G t) H2 kvs (List.map dkv (unDic l))) → Q (.ref p) H') → td t H Q) : TEok F G (tDIn ty td) (inDM m n) := fun Zx t H s y s' g hm Q q => by
  obtain ⟨z, s1, e1, e2⟩ := bind_some hm
  obtain ⟨l, s2, e3, e4⟩ := bind_some e2
  obtain ⟨rfl, rfl⟩ := pure_eq e4
  refine hy Zx t H s z s1 g e1 _ fun u H1 g1 f1 r1 => ?_
  obtain rfl := r1.toInt
  refine hx Zx t H1 s1 l s2 g1 e3 _ fun pp H2 g2 f2 st => ?_
  obtain ⟨kvs, hkv, rk⟩ := st s2 H2 g2 (Fix.refl H2)
  refine ⟨pp, _, rfl, DGet.rk (k := .inl z) hkv, ?_⟩
  rw [valV_some rk]
  exact q _ H2 g2 (f1.trans f2) (.bl _)
theorem ok_dnin {ty td : TE} {m : M S Int} {n : M S (Dic A)} (hy : TEok F G ty m)
    (hx : ∀ Zx t H s l s', Gd F Zx G s t H → n s = some (l, s') → ∀ Q : VK, (∀ p H', Gd F Zx G s' t H' → Fix F H H' → (∀ s2 H2, Gd F Zx G s2 t H2 → Fix F H' H2 → ∃ kvs, Rd H2 p (.dK kvs) ∧ RpK (ZF F Zx G t) H2 kvs (List.map dkv (unDic l))) → Q (.ref p) H') → td t H Q) : TEok F G (tDNotIn ty td) (ninDM m n) := fun Zx t H s y s' g hm Q q => by
  obtain ⟨z, s1, e1, e2⟩ := bind_some hm
  obtain ⟨l, s2, e3, e4⟩ := bind_some e2
  obtain ⟨rfl, rfl⟩ := pure_eq e4
  refine hy Zx t H s z s1 g e1 _ fun u H1 g1 f1 r1 => ?_
  obtain rfl := r1.toInt
  refine hx Zx t H1 s1 l s2 g1 e3 _ fun pp H2 g2 f2 st => ?_
  obtain ⟨kvs, hkv, rk⟩ := st s2 H2 g2 (Fix.refl H2)
  refine ⟨pp, _, rfl, DGet.rk (k := .inl z) hkv, ?_⟩
  rw [valV_some rk]
  exact q _ H2 g2 (f1.trans f2) (.bl _)
theorem ev_inD {m : M S Int} {n : M S (Dic A)} {k : Nat} (hr : ∀ i, Room k (Xs i).A) (hk : EV Xs F G a m) (hd : ED Xs F G b n) (hm : behindInMarks .In b = false := by rfl) : EV Xs F G (.Compare a [.In] [b] pos) (inDM m n) := by
  obtain ⟨td, hp, hx⟩ := hd
  obtain ⟨ty, hq, hy⟩ := hk
  exact ⟨tDIn ty td, fun i => pe_cmp (pc_din (by have := (hr i).units; omega) (hq i) (hp i)) hm, ok_din hy hx⟩
theorem ev_ninD {m : M S Int} {n : M S (Dic A)} {k : Nat} (hr : ∀ i, Room k (Xs i).A) (hk : EV Xs F G a m) (hd : ED Xs F G b n) (hm : behindInMarks .NotIn b = false := by rfl) : EV Xs F G (.Compare a [.NotIn] [b] pos) (ninDM m n) := by
  obtain ⟨td, hp, hx⟩ := hd
  obtain ⟨ty, hq, hy⟩ := hk
  exact ⟨tDNotIn ty td, fun i => pe_cmp (pc_dnotin (by have := (hr i).units; omega) (hq i) (hp i)) hm, ok_dnin hy hx⟩
theorem et_inD {m : M S Int} {n : M S (Dic A)} {k : Nat} (hr : ∀ i, Room k (Xs i).A) (hk : EV Xs F G a m) (hd : ED Xs F G b n) (hm : behindInMarks .In b = false := by rfl) : ET Xs F G (.Compare a [.In] [b] pos) (inDM m n) := by
  obtain ⟨td, hp, hx⟩ := hd
  obtain ⟨ty, hq, hy⟩ := hk
  refine ⟨tB (tDIn ty td), fun i => pt_cmp (pc_din (by have := (hr i).units; omega) (hq i) (hp i)) hm, fun Zx t H s y s' g hm' Q q => ?_⟩
  exact ok_din hy hx Zx t H s y s' g hm' _ fun v H' g' f' r' => ⟨y, r'.bool, q H' g' f'⟩
theorem et_ninD {m : M S Int} {n : M S (Dic A)} {k : Nat} (hr : ∀ i, Room k (Xs i).A) (hk : EV Xs F G a m) (hd : ED Xs F G b n) (hm : behindInMarks .NotIn b = false := by rfl) : ET Xs F G (.Compare a [.NotIn] [b] pos) (ninDM m n) := by
  obtain ⟨td, hp, hx⟩ := hd
  obtain ⟨ty, hq, hy⟩ := hk
  refine ⟨tB (tDNotIn ty td), fun i => pt_cmp (pc_dnotin (by have := (hr i).units; omega) (hq i) (hp i)) hm, fun Zx t H s y s' g hm' Q q => ?_⟩
  exact ok_dnin hy hx Zx t H s y s' g hm' _ fun v H' g' f' r' => ⟨y, r'.bool, q H' g' f'⟩
/-- d.get(k, e) -/
def getD2M (m : M S (Dic A)) (n : M S Int) (o : M S A) : M S A := bindM m fun l => bindM n fun k => bindM o fun x => pureM ((valD l k).getD x)
theorem ev_dget2 {m : M S (Dic A)} {n : M S Int} {o : M S A} {k : Nat} {apos cpos : Pos} (hr : ∀ i, Room k (Xs i).A) (hd : ED Xs F G a m) (hk : EV Xs F G b n) (ho : EV Xs F G c o)
    (hM : ∀ i, M2 (Xs i) a "get" apos b c cpos := by intro _; exact ⟨rfl, rfl, rfl, rfl⟩) : EV Xs F G (.Call (.Attribute a "get" apos) [b, c] [] cpos) (getD2M m n o) := by
  obtain ⟨td, hp, hx⟩ := hd
  obtain ⟨ty, hq, hy⟩ := hk
  obtain ⟨tz, hw, hz⟩ := ho
  refine ⟨tDGet2 td ty tz, fun i => pe_dget2 (by have := (hr i).units; omega) (hp i) (hq i) (hw i) (hM i), fun Zx t H s y s' g hm Q q => ?_⟩
  obtain ⟨l, s1, e1, e2⟩ := bind_some hm
  obtain ⟨z, s2, e3, e4⟩ := bind_some e2
  obtain ⟨d, s3, e5, e6⟩ := bind_some e4
  obtain ⟨rfl, rfl⟩ := pure_eq e6
  refine hx Zx t H s l s1 g e1 _ fun pp H1 g1 f1 st => ?_
  obtain ⟨kvs1, hkv1, _⟩ := st s1 H1 g1 (Fix.refl H1)
  refine ⟨pp, rfl, .inl ⟨kvs1, hkv1⟩, ?_⟩
  refine hy Zx t H1 s1 z s2 g1 e3 _ fun u H2 g2 f2 r2 => ?_
  obtain rfl := r2.toInt
  refine hz Zx t H2 s2 d s3 g2 e5 _ fun v H3 g3 f3 r3 => ?_
  obtain ⟨kvs, hkv, rk⟩ := st s3 H3 g3 (f2.trans f3)
  obtain ⟨h1, h2⟩ := RpK.val (l := unDic l) (k := z) rk
  refine ⟨_, DGet.rk (k := .inl z) hkv, ?_⟩
  cases ev : valD l z with
  | none =>
    rw [h1 ev]
    rw [ev] at q
    exact q v H3 g3 ((f1.trans f2).trans f3) r3
  | some w =>
    obtain ⟨v', hv', rv'⟩ := h2 w ev
    rw [hv']
    rw [ev] at q
    exact q v' H3 g3 ((f1.trans f2).trans f3) rv'
/-- {} -/
theorem eo_dnil : EO Xs F G (.Dict [] [] pos) (pureM (toDic [] : Dic A)) := by
  refine ⟨tDNewK, fun _ => pe_dnewK, fun Zx t H s y s' g hm Q q pp hn => ?_⟩
  obtain ⟨rfl, rfl⟩ := pure_eq hm
  exact q pp _ (g.more hn) (Fix.same (same_new hn)) hn ⟨[], upd_same, .nil⟩
theorem ev_dnil : EV Xs F G (.Dict [] [] pos) (pureM (toDic [] : Dic A)) := by
  refine ⟨tDNewK, fun _ => pe_dnewK, fun Zx t H s y s' g hm Q q pp hn => ?_⟩
  obtain ⟨rfl, rfl⟩ := pure_eq hm
  exact q _ _ (g.same (same_new hn)) (Fix.same (same_new hn)) (.dic (g.new hn) (.inl upd_same) .nil)
/-- d[k] = e, d in slot j -/
theorem ss_dput {Gq : L → List Sl} {l : Dic A} {m : M S A} {n : M S Int} {j k : Nat} {pos' px : Pos} (hj : G[j]? = some (.own (enc l))) (hr : ∀ i, Room k (Xs i).A) (hv : EV Xs F G e m) (hk : EV Xs F G b n) (hN : ∀ i, (Xs i).N[j]? = some x := by intro _; rfl)
    (hvs : ∀ i, Vis (Xs i).env.scope x := by first | exact fun _ => Or.inl rfl | exact fun _ => Or.inr (Or.inl rfl) | exact fun _ => Or.inr (Or.inr rfl)) (hd : (x == ("__debug__" : Str)) = false := by decide) (hcd : (x == ("__classdict__" : Str)) = false := by decide)
    (hs : ∀ i, swapsWith e (some (.Subscript (.Name x px) b pos')) pos.line (Xs i).env = pure false := by intro _; rfl) :
    SS (R := R) (L := L) Xs F G (.Assign [.Subscript (.Name x px) b pos'] e pos) (bindM m fun y => bindM n fun k => guardM (lenOk ((unDic l).length + 1)) (pureM (.nx (putD l k y)))) (fun l' : Dic A => G.set j (.own (enc l'))) Gq := by
  obtain ⟨te, hp, hx⟩ := hv
  obtain ⟨ty, hq, hy⟩ := hk
  refine ⟨sDPut (tVar j) ty te, fun i => ps_dput (by have := (hr i).units; omega) (pe_var (hN i) (hvs i) hd hcd) (hq i) (hp i) (hs i), fun Zx t H s r s' g hm D q => ?_⟩
  obtain ⟨y, s1, e1, e2⟩ := bind_some hm
  obtain ⟨z, s2, e3, e4⟩ := bind_some e2
  obtain ⟨hl, e5⟩ := guard_eq e4
  obtain ⟨rfl, rfl⟩ := pure_eq e5
  obtain ⟨hkl, _⟩ := List.getElem?_eq_some_iff.mp hj
  have hk' : j < t.length := by
    rw [g.len]
    exact hkl
  have ht : t[j]? = some (t[j]'hk') := List.getElem?_eq_getElem hk'
  obtain ⟨pp, ep, _⟩ := g.slot j _ _ hj ht
  rw [ep] at ht
  refine hx Zx t H s y s1 g e1 _ fun v H1 g1 f1 r1 => ?_
  refine ⟨.ref pp, ht, ?_⟩
  refine hy Zx t H1 s1 z s2 g1 e3 _ fun u H2 g2 f2 r2 => ?_
  obtain rfl := r2.toInt
  obtain ⟨pp', ep', kvs, hkv, rk⟩ := g2.slot j _ _ hj ht
  cases ep'
  have hlen : kvs.length = (unDic l).length := by rw [rk.len, List.length_map]
  refine ⟨pp, _, rfl, DPut.k (k := .inl z) hkv ?_, ?_⟩
  · rw [hlen]
    exact Nat.lt_of_lt_of_le (Nat.lt_succ_self _) (lenOk_line hl)
  · have hown : Own G t pp := ⟨j, _, hj, ht⟩
    have ex : Ext (ZF F Zx G t) H2 (ZF F Zx G t) (upd H2 pp (.dK (putK kvs (.inl z) v))) := ⟨fun b u z h => by
      rw [upd_ne (fun k => z (by rw [k]; exact .inr (.inr hown)))]
      exact h, fun b z => .inl z⟩
    obtain ⟨g3, own3⟩ := g2.putOwn (o := .dK (putK kvs (.inl z) v)) (d' := enc (putD l z y)) hj ht ⟨_, upd_same, (RpK.put (l := unDic l) (r1.fix f2) rk).ext ex⟩
    refine q t _ g3 ⟨fun b o z w h => ?_, fun b z => .inl ((own3 b).mp z)⟩
    rw [upd_ne (fun k => w (by rw [k]; exact hown))]
    exact f2 b o z (f1 b o z h)
/-- sorted(d) -/
def sortDM (m : M S (Dic A)) : M S (List Int) := bindM m fun l => guardM ((unDic l).length < 64) (pureM (sortI (keysD l)))
theorem keys_of {Z : Addr → Prop} {H : Hp} {l : List (Int × A)} : ∀ {kvs : List (Key × V)}, RpK Z H kvs (l.map dkv) → kvs.map (·.1) = (l.map (·.1)).map Sum.inl := by
  induction l with
  | nil =>
    intro kvs r
    cases r
    rfl
  | cons p l ih =>
    intro kvs r
    have r' : RpK Z H kvs ((kD (.inl p.1), enc p.2) :: l.map dkv) := r
    generalize ek : kD (.inl p.1) = kd at r'
    cases r' with
    | @cons k0 v r0 _ _ h t =>
      obtain rfl := kD_inl ek.symm
      rw [List.map_cons, List.map_cons, List.map_cons, ih t]
theorem ev_sortedD {m : M S (Dic A)} (hm : ∀ i, (Xs i).mg "sorted" = none) (hd : ED Xs F G a m) (hc : ∀ i, (Xs i).calm = true := by intro _; rfl) (hg : ∀ i, Gl (Xs i) "sorted" := by intro _; rfl)
    (he : ∀ i, starEach [a] (Xs i).env = (false, eval a (Xs i).env) :: starEach [] (Xs i).env := by intro _; rfl) : EV Xs F G (.Call (.Name "sorted" p) [a] [] pos) (sortDM m) := by
  obtain ⟨td, hp, hx⟩ := hd
  refine ⟨tCB (fun xs H Q => ∃ (a : Addr) (kvs : List (Key × V)) (ks : List Int), xs = [.ref a] ∧ Rd H a (.dK kvs) ∧ kvs.map (·.1) = ks.map Sum.inl ∧ ks.length < 64 ∧
    ∀ (ys : List Int) (p : Addr), ys.Perm ks → ys.Pairwise (· ≤ ·) → H p = none → Q (.ref p) (upd H p (.lst (ys.map V.int)))) (tCons td tNil),
    fun i => pe_callB (call_sortedDI (hc i)) (hg i) (hm i) bb_sorted (pa_cons (hp i) pa_nil (he i)) (by decide) (by decide) (he i) rfl, fun Zx t H s y s' g hm' Q q => ?_⟩
  obtain ⟨l, s1, h1, h2⟩ := bind_some hm'
  obtain ⟨hl, h3⟩ := guard_eq h2
  obtain ⟨rfl, rfl⟩ := pure_eq h3
  refine hx Zx t H s l s1 g h1 _ fun pp H1 g1 f1 st => ?_
  obtain ⟨kvs, hkv, rk⟩ := st s1 H1 g1 (Fix.refl H1)
  refine ⟨pp, kvs, keysD l, rfl, hkv, keys_of (l := unDic l) rk, ?_, fun ys pn h1 h2 hpn => ?_⟩
  · unfold keysD
    rw [List.length_map]
    exact hl
  · have e : ys = sortI (keysD l) := sorted_one (h1.trans (sortI_perm _).symm) h2 (sortI_le _)
    subst e
    exact q _ _ (g1.same (same_new hpn)) (f1.trans (Fix.same (same_new hpn))) (.lst (g1.new hpn) upd_same (RpL.of_ints _))
end
end PL

namespace PL
open PySem L2 Enc
/-- items that are pairs -/
inductive PairsAt (H : Hp) : List V → List (Key × V) → Prop
  | nil : PairsAt H [] []
  | cons {T : Addr} {k : Key} {v : V} {xs : List V} {kvs : List (Key × V)} : TupB H T [kV k, v] → PairsAt H xs kvs → PairsAt H (V.ref T :: xs) ((k, v) :: kvs)
/-- the same, of the heap -/
structure PairD (P : Program) (w : World) (h : Heap) (T : Addr) (k : Key) (v : V) (key r : Value) : Prop where
  tup : h.IsTuple T #[key, r]
  is : (mixKind P w).is k key = true
  rel : RelV v r
inductive PairsD (P : Program) (w : World) (h : Heap) : List Addr → List (Key × V) → List (Value × Value) → List (Key × Value) → Prop
  | nil : PairsD P w h [] [] [] []
  | cons {T : Addr} {k : Key} {v : V} {key r : Value} {Ts : List Addr} {kvs : List (Key × V)} {ps : List (Value × Value)} {rs : List (Key × Value)} : PairD P w h T k v key r → PairsD P w h Ts kvs ps rs → PairsD P w h (T :: Ts) ((k, v) :: kvs) ((key, r) :: ps) ((k, r) :: rs)
theorem pairD_of {X : Cx} {pins : List (Addr × Obj)} {σ : St} {H : Hp} {s : Shared} (I : Inv X pins σ H s) {T : Addr} {k : Key} {v : V} (h : TupB H T [kV k, v]) : ∃ key r, PairD X.prog X.w s.heap T k v key r := by
  obtain ⟨its, rv, tp, _⟩ := I.tuple (h.sq (K := X.K))
  cases rv with
  | cons r1 t =>
    cases t with
    | cons r2 t2 =>
      cases t2
      obtain ⟨o, e, c, n, d⟩ := tp
      exact ⟨_, _, ⟨o, e, c, n, d⟩, kV_is r1, r2⟩
theorem pairsD_of {X : Cx} {pins : List (Addr × Obj)} {σ : St} {H : Hp} {s : Shared} (I : Inv X pins σ H s) : ∀ {xs : List V} {kvs : List (Key × V)}, PairsAt H xs kvs → ∃ Ts ps rs, xs = Ts.map V.ref ∧ PairsD X.prog X.w s.heap Ts kvs ps rs
  | _, _, .nil => ⟨[], [], [], rfl, .nil⟩
  | _, _, .cons h t => by
    obtain ⟨Ts, ps, rs, e, d⟩ := pairsD_of I t
    obtain ⟨key, r, p⟩ := pairD_of I h
    exact ⟨_ :: Ts, _, _, by rw [e]; rfl, .cons p d⟩
theorem PairsD.kv {P : Program} {w : World} {h : Heap} : ∀ {Ts : List Addr} {kvs : List (Key × V)} {ps : List (Value × Value)} {rs : List (Key × Value)}, PairsD P w h Ts kvs ps rs → KV kvs rs ∧ ps.length = Ts.length ∧ rs.length = Ts.length ∧ kvs.length = Ts.length
  | _, _, _, _, .nil => ⟨.nil, rfl, rfl, rfl⟩
  | _, _, _, _, .cons p t => by
    obtain ⟨a, b, c, d⟩ := PairsD.kv t
    exact ⟨.cons ⟨rfl, p.rel⟩ a, by simp [b], by simp [c], by simp [d]⟩
theorem PairsD.get {P : Program} {w : World} {h : Heap} : ∀ {Ts : List Addr} {kvs : List (Key × V)} {ps : List (Value × Value)} {rs : List (Key × Value)}, PairsD P w h Ts kvs ps rs → ∀ (j : Nat) (key r : Value), ps[j]? = some (key, r) → ∃ T k, Ts[j]? = some T ∧ rs[j]? = some (k, r) ∧ h.IsTuple T #[key, r] ∧ (mixKind P w).is k key = true
  | _, _, _, _, .nil, j, key, r, e => by cases e
  | _, _, _, _, .cons p t, j, key, r, e => by
    cases j with
    | zero =>
      cases e
      exact ⟨_, _, rfl, rfl, p.tup, p.is⟩
    | succ j => exact PairsD.get t j key r e
def rDictT : List V → Hp → VK → Prop := fun vs H Q => ∃ (a : Addr) (xs : List V) (kvs : List (Key × V)), vs = [.ref a] ∧ TupB H a xs ∧ PairsAt H xs kvs ∧ ∀ p, H p = none → Q (.ref p) (upd H p (.dK (mergeK [] kvs)))
theorem cr_dictT {X : Cx} (hc : X.calm = true) : CallR X (.type "dict") rDictT := by
  intro pins s σ H vs us Q I r h
  obtain ⟨a, xs, kvs, rfl, ⟨o, ho, hd⟩, hp, q⟩ := h
  obtain ⟨u, rfl, ru⟩ := vals1 r
  obtain rfl : u = Value.ref a := ru
  obtain ⟨Ts, ps, rs, rfl, D⟩ := pairsD_of I hp
  obtain ⟨kv, l1, l2, l3⟩ := D.kv
  obtain ⟨g0, hz, its, rv, o', g1, c1, n, d1⟩ := (show ObjOk X.prog X.w H s.heap a (.frz o (.tup (Ts.map V.ref))) from I.hok a _ ho)
  rw [g0] at g1
  cases g1
  have hlen : its.length = Ts.length := by
    rw [← rv.length, List.length_map]
  have refs : ∀ {l : List Addr} {vs : List Value}, Vals (l.map V.ref) vs → ∀ (j : Nat) (T : Addr), l[j]? = some T → vs[j]? = some (Value.ref T) := by
    intro l
    induction l with
    | nil => intro vs rv j T e; cases e
    | cons x l ih =>
      intro vs rv j T e
      cases rv with
      | cons r1 t =>
        cases j with
        | zero =>
          cases e
          exact congrArg some (show _ = Value.ref x from r1)
        | succ j => exact ih t j T e
  have lz : Ts.length ≤ sizeLine := by
    rw [List.length_map] at hz
    exact hz
  have PI : PairItems s.heap its.toArray (fun j => (Ts[j]?).getD 0) ps := ⟨by rw [List.size_toArray, hlen, l1], fun j key rr e => by
    obtain ⟨T, k, e1, e2, e3, e4⟩ := D.get j key rr e
    have e5 := refs rv j T e1
    have e6 : (fun j => (Ts[j]?).getD 0) j = T := by
      show (Ts[j]?).getD 0 = T
      rw [e1]
      rfl
    rw [e6]
    exact ⟨by simpa using e5, .inl e3⟩⟩
  refine PySem.call_dict_pairs (knd := mixKind X.prog X.w) (kvs := rs) (PairArg.tuple a its.toArray (fun j => (Ts[j]?).getD 0) ps) (I.ok.hd hc) ⟨⟨o, n, g0, c1, hd, d1⟩, PI⟩ ⟨by rw [l1, l2], fun i key rr e => ?_⟩ (by rw [l1]; exact lz) fun h' tk dd keep => ?_
  · obtain ⟨T, k, _, e2, _, e4⟩ := D.get i key rr e
    exact ⟨k, e2, e4⟩
  · have fr := I.hok.fresh (Nat.le_refl s.heap.objs.size)
    have lm : (mergeK [] kvs).length ≤ sizeLine := by
      have := length_mergeK kvs []
      rw [List.length_nil] at this
      omega
    have new : ObjOk X.prog X.w (upd H s.heap.objs.size (.dK (mergeK [] kvs))) h' s.heap.objs.size (.dK (mergeK [] kvs)) := dk_new lm (beq_eq_false_iff_ne.mpr (Ne.symm (Nat.ne_of_lt I.big))) (kv.merge .nil) dd
    exact ⟨.ref s.heap.objs.size, _, I.laid (t' := tk) (fun b ob e => keep b ob List.not_mem_nil e) (Nat.le_refl _) new, rfl, q _ fr⟩
section
variable {A : Type} [Enc A]
theorem bb_dict : bootBuiltins "dict" = some (.type "dict") := by decide +kernel
/-- data of pairs: the pairs, the dict's data -/
theorem pairs_of {Z : Addr → Prop} {H : Hp} {l : List (Int × A)} : ∀ {xs : List V}, RpL Z H xs (l.map enc) → ∃ kvs, PairsAt H xs kvs ∧ RpK Z H kvs (l.map dkv) := by
  induction l with
  | nil =>
    intro xs r
    cases r
    exact ⟨[], .nil, .nil⟩
  | cons p l ih =>
    intro xs r
    cases r with
    | cons r1 t =>
      obtain ⟨kvs, h1, h2⟩ := ih t
      have r1' : Rp Z H _ (.tuple [enc p.1, enc p.2]) := r1
      cases r1' with
      | tup n tb rl =>
        obtain ⟨v, w, rfl, ra, rb⟩ := rl.two
        obtain rfl := ra.toInt
        exact ⟨(.inl p.1, w) :: kvs, .cons (k := .inl p.1) tb h1, .cons (k := .inl p.1) rb h2⟩
theorem merge_of {Z : Addr → Prop} {H : Hp} {l : List (Int × A)} : ∀ {kvs : List (Key × V)} {d : Dic A} {kvs0 : List (Key × V)}, RpK Z H kvs (l.map dkv) → RpK Z H kvs0 (List.map dkv (unDic d)) → RpK Z H (mergeK kvs0 kvs) (List.map dkv (unDic (l.foldl (fun d p => putD d p.1 p.2) d))) := by
  induction l with
  | nil =>
    intro kvs d kvs0 r r0
    cases r
    exact r0
  | cons p l ih =>
    intro kvs d kvs0 r r0
    have r' : RpK Z H kvs ((kD (.inl p.1), enc p.2) :: l.map dkv) := r
    generalize ek : kD (.inl p.1) = kd at r'
    cases r' with
    | @cons k0 v r1 _ _ h t =>
      obtain rfl := kD_inl ek.symm
      exact ih (kvs := r1) t (RpK.put (l := unDic d) h r0)
end
section
variable {I S A : Type} [Enc A] {Xs : I → Cx} {F : Fm S} {G : List Sl} {pos p p2 : Pos} {a : Expr} {K : PySem.W.Frag}
def dictM (m : M S (Tup (Int × A))) : M S (Dic A) := mapM1 (fun l => mkD (unTup l)) m
theorem ev_dictT {m : M S (Tup (Int × A))} (hm : ∀ i, (Xs i).mg "dict" = none) (h : EV Xs F G a m) (hc : ∀ i, (Xs i).calm = true := by intro _; rfl) (hg : ∀ i, Gl (Xs i) "dict" := by intro _; rfl)
    (he : ∀ i, starEach [a] (Xs i).env = (false, eval a (Xs i).env) :: starEach [] (Xs i).env := by intro _; rfl) : EV Xs F G (.Call (.Name "dict" p) [a] [] pos) (dictM m) := by
  refine EV.eq (ev_t1 (f := fun l : Tup (Int × A) => some (mkD (unTup l))) (r := rDictT) (fun i => cr_dictT (hc i)) (fun F Zx G s t H u vs z g r e Q q => ?_) hm bb_dict h hg (by decide) (by decide) he) rfl
  obtain ⟨v, rfl, rv⟩ := r.one
  obtain ⟨pp, xs, rfl, n, tb, l⟩ := rv.toTup
  cases e
  obtain ⟨kvs, h1, h2⟩ := pairs_of (l := unTup u.1) l
  refine ⟨pp, xs, kvs, rfl, tb, h1, fun pn hn => ?_⟩
  have sm : Same H (upd H pn (.dK (mergeK [] kvs))) := same_new hn
  exact q _ _ sm (.dic (g.new hn) (.inl upd_same) ((merge_of (d := toDic []) h2 .nil).ext (Fix.same sm).ext))
theorem eo_dictT {m : M S (Tup (Int × A))} (hm : ∀ i, (Xs i).mg "dict" = none) (h : EV Xs F G a m) (hc : ∀ i, (Xs i).calm = true := by intro _; rfl) (hg : ∀ i, Gl (Xs i) "dict" := by intro _; rfl)
    (he : ∀ i, starEach [a] (Xs i).env = (false, eval a (Xs i).env) :: starEach [] (Xs i).env := by intro _; rfl) : EO Xs F G (.Call (.Name "dict" p) [a] [] pos) (dictM m) := by
  obtain ⟨te, hp, hx⟩ := h
  refine ⟨tCB rDictT (tCons te tNil), fun i => pe_callTy (cr_dictT (hc i)) (hg i) (hm i) bb_dict (pa_cons (hp i) pa_nil (he i)) (by decide) (by decide) (he i) rfl, fun Zx t H s y s' g hm' Q q => ?_⟩
  obtain ⟨l, s1, h1, h2⟩ := bind_some hm'
  obtain ⟨rfl, rfl⟩ := pure_eq h2
  refine hx Zx t H s l s1 g h1 _ fun v H1 g1 f1 r1 => ?_
  obtain ⟨pp, xs, rfl, n, tb, rl⟩ := r1.toTup
  obtain ⟨kvs, k1, k2⟩ := pairs_of (l := unTup l) rl
  refine ⟨pp, xs, kvs, rfl, tb, k1, fun pn hn => ?_⟩
  have sm : Same H1 (upd H1 pn (.dK (mergeK [] kvs))) := same_new hn
  have hn0 : H pn = none := by
    cases e : H pn with
    | none => rfl
    | some o =>
      by_cases hz : F.Z pn
      · exact absurd hn (F.trk _ _ _ g1.at_ hz)
      · rw [f1 pn o hz e] at hn
        cases hn
  refine q pn _ (g1.more hn) (f1.trans (Fix.same sm)) hn0 ⟨_, upd_same, ?_⟩
  refine (merge_of (d := toDic []) k2 .nil).ext ⟨fun b o z h => same_new hn b o h, fun b z => ?_⟩
  rcases z with z | (z | z) | z
  · exact .inl (.inl z)
  · exact .inl (.inr (.inl z))
  · rw [z]
    exact .inr hn
  · exact .inl (.inr (.inr z))
end
def putS {S A L R : Type} (l : Dic A) (m : M S A) (n : M S Int) : M S (Fl (Dic A) L R) := bindM m fun y => bindM n fun k => guardM (lenOk ((unDic l).length + 1)) (pureM (.nx (putD l k y)))
theorem nf5 : (∀ {S A : Type} (m : M S (Dic A)) (n : M S Int), getDM m n = bindM m fun l => bindM n fun k => ofO (valD l k)) ∧
    (∀ {S A : Type} (m : M S Int) (n : M S (Dic A)), inDM m n = bindM m fun k => bindM n fun l => pureM (valD l k).isSome) ∧
    (∀ {S A : Type} (m : M S Int) (n : M S (Dic A)), ninDM m n = bindM m fun k => bindM n fun l => pureM (!(valD l k).isSome)) ∧
    (∀ {S A : Type} (m : M S (Dic A)) (n : M S Int) (o : M S A), getD2M m n o = bindM m fun l => bindM n fun k => bindM o fun x => pureM ((valD l k).getD x)) ∧
    (∀ {S A : Type} (m : M S (Dic A)), sortDM m = bindM m fun l => guardM ((unDic l).length < 64) (pureM (sortI (keysD l)))) ∧
    (∀ {S A : Type} (m : M S (Tup (Int × A))), dictM m = bindM m fun l => pureM (mkD (unTup l))) ∧
    (∀ {S A L R : Type} (l : Dic A) (m : M S A) (n : M S Int), (putS l m n : M S (Fl (Dic A) L R)) = bindM m fun y => bindM n fun k => guardM (lenOk ((unDic l).length + 1)) (pureM (.nx (putD l k y)))) :=
  ⟨fun _ _ => rfl, fun _ _ => rfl, fun _ _ => rfl, fun _ _ _ => rfl, fun _ => rfl, fun _ => rfl, fun _ _ _ => rfl⟩
end PL

namespace PL
open PySem L2 Enc
def gNames : List Nat → TGs
  | [] => gNil
  | k :: ks => gCons (gName k) (gNames ks)
def NamesTo {I : Type} (Xs : I → Cx) (es : List Expr) (ks : List Nat) : Prop := ∀ i, PGs (Xs i) es (gNames ks)
section
variable {I S U : Type} {Xs : I → Cx} {F : Fm S} {G : List Sl} {pos p : Pos} {es fs : List Expr} {x : Str}
theorem gn_nil : NamesTo Xs [] [] := fun _ => pgs_nil
theorem gn_cons {k : Nat} {ks : List Nat} (hN : ∀ i, (Xs i).N.Nodup) (h : NamesTo Xs es ks) (hi : ∀ i, (Xs i).N[k]? = some x := by intro _; rfl)
    (hx : ∀ i, Loc (Xs i).env.scope x := by first | exact fun _ => Or.inl rfl | exact fun _ => Or.inr rfl) (hf : ∀ i, (Xs i).fn x = true ∨ (Xs i).env.scope.names.lookup x = some .local := by first | exact fun _ => .inl rfl | exact fun _ => .inr rfl)
    (hs : ∀ i, (assignEach (.Name x p :: es) (Xs i).env).map (·.2) = assign (.Name x p) (Xs i).env :: (assignEach es (Xs i).env).map (·.2) := by intro _; rfl) : NamesTo Xs (.Name x p :: es) (k :: ks) :=
  fun i => pgs_cons (pg_name (hN i) (hi i) (hx i) (hf i)) (h i) (hs i)
theorem gNames_run : ∀ {ks : List Nat} {vs : List V} {t : St} {H : Hp} {Q : St → Hp → Prop}, ks.length = vs.length → Q (storeT t ks vs) H → gNames ks vs t H Q
  | [], [], _, _, _, _, q => ⟨rfl, q⟩
  | [], _ :: _, _, _, _, h, _ => absurd h (by simp)
  | _ :: _, [], _, _, _, h, _ => absurd h (by simp)
  | k :: ks, v :: vs, t, H, Q, h, q => ⟨v, vs, rfl, gNames_run (Nat.succ.inj h) q⟩
theorem ss_parV {L R : Type} [Enc R] {Gq : L → List Sl} {m : M S U} {en : U → List (PyData × Bool)} {ks : List Nat} {pt : Pos} {kt k2 : Nat} {pt2 : Pos} {K : PySem.W.Frag} (h : EKA Xs F G fs m en) (hg : NamesTo Xs es ks) (hen : ∀ u, (en u).length = ks.length := by intro _; rfl) (hnd : ks.Nodup := by decide)
    (hz : ks.length ≤ 100 := by decide) (hno : noOwn G ks = true := by rfl) (hk : ks.all (fun k => Nat.blt k G.length) = true := by rfl) (hc : ∀ i, (Xs i).calm = true := by intro _; rfl) (hK : ∀ i, (Xs i).K = K := by intro _; rfl)
    (hn : ∀ i, (assignEach es (Xs i).env).length = ks.length := by intro _; rfl) (hst : ∀ i, (assignEach es (Xs i).env).findIdx? (·.1) = none := by intro _; rfl)
    (hs : ∀ i, swapsWithSole [.Tuple es kt pt] (.Tuple fs k2 pt2) pos.line (Xs i).env = pure false := by intro _; rfl) (hw : ∀ i, swappedStores [.Tuple es kt pt] (.Tuple fs k2 pt2) (Xs i).env = pure none := by intro _; rfl)
    (h1 : ∀ i, (assignEach [.Tuple es kt pt] (Xs i).env).map (·.2) = [assign (.Tuple es kt pt) (Xs i).env] := by intro _; rfl) :
    SS (R := R) (L := L) Xs F G (.Assign [.Tuple es kt pt] (.Tuple fs k2 pt2) pos) (bindM m fun u => pureM (.nx u)) (fun u => storeG G ks (en u)) Gq := by
  obtain ⟨ta, hp, ho⟩ := h
  refine ⟨tAsg (tTupB ta) (gTup K ks.length (gNames ks)), fun i => ps_asg (pe_tupB (hp i)) (by rw [← hK i]; exact pg_tup (hc i) (hg i) (hn i) (hst i)) (hs i) (hw i) (h1 i), fun Zx t H s r s' g hm D q => ?_⟩
  obtain ⟨u, s1, e1, e2⟩ := bind_some hm
  obtain ⟨rfl, rfl⟩ := pure_eq e2
  refine ho Zx t H s u s1 g e1 _ fun vs H1 ps g1 f1 hps hpn r1 => ?_
  have hl : ks.length = vs.length := by rw [r1.len, hen]
  refine ⟨?_, fun pp ob hn1 hb => ?_⟩
  · rw [← hl]
    exact Nat.le_trans hz (by rw [sizeLine_eq]; decide)
  · have sm : Same H1 (upd H1 pp (.frz ob (.tup vs))) := same_new hn1
    have g2 := g1.same sm
    have r2 := r1.ext (Fix.same sm).ext fun p _ o ho => sm p o ho
    refine ⟨pp, vs, rfl, .inl (.inr ⟨ob, upd_same⟩), hl.symm, gNames_run hl ?_⟩
    obtain ⟨g3, ow⟩ := g2.storeAll (ks := ks) r2 hno hnd (by rw [hen]) (fun k hk' => by
      have := List.all_eq_true.mp hk k hk'
      simpa using this) (fun p hp => ⟨fun z => F.trk _ _ _ g.at_ z (hps p hp), fun z => g.trk p z (hps p hp)⟩) hpn
    exact q _ _ g3 ⟨fun b o z _ h => sm b o (f1 b o z h), fun b z => ((ow b).mp z).imp id (hps b)⟩
end
end PL

namespace PL
open PySem L2 Enc
/-- data of a type: flat enough to be compared, equal exactly if the same -/
class LE (A : Type) [Enc A] where
  dp : Nat
  lay : ∀ x : A, (enc x).canLay0 = true ∧ (enc x).depth ≤ dp
  same : ∀ x y : A, PyData.eqv (enc x) (enc y) = true ↔ x = y
/-- .. and never None -/
class NN (A : Type) [Enc A] where
  nn : ∀ x : A, enc x ≠ PyData.none
instance : LE Int := ⟨0, fun x => ⟨show PyData.canLay0 (.int x) = true by simp [PyData.canLay0], show PyData.depth (.int x) ≤ 0 by simp [PyData.depth]⟩, fun x y => by
  show PyData.eqv (.int x) (.int y) = true ↔ _
  simp [PyData.eqv]⟩
instance : LE Bool := ⟨0, fun x => ⟨show PyData.canLay0 (.bool x) = true by simp [PyData.canLay0], show PyData.depth (.bool x) ≤ 0 by simp [PyData.depth]⟩, fun x y => by
  show PyData.eqv (.bool x) (.bool y) = true ↔ _
  simp [PyData.eqv]⟩
instance : NN Int := ⟨fun _ h => by cases h⟩
instance : NN Bool := ⟨fun _ h => by cases h⟩
instance : NN Str := ⟨fun _ h => by cases h⟩
section
variable {A B C D : Type} [Enc A] [Enc B] [Enc C] [Enc D] [LE A] [LE B] [LE C] [LE D]
theorem lay_all : ∀ l : List A, PyData.canLayAll0 (l.map enc) = true ∧ PyData.depthAll (l.map enc) ≤ LE.dp A
  | [] => ⟨by simp [PyData.canLayAll0], by simp [PyData.depthAll]⟩
  | x :: l => by
    obtain ⟨h1, h2⟩ := lay_all l
    obtain ⟨h3, h4⟩ := LE.lay x
    exact ⟨by simp [PyData.canLayAll0, h1, h3], by simp only [List.map_cons, PyData.depthAll]; omega⟩
theorem eqv_all : ∀ l m : List A, PyData.eqvAll (l.map enc) (m.map enc) = true ↔ l = m
  | [], [] => by simp [PyData.eqvAll]
  | [], _ :: _ => by simp [PyData.eqvAll]
  | _ :: _, [] => by simp [PyData.eqvAll]
  | x :: l, y :: m => by
    simp only [List.map_cons, PyData.eqvAll, Bool.and_eq_true, eqv_all l m, LE.same x y, List.cons.injEq]
instance : LE (List A) := ⟨LE.dp A + 1, fun l => by
  obtain ⟨h1, h2⟩ := lay_all l
  exact ⟨by show PyData.canLay0 (.list (l.map enc)) = true; simpa [PyData.canLay0] using h1, by show PyData.depth (.list (l.map enc)) ≤ _; simp only [PyData.depth]; omega⟩, fun l m => by
  show PyData.eqv (.list (l.map enc)) (.list (m.map enc)) = true ↔ _
  simp only [PyData.eqv, eqv_all]⟩
instance : LE (Tup A) := ⟨LE.dp A + 1, fun l => by
  obtain ⟨h1, h2⟩ := lay_all (unTup l)
  exact ⟨by show PyData.canLay0 (.tuple (List.map enc (unTup l))) = true; simpa [PyData.canLay0] using h1, by show PyData.depth (.tuple (List.map enc (unTup l))) ≤ _; simp only [PyData.depth]; omega⟩, fun l m => by
  show PyData.eqv (.tuple (List.map enc (unTup l))) (.tuple (List.map enc (unTup m))) = true ↔ _
  simp only [PyData.eqv]
  exact eqv_all (unTup l) (unTup m)⟩
instance : LE (A × B) := ⟨max (LE.dp A) (LE.dp B) + 1, fun x => by
  obtain ⟨h1, h2⟩ := LE.lay x.1
  obtain ⟨h3, h4⟩ := LE.lay x.2
  exact ⟨by show PyData.canLay0 (.tuple [enc x.1, enc x.2]) = true; simp [PyData.canLay0, PyData.canLayAll0, h1, h3], by show PyData.depth (.tuple [enc x.1, enc x.2]) ≤ _; simp only [PyData.depth, PyData.depthAll]; omega⟩, fun x y => by
  show PyData.eqv (.tuple [enc x.1, enc x.2]) (.tuple [enc y.1, enc y.2]) = true ↔ _
  obtain ⟨a, b⟩ := x
  obtain ⟨c, d⟩ := y
  simp only [PyData.eqv, PyData.eqvAll, Bool.and_eq_true, Bool.and_true, LE.same, Prod.mk.injEq]⟩
instance : LE (T3 A B C) := ⟨max (LE.dp A) (max (LE.dp B) (LE.dp C)) + 1, fun x => by
  obtain ⟨h1, h2⟩ := LE.lay x.a
  obtain ⟨h3, h4⟩ := LE.lay x.b
  obtain ⟨h5, h6⟩ := LE.lay x.c
  exact ⟨by show PyData.canLay0 (.tuple [enc x.a, enc x.b, enc x.c]) = true; simp [PyData.canLay0, PyData.canLayAll0, h1, h3, h5], by show PyData.depth (.tuple [enc x.a, enc x.b, enc x.c]) ≤ _; simp only [PyData.depth, PyData.depthAll]; omega⟩, fun x y => by
  show PyData.eqv (.tuple [enc x.a, enc x.b, enc x.c]) (.tuple [enc y.a, enc y.b, enc y.c]) = true ↔ _
  obtain ⟨a, b, c⟩ := x
  obtain ⟨d, e, f⟩ := y
  simp only [PyData.eqv, PyData.eqvAll, Bool.and_eq_true, Bool.and_true, LE.same, T3.mk.injEq]⟩
instance : NN (List A) := ⟨fun _ h => by cases h⟩
instance : NN (Tup A) := ⟨fun _ h => by cases h⟩
instance : NN (A × B) := ⟨fun _ h => by cases h⟩
instance : NN (T3 A B C) := ⟨fun _ h => by cases h⟩
theorem eqv_none {d : PyData} (h : d ≠ .none) : PyData.eqv .none d = false ∧ PyData.eqv d .none = false := by
  cases d <;> first | exact absurd rfl h | exact ⟨by simp [PyData.eqv], by simp [PyData.eqv]⟩
instance [NN A] : LE (Option A) := ⟨LE.dp A, fun x => match x with
  | none => ⟨show PyData.canLay0 .none = true by simp [PyData.canLay0], show PyData.depth .none ≤ _ by simp [PyData.depth]⟩
  | some x => LE.lay x, fun x y => by
  match x, y with
  | none, none => exact ⟨fun _ => rfl, fun _ => by show PyData.eqv .none .none = true; simp [PyData.eqv]⟩
  | none, some y =>
    show PyData.eqv .none (enc y) = true ↔ _
    rw [(eqv_none (NN.nn y)).1]
    simp
  | some x, none =>
    show PyData.eqv (enc x) .none = true ↔ _
    rw [(eqv_none (NN.nn x)).2]
    simp
  | some x, some y =>
    show PyData.eqv (enc x) (enc y) = true ↔ _
    rw [LE.same]
    simp⟩
theorem shp_of {x : A} (h : LE.dp A ≤ 64 := by decide) : shpOk x := by
  obtain ⟨h1, h2⟩ := LE.lay x
  show ((enc x).canLay0 && decide ((enc x).depth ≤ 64)) = true
  rw [h1, decide_eq_true (Nat.le_trans h2 h)]
  rfl
theorem shp_two {x : A} {y : B} (h : LE.dp A ≤ 64 := by decide) (h2 : LE.dp B ≤ 64 := by decide) : shpOk x ∧ shpOk y := ⟨shp_of h, shp_of h2⟩
theorem eqv_yes {x y : A} (h : x = y) : PyData.eqv (enc x) (enc y) = true := (LE.same x y).mpr h
theorem eqv_no {x y : A} (h : x ≠ y) : PyData.eqv (enc x) (enc y) = false := by
  cases e : PyData.eqv (enc x) (enc y) with
  | false => rfl
  | true => exact absurd ((LE.same x y).mp e) h
end
end PL

namespace PL
open PySem L2 Enc
section
variable {A B S R N L : Type}
theorem putD_new {l : List (Int × A)} {k : Int} {x : A} (h : k ∉ l.map (·.1)) : putD (toDic l) k x = toDic (l ++ [(k, x)]) := by
  unfold putD
  have e : ((unDic (toDic l)).any fun p => decide (p.1 = k)) = false := by
    rw [List.any_eq_false]
    intro p hp z
    exact h (List.mem_map.mpr ⟨p, hp, of_decide_eq_true z⟩)
  rw [e]
  rfl
theorem mkD_go : ∀ (l acc : List (Int × A)), ((acc ++ l).map (·.1)).Nodup → l.foldl (fun d p => putD d p.1 p.2) (toDic acc) = toDic (acc ++ l)
  | [], acc, _ => by rw [List.append_nil]; rfl
  | p :: l, acc, h => by
    have hn : p.1 ∉ acc.map (·.1) := fun z => by
      rw [List.map_append, List.nodup_append] at h
      exact h.2.2 _ z _ (by rw [List.map_cons]; exact List.mem_cons_self) rfl
    rw [List.foldl_cons, putD_new hn]
    have e : acc ++ p :: l = (acc ++ [(p.1, p.2)]) ++ l := by simp
    rw [e] at h ⊢
    exact mkD_go l _ h
theorem mkD_nd {l : List (Int × A)} (h : (l.map (·.1)).Nodup) : mkD l = toDic l := mkD_go l [] (by simpa using h)
theorem loop_put {f : Dic B → A → M S (Fl (Dic B) (Dic B) R)} {kf : A → Int} {vf : A → B} : ∀ (l : List A) (acc : List (Int × B)), ((acc ++ l.map fun x => (kf x, vf x)).map (·.1)).Nodup → acc.length + l.length ≤ 16777216 →
    (∀ s x, x ∈ l → f s x = guardM (lenOk ((unDic s).length + 1)) (pureM (.nx (putD s (kf x) (vf x))))) → loopM f l (toDic acc) = pureM (.nx (toDic (acc ++ l.map fun x => (kf x, vf x))))
  | [], acc, _, _, _ => by rw [List.map_nil, List.append_nil]; rfl
  | x :: l, acc, h, hl, hf => by
    rw [List.length_cons] at hl
    have hn : kf x ∉ acc.map (·.1) := fun z => by
      rw [List.map_append, List.nodup_append] at h
      exact h.2.2 _ z _ (by rw [List.map_cons, List.map_cons]; exact List.mem_cons_self) rfl
    show bindM (f (toDic acc) x) _ = _
    rw [hf _ x List.mem_cons_self, guard_true (show lenOk ((unDic (toDic acc)).length + 1) from (show acc.length + 1 ≤ 16777216 by omega)), bind_pure]
    show loopM f l (putD (toDic acc) (kf x) (vf x)) = _
    rw [putD_new hn]
    have e : acc ++ (x :: l).map (fun x => (kf x, vf x)) = (acc ++ [(kf x, vf x)]) ++ l.map fun x => (kf x, vf x) := by simp
    rw [e] at h ⊢
    exact loop_put l _ h (by rw [List.length_append, List.length_singleton]; omega) fun s x hx => hf s x (List.mem_cons_of_mem _ hx)
theorem seq_put {f : Dic B → A → M S (Fl (Dic B) (Dic B) R)} (kf : A → Int) (vf : A → B) {l : List A} {k : Dic B → M S (Fl N L R)} (h : (l.map kf).Nodup) (hl : l.length ≤ 16777216)
    (hf : ∀ s x, x ∈ l → f s x = guardM (lenOk ((unDic s).length + 1)) (pureM (.nx (putD s (kf x) (vf x))))) : seqM (liftM (loopM f l (toDic []))) k = k (toDic (l.map fun x => (kf x, vf x))) := by
  rw [loop_put (kf := kf) (vf := vf) l [] (by simpa [Function.comp_def] using h) (by simpa using hl) hf]
  rfl
theorem cutL_take {l : List A} (n : Nat) : cutL none (some (n : Int)) l = l.take n := by
  have e : HT.sIx l.length l.length (some (n : Int)) = min n l.length := by
    show (if (n : Int) < 0 then ((n : Int) + (l.length : Int)).toNat else min (n : Int).toNat l.length) = _
    rw [if_neg (by omega), Int.toNat_natCast]
  show (l.drop 0).take (HT.sIx l.length l.length (some (n : Int)) - 0) = _
  rw [e, List.drop_zero, Nat.sub_zero]
  rw [← List.take_take, List.take_length]
theorem nd_of_lt {l : List Int} (h : l.Pairwise (· < ·)) : l.Nodup := h.imp fun h => by omega
end
theorem valD_mem {A : Type} : ∀ {l : List (Int × A)} {k : Int} {w : A}, valD (toDic l) k = some w → ∃ x ∈ l, x.1 = k ∧ x.2 = w
  | [], k, w, h => by cases h
  | p :: l, k, w, h => by
    unfold valD at h
    have h : ((p :: l).find? fun p => decide (p.1 = k)).map (·.2) = some w := h
    cases e : (p :: l).find? fun p => decide (p.1 = k) with
    | none =>
      rw [e] at h
      cases h
    | some q =>
      rw [e] at h
      cases h
      exact ⟨q, List.mem_of_find?_eq_some e, by simpa using List.find?_some e, rfl⟩
end PL

namespace PL
open PySem L2 Enc PySem.W
section
variable {A : Type} [Enc A]
def leD (x y : A) : Bool := dataLe false enc x y
def sortD (l : List A) : List A := l.mergeSort leD
theorem sortD_perm (l : List A) : (sortD l).Perm l := List.mergeSort_perm l _
/-- data that may be sorted: tuples with a first item, or none of them a tuple or None -/
def rSortDat (A : Type) [Enc A] (K : PySem.W.Frag) : List V → Hp → VK → Prop := fun vs H Q => ∃ (a : Addr) (ps : List (V × A)), vs = [.ref a] ∧ SqL K H a (ps.map (·.1)) ∧ (∀ p ∈ ps, Dp K H p.1 (enc p.2)) ∧ AllAlike (ps.map fun p => enc p.2) ∧ Sortable (ps.map fun p => enc p.2) ∧
  (∀ p ∈ ps, (enc p.2).depth ≤ 60) ∧ ∀ q, H q = none → Q (.ref q) (upd H q (.lst ((ps.mergeSort fun x y => leD x.2 y.2).map (·.1))))
theorem each_of {P : Value → V × A → Prop} : ∀ {ps : List (V × A)} {us : List Value}, Vals (ps.map (·.1)) us → (∀ p ∈ ps, ∀ u, RelV p.1 u → P u p) → EachIs P us ps
  | [], _, r, _ => by
    cases r
    exact .nil
  | p :: ps, _, r, h => by
    cases r with
    | cons r1 t => exact .cons (h p List.mem_cons_self _ r1) (each_of t fun q hq => h q (List.mem_cons_of_mem _ hq))
theorem vals_of : ∀ {ps : List (V × A)} {us : List Value}, EachIs (fun u p => RelV p.1 u) us ps → Vals (ps.map (·.1)) us
  | [], _, .nil => .nil
  | _ :: _, _, .cons r t => .cons r (vals_of t)
theorem cr_sortDat {X : Cx} {k : Nat} (hr : Room k X.A) : CallR X (.builtin "sorted") (rSortDat A X.K) := by
  intro pins s σ H vs us Q I r h
  obtain ⟨a, ps, rfl, hs, hd, hal, hk, hdep, q⟩ := h
  obtain ⟨u, rfl, ru⟩ := vals1 r
  obtain rfl : u = Value.ref a := ru
  obtain ⟨its, rv, hl, hz⟩ := I.list hs
  have hu := hr.units
  refine sorted_data (bs := ps) (enc := fun p => enc p.2) (R := fun u p => RelV p.1 u) hl.isList (each_of rv fun p _ u ru => ru) (each_of rv fun p hp u ru => Dp.reads I _ _ _ (hd p hp) ru) hal hk (by rw [List.length_map] at hz; exact hz) (fun p hp => by have := hdep p hp; omega) fun out lo eo => ?_
  obtain ⟨ep, he⟩ := PyProof.Rows.sortedAll_at s.heap its out.toArray
  have ln : ((ps.mergeSort fun x y => leD x.2 y.2).map (·.1)).length ≤ sizeLine := by
    rw [List.length_map, (List.mergeSort_perm _ _).length_eq]
    rw [List.length_map] at hz
    exact hz
  have new : ObjOk X.prog X.w (upd H (s.heap.objs.size + 1) (.lst ((ps.mergeSort fun x y => leD x.2 y.2).map (·.1)))) (PyProof.Rows.sortedAll s.heap its out.toArray) (s.heap.objs.size + 1) (.lst ((ps.mergeSort fun x y => leD x.2 y.2).map (·.1))) := ⟨ln, out, ep, vals_of eo, he⟩
  exact ⟨.ref (s.heap.objs.size + 1), _, I.laid (t' := s.toks) (fun _ _ => PyProof.Rows.sortedAll_old) (Nat.le_succ _) new, rfl, q _ (I.hok.fresh (Nat.le_succ _))⟩
end
/-- any two can be compared by < -/
class AL (A : Type) [Enc A] where
  al : ∀ x y : A, alike (enc x) (enc y) = true
/-- and sorted -/
class SO (A : Type) [Enc A] extends AL A where
  tp : (∀ x : A, ∃ y r, enc x = PyData.tuple (y :: r)) ∨ ∀ x : A, enc x ≠ .none ∧ ∀ xs, enc x ≠ .tuple xs
section
variable {A B C : Type} [Enc A] [Enc B] [Enc C]
instance : AL Int := ⟨fun x y => by show alike (.int x) (.int y) = true; simp [alike]⟩
instance : AL Bool := ⟨fun x y => by show alike (.bool x) (.bool y) = true; simp [alike]⟩
instance : SO Int := ⟨.inr fun x => ⟨(fun h => PyData.noConfusion h), (fun xs h => PyData.noConfusion h)⟩⟩
theorem al_all [AL A] : ∀ l m : List A, alikeAll (l.map enc) (m.map enc) = true
  | [], _ => by simp [alikeAll]
  | _ :: _, [] => by simp [alikeAll]
  | x :: l, y :: m => by simp [alikeAll, AL.al x y, al_all l m]
instance [AL A] : AL (List A) := ⟨fun l m => by show alike (.list (l.map enc)) (.list (m.map enc)) = true; simp [alike, al_all]⟩
instance [AL A] : AL (Tup A) := ⟨fun l m => by
  show alike (.tuple (List.map enc (unTup l))) (.tuple (List.map enc (unTup m))) = true
  simp only [alike]
  exact al_all _ _⟩
instance [AL A] [AL B] : AL (A × B) := ⟨fun x y => by show alike (.tuple [enc x.1, enc x.2]) (.tuple [enc y.1, enc y.2]) = true; simp [alike, alikeAll, AL.al]⟩
instance [AL A] [AL B] [AL C] : AL (T3 A B C) := ⟨fun x y => by show alike (.tuple [enc x.a, enc x.b, enc x.c]) (.tuple [enc y.a, enc y.b, enc y.c]) = true; simp [alike, alikeAll, AL.al]⟩
instance [AL A] [AL B] : SO (A × B) := ⟨.inl fun x => ⟨_, _, rfl⟩⟩
instance [AL A] [AL B] [AL C] : SO (T3 A B C) := ⟨.inl fun x => ⟨_, _, rfl⟩⟩
theorem pairs_up {Z : Addr → Prop} {H : Hp} : ∀ {l : List A} {xs : List V}, RpL Z H xs (l.map enc) → ∃ ps : List (V × A), ps.map (·.1) = xs ∧ ps.map (·.2) = l ∧ ∀ p ∈ ps, Rp Z H p.1 (enc p.2)
  | [], _, r => by
    cases r
    exact ⟨[], rfl, rfl, fun p h => absurd h List.not_mem_nil⟩
  | x :: l, _, r => by
    cases r with
    | cons h t =>
      obtain ⟨ps, e1, e2, e3⟩ := pairs_up t
      refine ⟨(_, x) :: ps, by rw [List.map_cons, e1], by rw [List.map_cons, e2], fun p hp => ?_⟩
      rcases List.mem_cons.mp hp with rfl | hp
      · exact h
      · exact e3 p hp
theorem pairs_down {Z : Addr → Prop} {H : Hp} : ∀ {ps : List (V × A)}, (∀ p ∈ ps, Rp Z H p.1 (enc p.2)) → RpL Z H (ps.map (·.1)) ((ps.map (·.2)).map enc)
  | [], _ => .nil
  | p :: ps, h => .cons (h p List.mem_cons_self) (pairs_down fun q hq => h q (List.mem_cons_of_mem _ hq))
end
section
variable {I S A : Type} [Enc A] [LE A] [SO A] {Xs : I → Cx} {F : Fm S} {G : List Sl} {pos p p2 : Pos} {a : Expr} {K : PySem.W.Frag}
def sortM (m : M S (List A)) : M S (List A) := mapM1 sortD m
theorem ev_sorted {m : M S (List A)} {k : Nat} (hr : ∀ i, Room k (Xs i).A) (hm : ∀ i, (Xs i).mg "sorted" = none) (h : EV Xs F G a m) (hl : LE.dp A ≤ 60 := by decide) (hg : ∀ i, Gl (Xs i) "sorted" := by intro _; rfl)
    (he : ∀ i, starEach [a] (Xs i).env = (false, eval a (Xs i).env) :: starEach [] (Xs i).env := by intro _; rfl) (hK : ∀ i, (Xs i).K = K := by intro _; rfl) : EV Xs F G (.Call (.Name "sorted" p) [a] [] pos) (sortM m) := by
  refine EV.eq (ev_b1 (f := fun l : List A => some (sortD l)) (r := rSortDat A K) (fun i => by rw [← hK i]; exact cr_sortDat (hr i)) (fun F Zx G s t H u vs z g r e Q q => ?_) hm bb_sorted h hg (by decide) (by decide) he) rfl
  obtain ⟨v, rfl, rv⟩ := r.one
  obtain ⟨pp, xs, rfl, n, h, l⟩ := rv.toLst
  cases e
  obtain ⟨ps, e1, e2, e3⟩ := pairs_up (l := u.1) l
  subst e1
  refine ⟨pp, ps, rfl, SqL.of h, fun p hp => (e3 p hp).dp (LE.lay _).1, AllAlike.of fun b b' => AL.al _ _, ?_, fun p hp => Nat.le_trans (LE.lay _).2 hl, fun pn hn => ?_⟩
  · rcases SO.tp (A := A) with t | t
    · exact Sortable.tuples fun b => t b.2
    · exact Sortable.others fun b => t b.2
  · have sm : Same H (upd H pn (.lst ((ps.mergeSort fun x y => leD x.2 y.2).map (·.1)))) := same_new hn
    refine q _ _ sm (.lst (g.new hn) upd_same ?_)
    have e4 : sortD u.1 = (ps.mergeSort fun x y => leD x.2 y.2).map (·.2) := by
      rw [← e2]
      exact (List.map_mergeSort (f := fun p : V × A => p.2) (r := fun x y => leD x.2 y.2) (s := leD) fun x _ y _ => rfl).symm
    show RpL _ _ _ (List.map enc (sortD u.1))
    rw [e4]
    exact (pairs_down fun p hp => e3 p ((List.mergeSort_perm _ _).mem_iff.mp hp)).fix (Fix.same sm)
end
end PL

namespace PL
open PySem L2 Enc
structure DkB where
  cells : List Int
  n : Int
  rests : List Int
  al : Bool
structure DkBA where
  d : Addr
  c : Addr
  r : Addr
  ne1 : d ≠ c
  ne2 : d ≠ r
def fmB (k : DkBA) : Fm DkB where
  Z := fun b => b = k.d ∨ b = k.c ∨ b = k.r
  at_ := fun s H => H k.d = some (.lst [.ref k.c, .int s.n, .ref k.r]) ∧ H k.c = some (.lst (s.cells.map V.int)) ∧ H k.r = some (.lst (s.rests.map V.int)) ∧ (s.al = true ↔ k.c = k.r)
  loc := fun s H H' h ⟨a, b, c, d⟩ => ⟨by rw [h _ (.inl rfl)]; exact a, by rw [h _ (.inr (.inl rfl))]; exact b, by rw [h _ (.inr (.inr rfl))]; exact c, d⟩
  trk := fun s H b ⟨h1, h2, h3, _⟩ z => by
    rcases z with z | z | z
    · rw [z, h1]
      intro q
      cases q
    · rw [z, h2]
      intro q
      cases q
    · rw [z, h3]
      intro q
      cases q
def rootB (k : DkBA) : Addr := k.d
def dkbN : M DkB Int := fun s => some (s.n, s)
def rdLen {S : Type} (get : S → List Int) : M S Int := fun s => some (((get s).length : Int), s)
def rdAt {S : Type} (get : S → List Int) (i : Int) : M S Int := fun s => (atI (get s) i).map fun x => (x, s)
def dkbSetN (x : Int) : M DkB Unit := fun s => some ((), { s with n := x })
def dkbSet (i x : Int) : M DkB Unit := fun s => (ixN s.rests.length i).map fun j => ((), { s with rests := s.rests.set j x, cells := if s.al = true then s.cells.set j x else s.cells })
section
variable {S : Type} {F : Fm S}
theorem own_setR {G : List Sl} {k : Nat} {v : V} {t : St} {o : Option V} (h : noOwn G [k] = true) (b : Addr) : Own (G.set k (.raw v)) (t.set k o) b ↔ Own G t b := by
  constructor
  · rintro ⟨i, d', h1, h2⟩
    by_cases hi : k = i
    · subst hi
      rw [List.getElem?_set] at h1
      by_cases hl : k < G.length
      · rw [if_pos rfl, if_pos hl] at h1
        cases h1
      · rw [if_pos rfl, if_neg hl] at h1
        cases h1
    · rw [List.getElem?_set_ne hi] at h1 h2
      exact ⟨i, d', h1, h2⟩
  · rintro ⟨i, d', h1, h2⟩
    have hi : k ≠ i := fun z => by
      subst z
      exact noOwn_at h List.mem_cons_self h1
    exact ⟨i, d', by rw [List.getElem?_set_ne hi]; exact h1, by rw [List.getElem?_set_ne hi]; exact h2⟩
theorem Gd.setR {G : List Sl} {Zx : Addr → Prop} {s : S} {t : St} {H : Hp} {k : Nat} {v : V} (g : Gd F Zx G s t H) (h : noOwn G [k] = true) : Gd F Zx (G.set k (.raw v)) s (t.set k (some v)) H := by
  have own := fun b => own_setR (v := v) (t := t) (o := some v) h b
  have ez : ZF F Zx (G.set k (.raw v)) (t.set k (some v)) = ZF F Zx G t := funext fun b => propext ⟨fun z => z.imp id (Or.imp id (own b).mp), fun z => z.imp id (Or.imp id (own b).mpr)⟩
  refine ⟨by rw [List.length_set, List.length_set]; exact g.len, g.at_, g.trk, fun i l o h1 h2 => ?_, fun i j d1 d2 p h1 h2 h3 h4 => ?_, fun p z => g.sep p ((own p).mp z)⟩
  · rw [ez]
    by_cases hi : k = i
    · subst hi
      rw [List.getElem?_set] at h1 h2
      by_cases hl : k < G.length
      · rw [if_pos rfl, if_pos hl] at h1
        rw [if_pos rfl, if_pos (by rw [g.len]; exact hl)] at h2
        cases h1
        cases h2
        rfl
      · rw [if_pos rfl, if_neg hl] at h1
        cases h1
    · rw [List.getElem?_set_ne hi] at h1 h2
      exact g.slot i l o h1 h2
  · have hi : ∀ {i : Nat} {d' : PyData}, (G.set k (.raw v))[i]? = some (.own d') → k ≠ i := fun {i d'} q z => by
      subst z
      rw [List.getElem?_set] at q
      by_cases hl : k < G.length
      · rw [if_pos rfl, if_pos hl] at q
        cases q
      · rw [if_pos rfl, if_neg hl] at q
        cases q
    have ni := hi h1
    have nj := hi h2
    rw [List.getElem?_set_ne ni] at h1 h3
    rw [List.getElem?_set_ne nj] at h2 h4
    exact g.inj i j d1 d2 p h1 h2 h3 h4
end
section
variable {I S : Type} {Xs : I → Cx} {F : Fm S} {G : List Sl} {pos p p2 : Pos} {a b c e : Expr} {x y z : Str} {j : Nat} {K : PySem.W.Frag} {get : S → List Int} {pa : Addr}
/-- x[b], x a list of ints of the frame -/
theorem ev_rawIx {m : M S Int} (ha : ∀ s H, F.at_ s H → H pa = some (.lst ((get s).map V.int))) (h : G[j]? = some (.raw (.ref pa))) (hb : EV Xs F G b m) (hs : PlainIx b := by exact fun _ _ => rfl) (hN : ∀ i, (Xs i).N[j]? = some x := by intro _; rfl)
    (hv : ∀ i, Vis (Xs i).env.scope x := by first | exact fun _ => Or.inl rfl | exact fun _ => Or.inr (Or.inl rfl) | exact fun _ => Or.inr (Or.inr rfl))
    (hd : (x == ("__debug__" : Str)) = false := by decide) (hcd : (x == ("__classdict__" : Str)) = false := by decide) (hK : ∀ i, (Xs i).K = K := by intro _; rfl) :
    EV Xs F G (.Subscript (.Name x p) b pos) (bindM m (rdAt get)) := by
  obtain ⟨tb, hp, ho⟩ := hb
  refine ⟨tOp (rIxL K) (tVar j) tb, fun i => by rw [← hK i]; exact pe_ix ix_list (pe_var (hN i) (hv i) hd hcd) (hp i) hs, fun Zx t H s y s' g hm Q q => ?_⟩
  obtain ⟨z, s1, h1, h2⟩ := bind_some hm
  refine ⟨_, g.raw h, ?_⟩
  refine ho Zx t H s z s1 g h1 _ fun v H1 g1 f1 r1 => ?_
  obtain rfl := r1.toInt
  unfold rdAt at h2
  cases e : atI (get s1) z with
  | none =>
    rw [e] at h2
    cases h2
  | some w =>
    rw [e] at h2
    cases h2
    refine ⟨pa, _, z, .int y, rfl, rfl, SqL.of (ha _ _ g1.at_), ?_, q _ H1 g1 f1 (.int _)⟩
    rw [atI_map, e]
    rfl
theorem ev_rawLen (hm : ∀ i, (Xs i).mg "len" = none) (ha : ∀ s H, F.at_ s H → H pa = some (.lst ((get s).map V.int))) (h : G[j]? = some (.raw (.ref pa))) (hN : ∀ i, (Xs i).N[j]? = some x := by intro _; rfl)
    (hv : ∀ i, Vis (Xs i).env.scope x := by first | exact fun _ => Or.inl rfl | exact fun _ => Or.inr (Or.inl rfl) | exact fun _ => Or.inr (Or.inr rfl))
    (hd : (x == ("__debug__" : Str)) = false := by decide) (hcd : (x == ("__classdict__" : Str)) = false := by decide) (hg : ∀ i, Gl (Xs i) "len" := by intro _; rfl)
    (he : ∀ i, starEach [.Name x p] (Xs i).env = (false, eval (.Name x p) (Xs i).env) :: starEach [] (Xs i).env := by intro _; rfl) (hK : ∀ i, (Xs i).K = K := by intro _; rfl) :
    EV Xs F G (.Call (.Name "len" p2) [.Name x p] [] pos) (rdLen get) := by
  refine ⟨tCB (fun xs H Q => ∃ p ys, xs = [.ref p] ∧ (SqL K H p ys ∨ SqT K H p ys) ∧ Q (.int ys.length) H) (tCons (tVar j) tNil), fun i => by
    rw [← hK i]
    exact pe_callB call_len_seq (hg i) (hm i) bb_len (pa_cons (pe_var (hN i) (hv i) hd hcd) pa_nil (he i)) (by decide) (by decide) (he i) rfl, fun Zx t H s y s' g hm' Q q => ?_⟩
  cases hm'
  refine ⟨_, g.raw h, pa, _, rfl, .inl (SqL.of (ha _ _ g.at_)), ?_⟩
  rw [List.length_map]
  exact q _ H g (Fix.refl H) (.int _)
end
section
variable {I : Type} {Xs : I → Cx} {k : DkBA} {G : List Sl} {pos p p2 : Pos} {a b c e : Expr} {x y z y1 y2 y3 : Str} {j : Nat} {K : PySem.W.Frag}
def cellsB (s : DkB) : List Int := s.cells
def restsB (s : DkB) : List Int := s.rests
theorem fmB_c : ∀ s H, (fmB k).at_ s H → H k.c = some (.lst ((cellsB s).map V.int)) := fun s H h => h.2.1
theorem fmB_r : ∀ s H, (fmB k).at_ s H → H k.r = some (.lst ((restsB s).map V.int)) := fun s H h => h.2.2.1
/-- cells, count, rests = deck -/
theorem ss_dkbOpen {L R : Type} [Enc R] {Gl : L → List Sl} {i1 i2 i3 kt : Nat} {p1 p3 tp : Pos} (h : G[j]? = some (.raw (.ref (rootB k)))) (hnd : ∀ i, (Xs i).N.Nodup) (hno1 : noOwn G [i1] = true := by rfl) (hno2 : noOwn (G.set i1 (.raw (.ref k.c))) [i2] = true := by rfl)
    (hno3 : ∀ y : Int, noOwn ((G.set i1 (.raw (.ref k.c))).set i2 (.dat (enc y))) [i3] = true := by intro _; rfl)
    (hN : ∀ i, (Xs i).N[j]? = some x := by intro _; rfl) (hv : ∀ i, Vis (Xs i).env.scope x := by first | exact fun _ => Or.inl rfl | exact fun _ => Or.inr (Or.inl rfl) | exact fun _ => Or.inr (Or.inr rfl))
    (hd : (x == ("__debug__" : Str)) = false := by decide) (hcd : (x == ("__classdict__" : Str)) = false := by decide)
    (hi1 : ∀ i, (Xs i).N[i1]? = some y1 := by intro _; rfl) (hx1 : ∀ i, Loc (Xs i).env.scope y1 := by first | exact fun _ => Or.inl rfl | exact fun _ => Or.inr rfl) (hf1 : ∀ i, (Xs i).fn y1 = true ∨ (Xs i).env.scope.names.lookup y1 = some .local := by first | exact fun _ => .inl rfl | exact fun _ => .inr rfl)
    (hi2 : ∀ i, (Xs i).N[i2]? = some y2 := by intro _; rfl) (hx2 : ∀ i, Loc (Xs i).env.scope y2 := by first | exact fun _ => Or.inl rfl | exact fun _ => Or.inr rfl) (hf2 : ∀ i, (Xs i).fn y2 = true ∨ (Xs i).env.scope.names.lookup y2 = some .local := by first | exact fun _ => .inl rfl | exact fun _ => .inr rfl)
    (hi3 : ∀ i, (Xs i).N[i3]? = some y3 := by intro _; rfl) (hx3 : ∀ i, Loc (Xs i).env.scope y3 := by first | exact fun _ => Or.inl rfl | exact fun _ => Or.inr rfl) (hf3 : ∀ i, (Xs i).fn y3 = true ∨ (Xs i).env.scope.names.lookup y3 = some .local := by first | exact fun _ => .inl rfl | exact fun _ => .inr rfl)
    (hc : ∀ i, (Xs i).calm = true := by intro _; rfl) (hK : ∀ i, (Xs i).K = K := by intro _; rfl)
    (hn : ∀ i, (assignEach [.Name y1 p1, .Name y2 p2, .Name y3 p3] (Xs i).env).length = 3 := by intro _; rfl) (hst : ∀ i, (assignEach [.Name y1 p1, .Name y2 p2, .Name y3 p3] (Xs i).env).findIdx? (·.1) = none := by intro _; rfl)
    (hg1 : ∀ i, (assignEach [.Name y1 p1, .Name y2 p2, .Name y3 p3] (Xs i).env).map (·.2) = assign (.Name y1 p1) (Xs i).env :: (assignEach [.Name y2 p2, .Name y3 p3] (Xs i).env).map (·.2) := by intro _; rfl)
    (hg2 : ∀ i, (assignEach [.Name y2 p2, .Name y3 p3] (Xs i).env).map (·.2) = assign (.Name y2 p2) (Xs i).env :: (assignEach [.Name y3 p3] (Xs i).env).map (·.2) := by intro _; rfl)
    (hg3 : ∀ i, (assignEach [.Name y3 p3] (Xs i).env).map (·.2) = assign (.Name y3 p3) (Xs i).env :: (assignEach [] (Xs i).env).map (·.2) := by intro _; rfl)
    (hs : ∀ i, swapsWithSole [.Tuple [.Name y1 p1, .Name y2 p2, .Name y3 p3] kt tp] (.Name x p) pos.line (Xs i).env = pure false := by intro _; rfl) (hw : ∀ i, swappedStores [.Tuple [.Name y1 p1, .Name y2 p2, .Name y3 p3] kt tp] (.Name x p) (Xs i).env = pure none := by intro _; rfl)
    (h1 : ∀ i, (assignEach [.Tuple [.Name y1 p1, .Name y2 p2, .Name y3 p3] kt tp] (Xs i).env).map (·.2) = [assign (.Tuple [.Name y1 p1, .Name y2 p2, .Name y3 p3] kt tp) (Xs i).env] := by intro _; rfl) :
    SS (R := R) (L := L) Xs (fmB k) G (.Assign [.Tuple [.Name y1 p1, .Name y2 p2, .Name y3 p3] kt tp] (.Name x p) pos) (bindM dkbN fun y => pureM (.nx y)) (fun y : Int => ((G.set i1 (.raw (.ref k.c))).set i2 (.dat (enc y))).set i3 (.raw (.ref k.r))) Gl := by
  refine ⟨tAsg (tVar j) (gLst K 3 (gCons (gName i1) (gCons (gName i2) (gCons (gName i3) gNil)))), fun i => ps_asg (pe_var (hN i) (hv i) hd hcd) (by
    rw [← hK i]
    exact pg_lst (hc i) (pgs_cons (pg_name (hnd i) (hi1 i) (hx1 i) (hf1 i)) (pgs_cons (pg_name (hnd i) (hi2 i) (hx2 i) (hf2 i)) (pgs_cons (pg_name (hnd i) (hi3 i) (hx3 i) (hf3 i)) pgs_nil (hg3 i)) (hg2 i)) (hg1 i)) (hn i) (hst i)) (hs i) (hw i) (h1 i), fun Zx t H s r s' g hm D q => ?_⟩
  obtain ⟨n, s1, e1, e2⟩ := bind_some hm
  obtain ⟨rfl, rfl⟩ := pure_eq e2
  cases e1
  refine ⟨_, g.raw h, k.d, _, rfl, SqL.of g.at_.1, rfl, _, _, rfl, _, _, rfl, _, _, rfl, rfl, ?_⟩
  have o1 : ∀ b, Own _ _ b ↔ Own G t b := fun b => own_setR (v := .ref k.c) (o := some (.ref k.c)) hno1 b
  have g1 := g.setR (v := .ref k.c) hno1
  have g2 := g1.set (d := enc s.n) (v := .int s.n) hno2 (.int _)
  have o2 : ∀ b, Own _ _ b ↔ Own _ _ b := fun b => own_set (t := t.set i1 (some (.ref k.c))) (d := enc s.n) (o := some (.int s.n)) hno2 b
  have g3 := g2.setR (v := .ref k.r) (hno3 s.n)
  have o3 : ∀ b, Own _ _ b ↔ Own _ _ b := fun b => own_setR (t := (t.set i1 (some (.ref k.c))).set i2 (some (.int s.n))) (v := .ref k.r) (o := some (.ref k.r)) (hno3 s.n) b
  exact q _ H g3 ⟨fun x o _ _ h => h, fun x z => .inl ((o1 x).mp ((o2 x).mp ((o3 x).mp z)))⟩
/-- deck[1] = e -/
theorem ss_dkbN {L R : Type} [Enc R] {Gl : L → List Sl} {m : M DkB Int} {j0 : Nat} {q1 q2 : Pos} (h : G[j]? = some (.raw (.ref (rootB k)))) (hb : EV Xs (fmB k) G e m) (hN : ∀ i, (Xs i).N[j]? = some x := by intro _; rfl)
    (hv : ∀ i, Vis (Xs i).env.scope x := by first | exact fun _ => Or.inl rfl | exact fun _ => Or.inr (Or.inl rfl) | exact fun _ => Or.inr (Or.inr rfl))
    (hd : (x == ("__debug__" : Str)) = false := by decide) (hcd : (x == ("__classdict__" : Str)) = false := by decide)
    (hs : ∀ i, swapsWithSole [.Subscript (.Name x p) (.Constant (.int 1) j0 q1) q2] e pos.line (Xs i).env = pure false := by intro _; rfl) (hw : ∀ i, swappedStores [.Subscript (.Name x p) (.Constant (.int 1) j0 q1) q2] e (Xs i).env = pure none := by intro _; rfl)
    (h1 : ∀ i, (assignEach [.Subscript (.Name x p) (.Constant (.int 1) j0 q1) q2] (Xs i).env).map (·.2) = [assign (.Subscript (.Name x p) (.Constant (.int 1) j0 q1) q2) (Xs i).env] := by intro _; rfl) :
    SS (R := R) (L := L) Xs (fmB k) G (.Assign [.Subscript (.Name x p) (.Constant (.int 1) j0 q1) q2] e pos) (bindM m fun y => bindM (dkbSetN y) fun _ => pureM (.nx ())) (fun _ => G) Gl := by
  obtain ⟨te, hp, ho⟩ := hb
  refine ⟨tAsg te (gSub (tVar j) (tC (.int 1)) rSetL), fun i => ps_asg (hp i) (pg_sub (pe_var (hN i) (hv i) hd hcd) pe_int set_list) (hs i) (hw i) (h1 i), fun Zx t H s r s' g hm D q => ?_⟩
  obtain ⟨z, s1, e1, e2⟩ := bind_some hm
  obtain ⟨u, s2, e3, e4⟩ := bind_some e2
  obtain ⟨rfl, rfl⟩ := pure_eq e4
  cases e3
  refine ho Zx t H s z s1 g e1 _ fun v H1 g1 f1 r1 => ?_
  obtain rfl := r1.toInt
  refine ⟨_, g1.raw h, k.d, _, 1, 1, rfl, rfl, g1.at_.1, rfl, ?_⟩
  have fx : Fix (fmB k) H1 (upd H1 k.d (.lst [.ref k.c, .int z, .ref k.r])) := fun b o z' h' => by
    rw [upd_ne (fun w => z' (.inl w))]
    exact h'
  exact q t _ (g1.fix fx ⟨upd_same, by rw [upd_ne k.ne1.symm]; exact g1.at_.2.1, by rw [upd_ne k.ne2.symm]; exact g1.at_.2.2.1, g1.at_.2.2.2⟩) (Stp.fix (f1.trans fx))
/-- rests[b] = e -/
theorem ss_dkbR {L R : Type} [Enc R] {Gl : L → List Sl} {m n : M DkB Int} {q2 : Pos} (h : G[j]? = some (.raw (.ref k.r))) (hb : EV Xs (fmB k) G e m) (hi : EV Xs (fmB k) G b n) (hN : ∀ i, (Xs i).N[j]? = some x := by intro _; rfl)
    (hv : ∀ i, Vis (Xs i).env.scope x := by first | exact fun _ => Or.inl rfl | exact fun _ => Or.inr (Or.inl rfl) | exact fun _ => Or.inr (Or.inr rfl))
    (hd : (x == ("__debug__" : Str)) = false := by decide) (hcd : (x == ("__classdict__" : Str)) = false := by decide)
    (hs : ∀ i, swapsWithSole [.Subscript (.Name x p) b q2] e pos.line (Xs i).env = pure false := by intro _; rfl) (hw : ∀ i, swappedStores [.Subscript (.Name x p) b q2] e (Xs i).env = pure none := by intro _; rfl)
    (h1 : ∀ i, (assignEach [.Subscript (.Name x p) b q2] (Xs i).env).map (·.2) = [assign (.Subscript (.Name x p) b q2) (Xs i).env] := by intro _; rfl)
    (hz : ∀ i v, assign (.Subscript (.Name x p) b q2) (Xs i).env v = (do
      let ov ← holding [v] (eval (.Name x p) (Xs i).env)
      let iv ← holding [v, ov] (eval b (Xs i).env)
      standAt q2
      holding [v, ov, iv] (setItem ov iv v)
      release [v, ov, iv] []) := by intro _ _; rfl) :
    SS (R := R) (L := L) Xs (fmB k) G (.Assign [.Subscript (.Name x p) b q2] e pos) (bindM m fun y => bindM n fun i => bindM (dkbSet i y) fun _ => pureM (.nx ())) (fun _ => G) Gl := by
  obtain ⟨te, hp, ho⟩ := hb
  obtain ⟨ti, hq, hoi⟩ := hi
  refine ⟨tAsg te (gSub (tVar j) ti rSetL), fun i => ps_asg (hp i) (pg_sub (pe_var (hN i) (hv i) hd hcd) (hq i) set_list (hz i)) (hs i) (hw i) (h1 i), fun Zx t H s r s' g hm D q => ?_⟩
  obtain ⟨z, s1, e1, e2⟩ := bind_some hm
  obtain ⟨y, s2, e3, e4⟩ := bind_some e2
  obtain ⟨u, s3, e5, e6⟩ := bind_some e4
  obtain ⟨rfl, rfl⟩ := pure_eq e6
  refine ho Zx t H s z s1 g e1 _ fun v H1 g1 f1 r1 => ?_
  obtain rfl := r1.toInt
  refine ⟨_, g1.raw h, ?_⟩
  refine hoi Zx t H1 s1 y s2 g1 e3 _ fun v2 H2 g2 f2 r2 => ?_
  obtain rfl := r2.toInt
  unfold dkbSet at e5
  cases e : ixN s2.rests.length y with
  | none =>
    rw [e] at e5
    cases e5
  | some w =>
    rw [e] at e5
    cases e5
    refine ⟨k.r, _, y, w, rfl, rfl, g2.at_.2.2.1, by rw [List.length_map]; exact e, ?_⟩
    have fx : Fix (fmB k) H2 (upd H2 k.r (.lst ((s2.rests.map V.int).set w (.int z)))) := fun b o z' h' => by
      rw [upd_ne (fun w => z' (.inr (.inr w)))]
      exact h'
    obtain ⟨a1, a2, a3, a4⟩ := g2.at_
    refine q t _ (g2.fix fx ⟨by rw [upd_ne k.ne2]; exact a1, ?_, by rw [upd_same, List.map_set], a4⟩) (Stp.fix ((f1.trans f2).trans fx))
    show upd H2 k.r _ k.c = some (.lst ((if s2.al = true then s2.cells.set w z else s2.cells).map V.int))
    by_cases hal : s2.al = true
    · have hcr := a4.mp hal
      rw [if_pos hal, hcr, upd_same, List.map_set]
      rw [hcr] at a2
      rw [a2] at a3
      injection a3 with a3
      injection a3 with a3
      rw [a3]
    · rw [if_neg hal, upd_ne fun z => hal (a4.mpr z)]
      exact a2
end
def mulWOk (i j : Int) : Prop := (Builtin.Int.intBits i : Int) + (Builtin.Int.intBits j : Int) ≤ 134217728
instance (i j : Int) : Decidable (mulWOk i j) := inferInstanceAs (Decidable (_ ≤ _))
section
variable {I S A : Type} [Enc A] {Xs : I → Cx} {F : Fm S} {G : List Sl} {pos p p2 : Pos} {a b : Expr} {K : PySem.W.Frag}
def mulWM (m n : M S Int) : M S Int := bin2 (fun x y : Int => if mulWOk x y then some (x * y) else none) m n
theorem mulWM_nf (m n : M S Int) : mulWM m n = bindM m fun x => bindM n fun y => guardM (mulWOk x y) (pureM (x * y)) := by
  show bindM m (fun x => bindM n fun y => ofO (if mulWOk x y then some (x * y) else none)) = _
  simp only [ofO_if]
theorem ev_mulW {m n : M S Int} (h : EV Xs F G a m) (h2 : EV Xs F G b n) : EV Xs F G (.BinOp a .Mult b pos) (mulWM m n) :=
  ev_op (fun _ => op_mulX) (rv_intC (D := mulWOk) fun i j h => h) h h2
theorem ev_listL {m : M S (List A)} (hm : ∀ i, (Xs i).mg "list" = none) (h : EV Xs F G a m) (hg : ∀ i, Gl (Xs i) "list" := by intro _; rfl)
    (he : ∀ i, starEach [a] (Xs i).env = (false, eval a (Xs i).env) :: starEach [] (Xs i).env := by intro _; rfl) (hK : ∀ i, (Xs i).K = K := by intro _; rfl) : EV Xs F G (.Call (.Name "list" p) [a] [] pos) (fun1M (fun l : List A => some l) m) :=
  ev_t1 (r := fun xs H Q => ∃ p ys, xs = [.ref p] ∧ (SqL K H p ys ∨ SqT K H p ys) ∧ ∀ l, H l = none → Q (.ref l) (upd H l (.lst ys))) (fun i => by rw [← hK i]; exact call_list_of) (fun F Zx G s t H u vs z g r e Q q => by
    obtain ⟨v, rfl, rv⟩ := r.one
    obtain ⟨pp, xs, rfl, n, h, l⟩ := rv.toLst
    cases e
    refine ⟨pp, xs, rfl, .inl (SqL.of h), fun l' hl => ?_⟩
    have sm : Same H (upd H l' (.lst xs)) := same_new hl
    exact q _ _ sm (.lst (g.new hl) upd_same (l.fix (Fix.same sm)))) hm bb_list h hg (by decide) (by decide) he
end
end PL

namespace PL
open PySem L2 Enc
def Wd (ns : List Int) : Prop := ∀ k ∈ ns, Builtin.Int.intBits k ≤ 1048576
section
variable {S T : Type} {P : Program} {w : World} {K : PySem.W.Frag} {mg : Str → Option Value} {base : Heap}
/-- what is asked of a law -/
def spLawB (K : PySem.W.Frag) : Sp := fun vs H Q _ => ∃ (a : Addr) (ns : List Int), vs = [.ref a] ∧ Only H ∧ SqL K H a (ns.map V.int) ∧ ns.length ≤ 63 ∧ Wd ns ∧ ∀ H', Q (.bl true) H'
/-- the law's def: its first statement makes the deck, the rest is a function of the deck -/
theorem defLawB {Fm_ : T → Fm S} {root : T → Addr} {P0 : List Int → S → Prop} {mk : List Int → Option PyData} {xd y z : Str} {st : Stmt} {f : Addr} {fd : FuncData} {N : List Str} {k j : Nat} {m : M S (Fl Unit Empty Bool)} {py p1 p2 p3 p4 : Pos} {rest : List Stmt}
    (F : Fun K "law" "law" st f fd) (Sc : FnScope N [y] (defScope st)) (D : DefG P w K mg base CX0 k xd [y] (spMk K mk)) (hbd : defBody st = .Assign [.Name z py] (.Call (.Name xd p1) [.Name y p2] [] p3) p4 :: rest)
    (hmk : ∀ (ns : List Int), ns.length ≤ 63 → Wd ns → ∀ (Z : Addr → Prop) (H' : Hp) (v : V) (d : PyData), mk ns = some d → Rp Z H' v d → ∃ t s0, v = .ref (root t) ∧ P0 ns s0 ∧ (Fm_ t).at_ s0 H')
    (hmk2 : ∀ ns, ns.length ≤ 63 → Wd ns → ∃ d, mk ns = some d) (hj : N[j]? = some z) (hj0 : j ≠ 0) (hN0 : N[0]? = some y)
    (hpe : ∀ (cdv : Value) (A : Around) (outer : List Env) (s : Shared) (H : Hp) (E : XK) {sp E' t}, PE (cxOf CX0 P w K mg base N "law" (defScope st) f cdv A outer s H E).nox (.Call (.Name xd p1) [.Name y p2] [] p3) (tCall sp [] E' t) →
      PS (cxOf CX0 P w K mg base N "law" (defScope st) f cdv A outer s H E).nox (.Assign [.Name z py] (.Call (.Name xd p1) [.Name y p2] [] p3) p4) (tAsg (tCall sp [] E' t) (gName j)))
    (hpv : ∀ (cdv : Value) (A : Around) (outer : List Env) (s : Shared) (H : Hp) (E : XK), PA (cxOf CX0 P w K mg base N "law" (defScope st) f cdv A outer s H E).nox [.Name y p2] (tCons (tVar 0) tNil))
    (hgl : ∀ (cdv : Value) (A : Around) (outer : List Env) (s : Shared) (H : Hp) (E : XK), Gl (cxOf CX0 P w K mg base N "law" (defScope st) f cdv A outer s H E).nox xd) (hdb : (xd == ("__debug__" : Str)) = false)
    (hrest : ∀ (cdv : Value) (A : Around) (outer : List Env) (s : Shared) (H : Hp) (E : XK), Room k (A.deeper (PyProof.Rows.envOfC "law" (defScope st) s.heap.objs.size f cdv)) → A.guards = some [] → ∀ t : T,
      ∃ Gn, SV (fun _ : Unit => (cxOf CX0 P w K mg base N "law" (defScope st) f cdv A outer s H E).nox) (Fm_ t) ((List.replicate N.length .un).set j (.raw (.ref (root t)))) rest m Gn (fun z => z.elim))
    (hm : ∀ (ns : List Int) (s0 : S), ns.length ≤ 63 → Wd ns → P0 ns s0 → ∃ s', retM none m s0 = some (true, s')) : FnG P w K mg base CX0 (k + 1) f fd [y] (spLawB K) := by
  refine Fun.okG F Sc (fun vs H Q E ⟨a, ns, e, _⟩ => by rw [e]; rfl) (fun cdv A outer sh H vs Q E hr hgd hsp => ?_)
  obtain ⟨a, ns, rfl, ho, hs, hlen, hwd, q⟩ := hsp
  have hrest' := fun t => hrest cdv A outer sh H E hr hgd t
  have hN : j < N.length := (List.getElem?_eq_some_iff.mp hj).1
  rw [hbd]
  have hU : ∀ t, TSok (Fm_ t) ((List.replicate N.length .un).set j (.raw (.ref (root t)))) (tsU (fun _ : Unit => (cxOf CX0 P w K mg base N "law" (defScope st) f cdv A outer sh H E).nox) rest) m (fun _ : Unit => (Classical.choose (hrest' t)) ()) (fun z : Empty => z.elim) := fun t => (Classical.choose_spec (hrest' t)).uni
  refine ⟨tSeq (tAsg (tCall (spMk K mk) [] E0 (tCons (tVar 0) tNil)) (gName j)) (tsU (fun _ : Unit => (cxOf CX0 P w K mg base N "law" (defScope st) f cdv A outer sh H E).nox) rest), (pss_cons (hpe cdv A outer sh H E (pe_callG D hr hgd (hgl cdv A outer sh H E) pass0 (hpv cdv A outer sh H E) hdb rfl rfl)) (tsU_ps (Xs := fun _ : Unit => (cxOf CX0 P w K mg base N "law" (defScope st) f cdv A outer sh H E).nox) ())).nox, ?_⟩
  refine ⟨.ref a, ?_, ?_⟩
  · show (some (V.ref a) :: List.replicate (N.length - 1) none)[0]? = _
    rfl
  obtain ⟨d, hd⟩ := hmk2 ns hlen hwd
  refine ⟨a, ns, d, rfl, only_scr ho hs, hlen, hd, fun v H1 sm rv => ?_⟩
  obtain ⟨td, s0, rfl, hp0, hat⟩ := hmk ns hlen hwd _ H1 v d hd rv
  obtain ⟨s', hm⟩ := hm ns s0 hlen hwd hp0
  obtain ⟨fl, s2, h1, h2⟩ := bind_some hm
  have noo : ∀ l ∈ (List.replicate N.length Sl.un).set j (.raw (.ref (root td))), ∀ e, l ≠ .own e := fun l hl e z => by
    subst z
    rcases List.mem_or_eq_of_mem_set hl with y | y
    · have := List.eq_of_mem_replicate y
      cases this
    · cases y
  have nOwn := fun b => noOwn_all (t := (L2.start N [V.ref a]).set j (some (.ref (root td)))) noo b
  have lst : (L2.start N [V.ref a]).length = N.length := by
    unfold L2.start
    simp only [List.length_append, List.length_map, List.length_replicate, List.length_cons, List.length_nil]
    omega
  have g0 : Gd (Fm_ td) (fun _ => False) ((List.replicate N.length .un).set j (.raw (.ref (root td)))) s0 ((L2.start N [V.ref a]).set j (some (.ref (root td)))) H1 := by
    refine ⟨by rw [List.length_set, List.length_set, List.length_replicate, lst], hat, fun b z => z.elim, fun i l o e1 e2 => ?_, fun i j e1 e2 p e3 => absurd rfl (noo _ (List.mem_of_getElem? e3) e1), fun p z => absurd z (nOwn p)⟩
    by_cases hi : j = i
    · subst hi
      rw [List.getElem?_set, if_pos rfl, if_pos (by rw [List.length_replicate]; exact hN)] at e1
      rw [List.getElem?_set, if_pos rfl, if_pos (by rw [lst]; exact hN)] at e2
      cases e1
      cases e2
      rfl
    · rw [List.getElem?_set_ne hi] at e1
      have := List.eq_of_mem_replicate (List.mem_of_getElem? e1)
      subst this
      trivial
  refine hU td _ _ H1 s0 fl s2 g0 h1 _ ?_
  cases fl with
  | rt r' =>
    obtain ⟨rfl, rfl⟩ := pure_eq h2
    exact fun v H' _ k5 rv => by
      obtain rfl := rv.bool
      exact q H'
  | nx b =>
    obtain ⟨h3, _⟩ := ofO_eq h2
    cases h3
  | bk z => exact z.elim
  | ct z => exact z.elim
end
section
theorem lawGB {P : Program} {w : World} {K : PySem.W.Frag} {mg mb : Str → Option Value} {k : Nat} {fa a : Addr} {fd : FuncData} {x : Str} {s1 : Shared} {vs : List Value} {ns : List Int}
    (KX : K.In s1.heap) (hns : s1.heap.Ns mainGlobals mg) (hb : s1.heap.Ns builtinsNs mb) (hbb : ∀ x : Str, x ≠ "__name__" → mb x = bootBuiltins x) (hlim : s1.heap.NoLimit) (hg : s1.gens = #[])
    (ha : s1.heap.get? a = some { cls := .type "list", data := .seq vs.toArray }) (hi : PyProof.Rows.IntsAre vs ns) (hl : ns.length ≤ 63) (hwd : Wd ns) (hr : Room k callerA)
    (F : ∀ base : Heap, K.In base → base.Ns mainGlobals mg → FnG P w K mg base CX0 k fa fd [x] (spLawB K)) (hbind : ∀ (s : Shared) (u : Value), BindsTo s fd ⟨[u], []⟩ [(x, u)]) :
    codeAny (model P w) callerA (.call (.ref fa) ⟨[.ref a], []⟩) (fun r s' => r = .ok (.ret (.bool true)) ∧ PySem.OldK s1.heap s'.heap ∧ s'.os = s1.os ∧ PyProof.Rows.AllBare s'.gens) s1 := by
  have rv := vals_ints hi
  have lenV := hi.length
  have hline : ns.length ≤ sizeLine := Nat.le_trans hl (by rw [sizeLine_eq]; decide)
  -- from an abstract heap in which at most the script is tracked
  have core : ∀ H : Hp, Only H → SqL K H a (ns.map V.int) → HOk P w H s1.heap → (∀ b, H b ≠ none → b = a) → (H a ≠ none → K.lookup a = none) →
      codeAny (model P w) callerA (.call (.ref fa) ⟨[.ref a], []⟩) (fun r s' => r = .ok (.ret (.bool true)) ∧ PySem.OldK s1.heap s'.heap ∧ s'.os = s1.os ∧ PyProof.Rows.AllBare s'.gens) s1 := by
    intro H hO hS hok hA hK
    have noA : ∀ {b : Addr} {o : Obj} {es : Array DictEntry} {ep : Nat}, s1.heap.get? b = some o → o.data = .dict es ep → H b = none := fun {b o es ep} e d => by
      cases q : H b with
      | none => rfl
      | some u =>
        obtain rfl : b = a := hA b (by rw [q]; intro z; cases z)
        rw [ha] at e
        cases e
        have d' : Data.seq vs.toArray _ = Data.dict es ep := d
        cases d'
    have nsK : ∀ {b : Addr} {m : Str → Option Value}, s1.heap.Ns b m → (hidT s1.heap H).Ns b m := fun {b m} ⟨o, es, ep, e, d, r⟩ => ⟨o, es, ep, hidT_get e (noA e d), d, r⟩
    have hKb : K.In (hidT s1.heap H) := fun b o e => hidT_get (KX b o e) (by
      cases q : H b with
      | none => rfl
      | some u =>
        obtain rfl : b = a := hA b (by rw [q]; intro z; cases z)
        rw [hK (by rw [q]; intro z; cases z)] at e
        cases e)
    have hM : Mod K mg (hidT s1.heap H) := ⟨hKb, nsK hns, ⟨mb, nsK hb, hbb⟩, let ⟨mc, q1, q2⟩ := hlim; ⟨mc, nsK q1, q2⟩⟩
    have e0 : Env0 P w K mg (hidT s1.heap H) callerA [] s1 H := ⟨rfl, hM, fun b o e => of_hidT e, Nat.le_of_eq (hidT_size _ _), trivial, fun b hb => absurd (show b ∈ ([] : List Addr) from hb) List.not_mem_nil, hok, .of_eq hg⟩
    refine codeAny_mono ((F _ hKb (nsK hns)).run callerA [] s1 H ⟨[.ref a], []⟩ [.ref a] [.ref a] (fun v _ => v = .bl true) (fun _ _ _ => False) hr rfl e0 (hbind s1 (.ref a)) (.cons rfl .nil) ⟨a, ns, rfl, hO, hS, hl, hwd, fun _ => rfl⟩) fun r s' h => ?_
    cases r with
    | error e => exact h.elim
    | ok fl =>
      cases fl with
      | next => exact h.elim
      | brk => exact h.elim
      | cont => exact h.elim
      | ret u =>
        obtain ⟨v, H', os, bare, un, hok', r', q⟩ := h
        have q' : v = .bl true := q
        subst q'
        obtain rfl : u = Value.bool true := r'
        refine ⟨rfl, PySem.OldK.of_keep fun b o e => ?_, os, bare⟩
        cases q : H b with
        | none => exact un.keep b o e q (fun z => absurd (show b ∈ ([] : List Addr) from z) List.not_mem_nil) List.not_mem_nil
        | some u =>
          rcases hO b with z | ⟨ob, xs, z⟩
          · rw [q] at z
            cases z
          · obtain ⟨e1, _⟩ := hok b _ z
            obtain ⟨e2, _⟩ := hok' b _ (un.frzs b ob _ z)
            rw [e] at e1
            cases e1
            exact e2
  cases hk : K.lookup a with
  | some o =>
    have e := KX a o hk
    rw [ha] at e
    cases e
    refine core (fun _ => none) (fun _ => .inl rfl) (.inr ⟨_, vs.toArray, _, hk, rfl, rfl, rfl, by rw [List.size_toArray, lenV]; exact hline, by simpa using rv⟩) (fun b u z => by
      have z' : (none : Option HO) = some u := z
      cases z') (fun b z => absurd rfl z) fun z => absurd rfl z
  | none =>
    refine core (fun b => if b = a then some (.frz { cls := .type "list", data := .seq vs.toArray } (.lst (ns.map V.int))) else none) (fun b => ?_) (.inl (.inr ⟨{ cls := .type "list", data := .seq vs.toArray }, if_pos rfl⟩)) (fun b u z => ?_) (fun b z => ?_) fun _ => hk
    · by_cases hb : b = a
      · exact .inr ⟨_, _, if_pos hb⟩
      · exact .inl (if_neg hb)
    · by_cases hb : b = a
      · have z' := (if_pos hb).symm.trans z
        cases z'
        subst hb
        exact ⟨ha, by rw [List.length_map]; exact hline, vs, _, rv, ha⟩
      · have z' := (if_neg hb).symm.trans z
        cases z'
    · by_cases hb : b = a
      · exact hb
      · exact absurd (if_neg hb) z
/-- the goal that the head leaves, from the law's promise -/
theorem walkGB {l : PySem.W.OpenLaw} {k : Nat} {q : Program} {loose : List Str} {XP : (Str → Option Value) → Heap → Prop} {YP : World → Heap → Prop} {d : DefRec} {K : PySem.Params → PySem.W.Frag} {x : Str}
    (hn : l.most = some 63) (hdf : d.params.defaults = []) (hr : Room k callerA) (hY : ∀ (w : World) (h : Heap), YP w h → (K w.params).In h)
    (F : ∀ (w : World) (mg : Str → Option Value) (fa : Addr) (h : Heap), (K w.params).In h → h.Ns mainGlobals mg → mg d.name = some (.ref fa) →
      ∃ fd : FuncData, (∀ (s : Shared) (u : Value), BindsTo s fd ⟨[u], []⟩ [(x, u)]) ∧
        ∀ base : Heap, (K w.params).In base → base.Ns mainGlobals mg → FnG l.prog w (K w.params) mg base CX0 k fa fd [x] (spLawB (K w.params))) :
    PySem.W.WalkO q loose XP YP l.row.toRowW d [] (fun f vs => PySem.call f vs) := by
  refine Att.attach_callB hn hdf fun w s0 s1 mg mb fa o pm cd doc a vs ns G Y ho hd hcd hmg hobj hints hlen hbits hg => ?_
  have KX := hY w _ Y
  obtain ⟨fd, hb, hF⟩ := F w mg fa _ KX G.T.g hmg
  exact lawGB KX G.T.g G.T.b G.T.builtins G.T.nolimit hg hobj hints hlen hbits hr hF hb
end
def deckDB (c r : List Int) : PyData := .list [enc c, enc (0 : Int), enc r]
def P0B (cells : List Int → List Int) (ns : List Int) (s : DkB) : Prop := s.n = 0 ∧ s.cells = cells ns ∧ s.rests.length = (cells ns).length
theorem mk_B {mk : List Int → Option PyData} {cells rests : List Int → List Int} (ns : List Int) (e : mk ns = some (deckDB (cells ns) (rests ns))) (hl : (rests ns).length = (cells ns).length) (Z : Addr → Prop) (H : Hp) (v : V) (d : PyData) (h : mk ns = some d) (r : Rp Z H v d) :
    ∃ (t : DkBA) (s0 : DkB), v = .ref (rootB t) ∧ P0B cells ns s0 ∧ (fmB t).at_ s0 H := by
  rw [e] at h
  cases h
  cases r with
  | lst z1 h1 r1 =>
    cases r1 with
    | cons a b =>
      cases b with
      | cons b c =>
        cases c with
        | cons c e =>
          cases e
          obtain rfl := Rp.toInt b
          cases a with
          | lst z2 h2 r2 =>
            cases c with
            | lst z3 h3 r3 =>
              obtain rfl := rpl_ints r2
              obtain rfl := rpl_ints r3
              rename_i a1 a2 a3
              have ne : ∀ (l : List Int), [V.ref a2, V.int 0, V.ref a3] ≠ l.map V.int := fun l q => by
                cases l with
                | nil => cases q
                | cons i l => cases q
              refine ⟨⟨a1, a2, a3, fun q => ?_, fun q => ?_⟩, ⟨cells ns, 0, rests ns, decide (a2 = a3)⟩, rfl, ⟨rfl, rfl, hl⟩, h1, h2, h3, decide_eq_true_iff⟩
              · rw [q, h2] at h1
                injection h1 with h1
                injection h1 with h1
                exact ne _ h1.symm
              · rw [q, h3] at h1
                injection h1 with h1
                injection h1 with h1
                exact ne _ h1.symm
end PL

namespace PL
open PySem L2 Enc
section
variable {I S A B C N L R : Type} [Enc A] [Enc B] [Enc C] [Enc R] {Xs : I → Cx} {F : Fm S} {G : List Sl} {pos p p2 : Pos} {a b c e tg : Expr} {x : Str} {K : PySem.W.Frag}
theorem none_before {Zx : Addr → Prop} {s : S} {t : St} {H H1 : Hp} {pn : Addr} (g1 : Gd F Zx G s t H1) (f1 : Fix F H H1) (hn : H1 pn = none) : H pn = none := by
  cases e : H pn with
  | none => rfl
  | some o =>
    by_cases hz : F.Z pn
    · exact absurd hn (F.trk _ _ _ g1.at_ hz)
    · rw [f1 pn o hz e] at hn
      cases hn
theorem new_ext {Zx : Addr → Prop} {t : St} {H : Hp} {pn : Addr} {o : HO} (hn : H pn = none) : Ext (ZF F Zx G t) H (ZF F (fun b => Zx b ∨ b = pn) G t) (upd H pn o) := ⟨fun b o z h => same_new hn b o h, fun b z => by
  rcases z with z | (z | z) | z
  · exact .inl (.inl z)
  · exact .inl (.inr (.inl z))
  · rw [z]
    exact .inr hn
  · exact .inl (.inr (.inr z))⟩
theorem eo_cat {m n : M S (List A)} (ha : EV Xs F G a m) (hb : EV Xs F G b n) : EO Xs F G (.BinOp a .Add b pos) (catM m n) := by
  obtain ⟨ta, hp, hx⟩ := ha
  obtain ⟨tb, hq, hy⟩ := hb
  refine ⟨tOp rCat ta tb, fun i => pe_op op_cat (hp i) (hq i), fun Zx t H s y s' g hm Q q => ?_⟩
  obtain ⟨z, s1, h1, h2⟩ := bind_some hm
  obtain ⟨w, s2, h3, h4⟩ := bind_some h2
  obtain ⟨h5, rfl⟩ := ofO_eq h4
  replace h5 : (if lenOk (z.length + w.length) then some (z ++ w) else none) = some y := h5
  by_cases hl : lenOk (z.length + w.length)
  · rw [if_pos hl] at h5
    cases h5
    refine hx Zx t H s z s1 g h1 _ fun v H1 g1 f1 r1 => ?_
    refine hy Zx t H1 s1 w s2 g1 h3 _ fun u H2 g2 f2 r2 => ?_
    obtain ⟨pp, xs, rfl, n1, k1, l1⟩ := (r1.fix f2).toLst
    obtain ⟨p3, ys, rfl, n2, k2, l2⟩ := r2.toLst
    refine ⟨pp, p3, xs, ys, rfl, rfl, k1, k2, ?_, fun pn hn => ?_⟩
    · rw [l1.len, l2.len, List.length_map, List.length_map]
      exact lenOk_line hl
    · have sm : Same H2 (upd H2 pn (.lst (xs ++ ys))) := same_new hn
      refine q pn _ (g2.more hn) ((f1.trans f2).trans (Fix.same sm)) (none_before g2 (f1.trans f2) hn) ⟨_, upd_same, ?_⟩
      rw [List.map_append]
      exact (l1.append l2).ext (new_ext hn)
  · rw [if_neg hl] at h5
    cases h5
/-- x.extend(e), x in slot k -/
theorem ss_extend {Gl : L → List Sl} {l : List A} {m : M S (List A)} {k : Nat} {apos cpos px : Pos} (hk : G[k]? = some (.own (enc l))) (h : EV Xs F G e m) (hN : ∀ i, (Xs i).N[k]? = some x := by intro _; rfl)
    (hv : ∀ i, Vis (Xs i).env.scope x := by first | exact fun _ => Or.inl rfl | exact fun _ => Or.inr (Or.inl rfl) | exact fun _ => Or.inr (Or.inr rfl)) (hd : (x == ("__debug__" : Str)) = false := by decide) (hcd : (x == ("__classdict__" : Str)) = false := by decide)
    (hbase : ∀ i, attributeBase (.Name x px) "extend" (Xs i).env (eval (.Name x px) (Xs i).env) = eval (.Name x px) (Xs i).env := by intro _; rfl)
    (hfew : ∀ i, ((backTo cpos (starEach (e :: []) (Xs i).env)).all (fun x => !x.1) && (backToKw cpos (keywordEach [] (Xs i).env)).all (fun x => x.1.isSome)
      && decide ((e :: []).length + ([] : List Keyword).length + (if ([] : List Keyword).isEmpty then 0 else 1) < 30)) = true := by intro _; rfl)
    (hline : (apos.endLine == cpos.line) = true := by rfl) (hs : ∀ i, starEach (e :: []) (Xs i).env = (false, eval e (Xs i).env) :: starEach [] (Xs i).env := by intro _; rfl)
    (hpl : ∀ i, (backTo cpos (starEach [] (Xs i).env)).any (·.1) = false := by intro _; rfl) {K : PySem.W.Frag} (hK : ∀ i, (Xs i).K = K := by intro _; rfl)
    (hsw : ∀ i, swapsWith (.Call (.Attribute (.Name x px) "extend" apos) [e] [] cpos) none pos.line (Xs i).env = pure false := by intro _; rfl) :
    SS (R := R) (L := L) Xs F G (.Expr (.Call (.Attribute (.Name x px) "extend" apos) [e] [] cpos) pos) (bindM m fun y => guardM (lenOk (l.length + y.length)) (pureM (.nx y))) (fun y : List A => G.set k (.own (enc (l ++ y)))) Gl := by
  obtain ⟨te, hp, ho⟩ := h
  refine ⟨tDrop (tBM K "list" rExtend (tVar k) (tCons te tNil)), fun i => ps_expr (by
    rw [← hK i]
    exact pe_bm PySem.F.plainAttrs_list PySem.F.slot_list_extend PySem.F.type_list_extend mt_extend (pe_var (hN i) (hv i) hd hcd) (pa_cons (hp i) pa_nil (hs i)) (hbase i) (hfew i) hline (hs i) (hpl i)) (hsw i), fun Zx t H s r s' g hm D q => ?_⟩
  obtain ⟨y, s1, h1, h2⟩ := bind_some hm
  obtain ⟨hl, h3⟩ := guard_eq h2
  obtain ⟨rfl, rfl⟩ := pure_eq h3
  obtain ⟨hkl, _⟩ := List.getElem?_eq_some_iff.mp hk
  have hk' : k < t.length := by
    rw [g.len]
    exact hkl
  have ht : t[k]? = some (t[k]'hk') := List.getElem?_eq_getElem hk'
  obtain ⟨pp, ep, xs, hxs, _⟩ := g.slot k _ _ hk ht
  rw [ep] at ht
  refine ⟨.ref pp, ht, .inl ⟨rfl, xs, SqL.of hxs⟩, ?_⟩
  refine ho Zx t H s y s1 g h1 _ fun v H1 g1 f1 r1 => ?_
  obtain ⟨pp', ep', ys, hys, ry⟩ := g1.slot k _ _ hk ht
  cases ep'
  obtain ⟨pb, zs, rfl, nb, kb, lb⟩ := r1.toLst
  have hlen : ys.length = l.length := by rw [ry.len, List.length_map]
  have hlen2 : zs.length = y.length := by rw [lb.len, List.length_map]
  refine ⟨pp, pb, ys, zs, rfl, rfl, hys, kb, ?_, ?_⟩
  · rw [hlen, hlen2]
    exact lenOk_line hl
  · have hown : Own G t pp := ⟨k, _, hk, ht⟩
    have ex : Ext (ZF F Zx G t) H1 (ZF F Zx G t) (upd H1 pp (.lst (ys ++ zs))) := ⟨fun b u z h => by
      rw [upd_ne (fun k => z (by rw [k]; exact .inr (.inr hown)))]
      exact h, fun b z => .inl z⟩
    obtain ⟨g2, own2⟩ := g1.putOwn (o := .lst (ys ++ zs)) (d' := enc (l ++ y)) hk ht ⟨ys ++ zs, upd_same, by
      rw [List.map_append]
      exact (ry.append lb).ext ex⟩
    refine q t _ g2 ⟨fun b o z w h => ?_, fun b z => .inl ((own2 b).mp z)⟩
    rw [upd_ne (fun k => w (by rw [k]; exact hown))]
    exact f1 b o z h
end
section
variable {A : Type} [Enc A]
def lckF (l : Dic A) (Z : Addr → Prop) (H : Hp) (v : V) : Prop := ∃ p o kvs, v = .ref p ∧ ¬ Z p ∧ H p = some (.frz o (.dK kvs)) ∧ RpK Z H kvs (List.map dkv (unDic l))
theorem lckF_ext {l : Dic A} : ∀ Z H Z' H' v, Ext Z H Z' H' → lckF l Z H v → lckF l Z' H' v := fun Z H Z' H' v e ⟨p, o, kvs, h1, h2, h3, h4⟩ => ⟨p, o, kvs, h1, e.not h2 h3, e.1 _ _ h2 h3, h4.ext e⟩
abbrev slLck (l : Dic A) : Sl := .ext (lckF l) lckF_ext
def noExt (G : List Sl) : Bool := G.all fun l => match l with
  | .ext _ _ => false
  | _ => true
variable {Z : Addr → Prop} {H : Hp} {d : Addr} {od : Obj} {kv0 : List (Key × V)}
theorem upd_lst {H : Hp} {d a : Addr} {o u w : HO} (h : H a = some u) (e : H d = some o) (n : u ≠ o) : upd H d w a = some u := by
  rw [upd_ne fun z => n (by rw [z, e] at h; injection h with h; exact h.symm)]
  exact h
mutual
theorem Rp.lock (hd : H d = some (.dK kv0)) : ∀ {v : V} {x : PyData}, Rp Z H v x → Rp Z (upd H d (.frz od (.dK kv0))) v x
  | _, _, .non => .non
  | _, _, .bl b => .bl b
  | _, _, .int i => .int i
  | _, _, .str x => .str x
  | _, _, .lst n h r => .lst n (upd_lst h hd (fun z => nomatch z)) (RpL.lock hd r)
  | _, _, .tup n h r => .tup n (h.at_ fun o q => by
      obtain ⟨ob, q2, _⟩ := h
      rw [q] at q2
      cases q2
      exact upd_lst q hd (fun z => nomatch z)) (RpL.lock hd r)
  | _, _, .dic (a := a) n h r => .dic n (by
      by_cases e : a = d
      · subst e
        rcases h with h | ⟨o, h⟩
        · rw [hd] at h
          cases h
          exact .inr ⟨od, upd_same⟩
        · rw [hd] at h
          cases h
      · exact h.imp (fun h => by rw [upd_ne e]; exact h) fun ⟨o, h⟩ => ⟨o, by rw [upd_ne e]; exact h⟩) (RpK.lock hd r)
theorem RpL.lock (hd : H d = some (.dK kv0)) : ∀ {v : List V} {x : List PyData}, RpL Z H v x → RpL Z (upd H d (.frz od (.dK kv0))) v x
  | _, _, .nil => .nil
  | _, _, .cons h t => .cons (Rp.lock hd h) (RpL.lock hd t)
theorem RpK.lock (hd : H d = some (.dK kv0)) : ∀ {v : List (Key × V)} {x : List (PyData × PyData)}, RpK Z H v x → RpK Z (upd H d (.frz od (.dK kv0))) v x
  | _, _, .nil => .nil
  | _, _, .cons h t => .cons (Rp.lock hd h) (RpK.lock hd t)
end
mutual
theorem Rp.unlock (hd : H d = some (.frz od (.dK kv0))) : ∀ {v : V} {x : PyData}, Rp Z H v x → Rp Z (upd H d (.dK kv0)) v x
  | _, _, .non => .non
  | _, _, .bl b => .bl b
  | _, _, .int i => .int i
  | _, _, .str x => .str x
  | _, _, .lst n h r => .lst n (upd_lst h hd (fun z => nomatch z)) (RpL.unlock hd r)
  | _, _, .tup n h r => .tup n (h.at_ fun o q => by
      obtain ⟨ob, q2, _⟩ := h
      rw [q] at q2
      cases q2
      exact upd_lst q hd (fun z => nomatch z)) (RpL.unlock hd r)
  | _, _, .dic (a := a) n h r => .dic n (by
      by_cases e : a = d
      · subst e
        rcases h with h | ⟨o, h⟩
        · rw [hd] at h
          cases h
        · rw [hd] at h
          cases h
          exact .inl upd_same
      · exact h.imp (fun h => by rw [upd_ne e]; exact h) fun ⟨o, h⟩ => ⟨o, by rw [upd_ne e]; exact h⟩) (RpK.unlock hd r)
theorem RpL.unlock (hd : H d = some (.frz od (.dK kv0))) : ∀ {v : List V} {x : List PyData}, RpL Z H v x → RpL Z (upd H d (.dK kv0)) v x
  | _, _, .nil => .nil
  | _, _, .cons h t => .cons (Rp.unlock hd h) (RpL.unlock hd t)
theorem RpK.unlock (hd : H d = some (.frz od (.dK kv0))) : ∀ {v : List (Key × V)} {x : List (PyData × PyData)}, RpK Z H v x → RpK Z (upd H d (.dK kv0)) v x
  | _, _, .nil => .nil
  | _, _, .cons h t => .cons (Rp.unlock hd h) (RpK.unlock hd t)
end
end
section
variable {S A : Type} [Enc A] {F : Fm S} {G : List Sl} {Zx : Addr → Prop} {s : S} {t : St} {H : Hp} {k : Nat} {l : Dic A}
theorem set_own {k : Nat} {y : Sl} {x : Sl} (h : G[k]? = some x) (hx : ∀ d, x ≠ .own d) (hy : ∀ d, y ≠ .own d) (b : Addr) : Own (G.set k y) t b ↔ Own G t b := by
  constructor
  · rintro ⟨i, d, h1, h2⟩
    by_cases hi : k = i
    · subst hi
      rw [List.getElem?_set, if_pos rfl] at h1
      split at h1
      · injection h1 with h1
        exact absurd h1 (hy d)
      · cases h1
    · rw [List.getElem?_set_ne hi] at h1
      exact ⟨i, d, h1, h2⟩
  · rintro ⟨i, d, h1, h2⟩
    by_cases hi : k = i
    · subst hi
      rw [h] at h1
      injection h1 with h1
      exact absurd h1 (hx d)
    · exact ⟨i, d, by rw [List.getElem?_set_ne hi]; exact h1, h2⟩
/-- one slot says something else, and so may the heap -/
theorem Gd.reslot {H' : Hp} {x y : Sl} (g : Gd F Zx G s t H) (h : G[k]? = some x) (hx : ∀ d, x ≠ .own d) (hy : ∀ d, y ≠ .own d) (hat : F.at_ s H') (htr : ∀ b, H b ≠ none → H' b ≠ none)
    (hs : ∀ (i : Nat) z o, i ≠ k → G[i]? = some z → t[i]? = some o → SlOk (ZF F Zx G t) H z o → SlOk (ZF F Zx G t) H' z o) (hk : ∀ o, t[k]? = some o → SlOk (ZF F Zx G t) H' y o) : Gd F Zx (G.set k y) s t H' := by
  have own := fun b => set_own (t := t) h hx hy b
  have ez : ZF F Zx (G.set k y) t = ZF F Zx G t := funext fun b => propext ⟨fun z => z.imp id (Or.imp id (own b).mp), fun z => z.imp id (Or.imp id (own b).mpr)⟩
  refine ⟨by rw [List.length_set]; exact g.len, hat, fun b z => htr b (g.trk b z), fun i z o h1 h2 => ?_, fun i j d1 d2 p h1 h2 h3 h4 => ?_, fun p z => g.sep p ((own p).mp z)⟩
  · rw [ez]
    by_cases hi : k = i
    · subst hi
      rw [List.getElem?_set, if_pos rfl, if_pos (List.getElem?_eq_some_iff.mp h).1] at h1
      injection h1 with h1
      subst h1
      exact hk o h2
    · rw [List.getElem?_set_ne hi] at h1
      exact hs i z o (fun e => hi e.symm) h1 h2 (g.slot i z o h1 h2)
  · have up : ∀ {i : Nat} {d : PyData}, (G.set k y)[i]? = some (.own d) → G[i]? = some (.own d) := fun {i d} q => by
      by_cases hi : k = i
      · subst hi
        rw [List.getElem?_set, if_pos rfl] at q
        split at q
        · injection q with q
          exact absurd q (hy d)
        · cases q
      · rw [List.getElem?_set_ne hi] at q
        exact q
    exact g.inj i j d1 d2 p (up h1) (up h2) h3 h4
theorem noExt_at (h : noExt G = true) {i : Nat} {f : (Addr → Prop) → Hp → V → Prop} {st : ∀ Z H Z' H' v, Ext Z H Z' H' → f Z H v → f Z' H' v} (e : G[i]? = some (.ext f st)) : False := by
  have := List.all_eq_true.mp h _ (List.mem_of_getElem? e)
  cases this
theorem ext_at {k : Nat} (h : noExt (G.set k .un) = true) {i : Nat} (hi : i ≠ k) {f : (Addr → Prop) → Hp → V → Prop} {st : ∀ Z H Z' H' v, Ext Z H Z' H' → f Z H v → f Z' H' v} (e : G[i]? = some (.ext f st)) : False :=
  noExt_at (G := G.set k .un) h (i := i) (by rw [List.getElem?_set_ne (fun z => hi z.symm)]; exact e)
theorem SlOk.lock {d : Addr} {od : Obj} {kv0 : List (Key × V)} {Z : Addr → Prop} (hd : H d = some (.dK kv0)) {z : Sl} {o : Option V} (hne : ∀ f st, z ≠ .ext f st) (hp : ∀ p e, z = .own e → o = some (.ref p) → p ≠ d) (h : SlOk Z H z o) : SlOk Z (upd H d (.frz od (.dK kv0))) z o := by
  cases z with
  | un => trivial
  | raw v => exact h
  | dat e =>
    obtain ⟨v, e, r⟩ := h
    exact ⟨v, e, r.lock hd⟩
  | ext f st => exact absurd rfl (hne f st)
  | own e =>
    obtain ⟨p, e1, r⟩ := h
    have np := hp p e rfl e1
    refine ⟨p, e1, ?_⟩
    cases e with
    | list ds =>
      obtain ⟨xs, h1, h2⟩ := r
      exact ⟨xs, by rw [upd_ne np]; exact h1, h2.lock hd⟩
    | dict ds =>
      obtain ⟨xs, h1, h2⟩ := r
      exact ⟨xs, by rw [upd_ne np]; exact h1, h2.lock hd⟩
    | _ => exact r.elim
theorem SlOk.unlock {d : Addr} {od : Obj} {kv0 : List (Key × V)} {Z : Addr → Prop} (hd : H d = some (.frz od (.dK kv0))) {z : Sl} {o : Option V} (hne : ∀ f st, z ≠ .ext f st) (hp : ∀ p e, z = .own e → o = some (.ref p) → p ≠ d) (h : SlOk Z H z o) : SlOk Z (upd H d (.dK kv0)) z o := by
  cases z with
  | un => trivial
  | raw v => exact h
  | dat e =>
    obtain ⟨v, e, r⟩ := h
    exact ⟨v, e, r.unlock hd⟩
  | ext f st => exact absurd rfl (hne f st)
  | own e =>
    obtain ⟨p, e1, r⟩ := h
    have np := hp p e rfl e1
    refine ⟨p, e1, ?_⟩
    cases e with
    | list ds =>
      obtain ⟨xs, h1, h2⟩ := r
      exact ⟨xs, by rw [upd_ne np]; exact h1, h2.unlock hd⟩
    | dict ds =>
      obtain ⟨xs, h1, h2⟩ := r
      exact ⟨xs, by rw [upd_ne np]; exact h1, h2.unlock hd⟩
    | _ => exact r.elim
theorem upd_there {d : Addr} {o : HO} (b : Addr) (h : H b ≠ none) : upd H d o b ≠ none := by
  by_cases e : b = d
  · rw [e, upd_same]
    exact fun z => nomatch z
  · rw [upd_ne e]
    exact h
theorem own_ne {i : Nat} {z : Sl} {o : Option V} {d : Addr} (hz : ¬ ZF F Zx G t d) (h1 : G[i]? = some z) (h2 : t[i]? = some o) (p : Addr) (e : PyData) (e1 : z = .own e) (e2 : o = some (.ref p)) : p ≠ d := fun q => by
  subst e1
  subst e2
  subst q
  exact hz (.inr (.inr ⟨i, e, h1, h2⟩))
theorem Gd.lock {d : Addr} {od : Obj} {kvs : List (Key × V)} (g : Gd F Zx G s t H) (hno : noExt G = true) (hk : G[k]? = some (.dat (enc l))) (hz : ¬ ZF F Zx G t d) (hd : H d = some (.dK kvs)) (ht : t[k]? = some (some (.ref d))) (r : RpK (ZF F Zx G t) H kvs (List.map dkv (unDic l))) :
    Gd F Zx (G.set k (slLck l)) s t (upd H d (.frz od (.dK kvs))) :=
  g.reslot hk (fun _ z => nomatch z) (fun _ z => nomatch z) (F.loc _ _ _ (fun b z => upd_ne fun e => hz (by rw [← e]; exact .inl z)) g.at_) upd_there
    (fun i z o hi h1 h2 hs => hs.lock hd (fun f st e => noExt_at hno (by rw [e] at h1; exact h1)) (own_ne hz h1 h2)) fun o ho => by
      rw [ht] at ho
      cases ho
      exact ⟨.ref d, rfl, d, od, kvs, rfl, hz, upd_same, r.lock hd⟩
theorem Gd.toLck {d : Addr} {od : Obj} {kvs : List (Key × V)} (g : Gd F Zx G s t H) (hk : G[k]? = some (.dat (enc l))) (hz : ¬ ZF F Zx G t d) (hd : H d = some (.frz od (.dK kvs))) (ht : t[k]? = some (some (.ref d))) (r : RpK (ZF F Zx G t) H kvs (List.map dkv (unDic l))) :
    Gd F Zx (G.set k (slLck l)) s t H :=
  g.reslot hk (fun _ z => nomatch z) (fun _ z => nomatch z) g.at_ (fun _ h => h) (fun i z o hi h1 h2 hs => hs) fun o ho => by
      rw [ht] at ho
      cases ho
      exact ⟨.ref d, rfl, d, od, kvs, rfl, hz, hd, r⟩
theorem Gd.unlock {d : Addr} {od : Obj} {kvs : List (Key × V)} (g : Gd F Zx G s t H) (hno : noExt (G.set k .un) = true) (hk : G[k]? = some (slLck l)) (hz : ¬ ZF F Zx G t d) (hd : H d = some (.frz od (.dK kvs))) : Gd F Zx (G.set k (.dat (enc l))) s t (upd H d (.dK kvs)) :=
  g.reslot hk (fun _ z => nomatch z) (fun _ z => nomatch z) (F.loc _ _ _ (fun b z => upd_ne fun e => hz (by rw [← e]; exact .inl z)) g.at_) upd_there
    (fun i z o hi h1 h2 hs => hs.unlock hd (fun f st e => ext_at hno hi (by rw [e] at h1; exact h1)) (own_ne hz h1 h2)) fun o ho => by
      obtain ⟨v, e, p', o', kv', e1, z1, h1, r1⟩ := g.slot k _ _ hk ho
      subst e1
      exact ⟨_, e, Rp.unlock hd (.dic z1 (.inr ⟨o', h1⟩) r1)⟩
theorem Gd.unLck (g : Gd F Zx G s t H) (hk : G[k]? = some (slLck l)) : Gd F Zx (G.set k (.dat (enc l))) s t H :=
  g.reslot hk (fun _ z => nomatch z) (fun _ z => nomatch z) g.at_ (fun _ h => h) (fun i z o hi h1 h2 hs => hs) fun o ho => by
      obtain ⟨v, e, p', o', kv', e1, z1, h1, r1⟩ := g.slot k _ _ hk ho
      subst e1
      exact ⟨_, e, .dic z1 (.inr ⟨o', h1⟩) r1⟩
theorem zf_set {x y : Sl} (h : G[k]? = some x) (hx : ∀ d, x ≠ .own d) (hy : ∀ d, y ≠ .own d) : ZF F Zx (G.set k y) t = ZF F Zx G t :=
  funext fun b => propext ⟨fun z => z.imp id (Or.imp id (set_own h hx hy b).mp), fun z => z.imp id (Or.imp id (set_own h hx hy b).mpr)⟩
end
section
variable {I S A B : Type} [Enc A] [Enc B] {Xs : I → Cx} {F : Fm S} {G : List Sl} {pos p p2 : Pos} {e tg : Expr} {x : Str} {k : Nat} {l : Dic A}
theorem set_get {y : Sl} (h : k < G.length) : (G.set k y)[k]? = some y := by rw [List.getElem?_set, if_pos rfl, if_pos h]
theorem set_back {x y : Sl} (h : G[k]? = some x) : (G.set k y).set k x = G := by
  rw [List.set_set]
  apply List.ext_getElem?
  intro i
  by_cases hi : k = i
  · subst hi
    rw [set_get (List.getElem?_eq_some_iff.mp h).1, h]
  · rw [List.getElem?_set_ne hi]
theorem noExt_un (h : noExt G = true) {y : Sl} : noExt ((G.set k y).set k .un) = true := by
  rw [List.set_set]
  refine List.all_eq_true.mpr fun z hz => ?_
  rcases List.mem_or_eq_of_mem_set hz with q | q
  · exact List.all_eq_true.mp h z q
  · subst q
    rfl
/-- an expression in which the dict of slot k is walked -/
theorem ev_lock {m : M S B} (hk : G[k]? = some (.dat (enc l))) (hno : noExt G = true) (h : EV Xs F (G.set k (slLck l)) e m) : EV Xs F G e m := by
  obtain ⟨te, hp, ho⟩ := h
  have hkl := (List.getElem?_eq_some_iff.mp hk).1
  refine ⟨fun t H Q => tLockE te t H Q ∨ te t H Q, fun i => ⟨fun pins s t H Q J hw => ?_⟩, fun Zx t H s y s' g hm Q q => ?_⟩
  · rcases hw with hw | hw
    · exact (pe_lock (hp i)).run pins s t H Q J hw
    · exact (hp i).run pins s t H Q J hw
  · have hk' : k < t.length := by
      rw [g.len]
      exact hkl
    have ht : t[k]? = some (t[k]'hk') := List.getElem?_eq_getElem hk'
    obtain ⟨v, ev, rv⟩ := g.slot k _ _ hk ht
    rw [ev] at ht
    obtain ⟨d, kvs, rfl, hz, hd, rk⟩ := rv.toDic
    have zs : ZF F Zx (G.set k (slLck l)) t = ZF F Zx G t := zf_set hk (fun _ z => nomatch z) (fun _ z => nomatch z)
    rcases hd with hd | ⟨od, hd⟩
    · refine .inl ⟨d, .dK kvs, hd, trivial, fun od => ?_⟩
      refine ho Zx t _ s y s' (g.lock hno hk hz hd ht rk) hm _ fun v H2 g2 f2 r2 => ?_
      have h2 : H2 d = some (.frz od (.dK kvs)) := f2 d _ (fun z => hz (.inl z)) upd_same
      refine ⟨h2, ?_⟩
      have g3 := g2.unlock (noExt_un hno) (set_get hkl) (by rw [zs]; exact hz) h2
      rw [set_back hk] at g3
      refine q v _ g3 (fun b o z hb => ?_) (by rw [zs] at r2; exact r2.unlock h2)
      by_cases e : b = d
      · rw [e] at hb ⊢
        rw [hd] at hb
        cases hb
        exact upd_same
      · rw [upd_ne e]
        exact f2 b o z (by rw [upd_ne e]; exact hb)
    · refine .inr ?_
      refine ho Zx t _ s y s' (g.toLck hk hz hd ht rk) hm _ fun v H2 g2 f2 r2 => ?_
      have g3 := g2.unLck (l := l) (set_get hkl)
      rw [set_back hk] at g3
      exact q v _ g3 f2 (by rw [zs] at r2; exact r2)
theorem Gd.lck {Zx : Addr → Prop} {s : S} {t : St} {H : Hp} (g : Gd F Zx G s t H) (h : G[k]? = some (slLck l)) : ∃ v, t[k]? = some (some v) ∧ lckF l (ZF F Zx G t) H v := by
  obtain ⟨hk, _⟩ := List.getElem?_eq_some_iff.mp h
  have hk' : k < t.length := by
    rw [g.len]
    exact hk
  have ht : t[k]? = some (t[k]'hk') := List.getElem?_eq_getElem hk'
  obtain ⟨v, e, r⟩ := g.slot k _ _ h ht
  exact ⟨v, by rw [ht, e], r⟩
theorem ed_lck (h : G[k]? = some (slLck l)) (hN : ∀ i, (Xs i).N[k]? = some x := by intro _; rfl)
    (hv : ∀ i, Vis (Xs i).env.scope x := by first | exact fun _ => Or.inl rfl | exact fun _ => Or.inr (Or.inl rfl) | exact fun _ => Or.inr (Or.inr rfl))
    (hd : (x == ("__debug__" : Str)) = false := by decide) (hcd : (x == ("__classdict__" : Str)) = false := by decide) : ED Xs F G (.Name x pos) (pureM l) := by
  refine ⟨tVar k, fun i => pe_var (hN i) (hv i) hd hcd, fun Zx t H s l' s' g hm Q q => ?_⟩
  obtain ⟨rfl, rfl⟩ := pure_eq hm
  obtain ⟨v, ht, d, od, kvs, rfl, hz, hd, rk⟩ := g.lck h
  refine ⟨_, ht, q d H g (Fix.refl H) fun s2 H2 g2 f2 => ?_⟩
  obtain ⟨v, ht2, d2, od2, kvs2, rfl, hz2, hd2, rk2⟩ := g2.lck h
  rw [ht] at ht2
  cases ht2
  exact ⟨kvs2, .inr ⟨od2, hd2⟩, rk2⟩
theorem iv_lck (h : G[k]? = some (slLck l)) (hN : ∀ i, (Xs i).N[k]? = some x := by intro _; rfl)
    (hv : ∀ i, Vis (Xs i).env.scope x := by first | exact fun _ => Or.inl rfl | exact fun _ => Or.inr (Or.inl rfl) | exact fun _ => Or.inr (Or.inr rfl))
    (hd : (x == ("__debug__" : Str)) = false := by decide) (hcd : (x == ("__classdict__" : Str)) = false := by decide) : IV Xs F G tg (.Name x pos) (pureM (keysD l)) := by
  refine ⟨iKeys (tVar k), fun i => pi_keys (pe_var (hN i) (hv i) hd hcd), fun Zx t H s l' s' g hm R q => ?_⟩
  obtain ⟨rfl, rfl⟩ := pure_eq hm
  obtain ⟨v, ht, d, od, kvs, rfl, hz, hd, rk⟩ := g.lck h
  have ek := keys_of (l := unDic l) rk
  have el : kvs.length = (keysD l).length := by
    have := congrArg List.length ek
    simpa [keysD] using this
  refine ⟨_, ht, d, od, rfl, .inl ⟨kvs, hd, q _ H g (Fix.refl H) fun Z' H2 ex tr => ⟨fun i y hy => ?_, fun i hi => ?_⟩⟩⟩
  · have h2 := ex.1 _ _ hz hd
    have hi := (List.getElem?_eq_some_iff.mp hy).1
    refine ⟨⟨h2, by rw [el]; exact hi⟩, fun v H' ⟨e1, kk, w, e2, e3⟩ => ?_⟩
    subst e1
    have e4 : (kvs.map (·.1))[i]? = some kk := by rw [List.getElem?_map, e2]; rfl
    rw [ek, List.getElem?_map] at e4
    have hy' : ((unDic l).map (·.1))[i]? = some y := hy
    rw [hy'] at e4
    cases e4
    subst e3
    exact ⟨Same.refl _, .of (.int y)⟩
  · exact ⟨ex.1 _ _ hz hd, by rw [el]; exact hi⟩
end
end PL

namespace PL
open PySem L2 Enc
section
variable {S A B C D U N L R N1 : Type}
def extS (l : List A) (m : M S (List A)) : M S (Fl (List A) L R) := bindM m fun y => guardM (lenOk (l.length + y.length)) (pureM (.nx y))
end
section
variable {I S A B C : Type} [Enc A] [Enc B] [Enc C] {Xs : I → Cx} {F : Fm S} {G G' : List Sl} {pos p : Pos} {e a b tg iter : Expr} {es : List Expr}
theorem iv_zipT {m : M S (Tup A)} {n : M S (Tup B)} {elts : List Expr} {kk : Nat} {tpos : Pos} (hm : ∀ i, (Xs i).mg "zip" = none) (h : EV Xs F G a m) (h' : EV Xs F G b n) (hg : ∀ i, Gl (Xs i) "zip" := by intro _; rfl)
    (hs1 : ∀ i, starEach [a, b] (Xs i).env = (false, eval a (Xs i).env) :: starEach [b] (Xs i).env := by intro _; rfl) (hs2 : ∀ i, starEach [b] (Xs i).env = (false, eval b (Xs i).env) :: starEach [] (Xs i).env := by intro _; rfl)
    (hpl : ∀ i, (backTo pos (starEach [b] (Xs i).env)).any (·.1) = false := by intro _; rfl) {K : PySem.W.Frag} (hK : ∀ i, (Xs i).K = K := by intro _; rfl) : IV Xs F G (.Tuple elts kk tpos) (.Call (.Name "zip" p) [a, b] [] pos) (zipM (mapM1 unTup m) (mapM1 unTup n)) := by
  obtain ⟨te, hp, ho⟩ := h
  obtain ⟨tf, hp', ho'⟩ := h'
  refine ⟨RZ.iZipA K (tCons te (tCons tf tNil)), fun i => by rw [← hK i]; exact RZ.pi_zipA (hg i) (hm i) (pa_cons (hp i) (pa_cons (hp' i) pa_nil (hs2 i)) (hs1 i)) (hs1 i) (hpl i), fun Zx t H s l s' g hm' R q => ?_⟩
  obtain ⟨z, s1, h1, h2⟩ := bind_some hm'
  obtain ⟨z0, s0, k1, q1⟩ := bind_some h1
  obtain ⟨rfl, rfl⟩ := pure_eq q1
  obtain ⟨y, s2, h3, h4⟩ := bind_some h2
  obtain ⟨y0, s3, k3, q1⟩ := bind_some h3
  obtain ⟨rfl, rfl⟩ := pure_eq q1
  obtain ⟨rfl, rfl⟩ := pure_eq h4
  refine ho Zx t H s z0 _ g k1 _ fun v H1 g1 f1 r1 => ?_
  refine ho' Zx t H1 _ y0 _ g1 k3 _ fun v2 H2 g2 f2 r2 => ?_
  obtain ⟨p1, xs, rfl, n1, e1, l1⟩ := (r1.fix f2).toTup
  obtain ⟨p2, ys, rfl, n2, e2, l2⟩ := r2.toTup
  refine ⟨p1, p2, xs, ys, rfl, .inr ⟨e1.sq, e2.sq, q _ H2 g2 (f1.trans f2) fun Z' H3 ex tr => ⟨fun i x hx => ?_, fun i hi => ?_⟩⟩⟩
  · obtain ⟨x1, x2⟩ := x
    rw [List.getElem?_zip_eq_some] at hx
    obtain ⟨hx1, hx2⟩ := hx
    have kk1 := e1.at_ fun o q => ex.1 _ o n1 q
    have kk2 := e2.at_ fun o q => ex.1 _ o n2 q
    obtain ⟨y1, hy1, ry1⟩ := (l1.ext ex).get (i := i) (x := enc x1) (by rw [List.getElem?_map, hx1]; rfl)
    obtain ⟨y2, hy2, ry2⟩ := (l2.ext ex).get (i := i) (x := enc x2) (by rw [List.getElem?_map, hx2]; rfl)
    refine ⟨⟨xs, ys, y1, y2, kk1.sq, kk2.sq, hy1, hy2⟩, fun v H' hyl => ?_⟩
    obtain ⟨T, w1, w2, rfl, hT, rfl, q1, q2⟩ := hyl
    have e3 := q1 xs (kk1.sq)
    have e4 := q2 ys (kk2.sq)
    rw [hy1] at e3
    rw [hy2] at e4
    cases e3
    cases e4
    exact ⟨same_new hT, Gd.fresh_tup tr hT (.cons ry1 (.cons ry2 .nil))⟩
  · refine ⟨xs, ys, (e1.at_ fun o q => ex.1 _ o n1 q).sq, (e2.at_ fun o q => ex.1 _ o n2 q).sq, ?_⟩
    rw [l1.len, l2.len, List.length_map, List.length_map]
    rw [List.length_zip] at hi
    omega
end
end PL

namespace PL
open PySem L2 Enc
section
variable {X : Cx} {a b c : Expr} {pos : Pos} {tA tB tC : TT}
def tIfT (t u v : TT) : TT := fun σ H Q => t σ H fun c H1 => if c = true then u σ H1 Q else v σ H1 Q
theorem pt_ifx (hc : PT X c tA) (ha : PT X a tB) (hb : PT X b tC) : PT X (.IfExp c a b pos) (tIfT tA tB tC) := by
  refine ⟨fun pins s σ H Q I h => ?_⟩
  have e : isTrue (.IfExp c a b pos) X.env (eval (.IfExp c a b pos) X.env) = (do if ← isTrue c X.env (eval c X.env) then isTrue a X.env (eval a X.env) else isTrue b X.env (eval b X.env)) := rfl
  rw [e]
  refine wpAny_bind (thn (hc.run pins s σ H _ I h) fun d s1 ⟨H1, I1, q1⟩ => ?_)
  cases d with
  | true => exact ha.run pins s1 σ H1 Q I1 q1
  | false => exact hb.run pins s1 σ H1 Q I1 q1
end
section
variable {I S A B C N L R : Type} [Enc A] [Enc B] [Enc C] [Enc R] {Xs : I → Cx} {F : Fm S} {G : List Sl} {pos p p2 q : Pos} {a b c e : Expr} {x : Str} {K : PySem.W.Frag}
theorem et_ifx {m n o : M S Bool} (h : ET Xs F G c m) (h1 : ET Xs F G a n) (h2 : ET Xs F G b o) : ET Xs F G (.IfExp c a b pos) (iteM m n o) := by
  obtain ⟨tc, hp, ho⟩ := h
  obtain ⟨ta, hq, hw⟩ := h1
  obtain ⟨tb, hr, hz⟩ := h2
  refine ⟨tIfT tc ta tb, fun i => pt_ifx (hp i) (hq i) (hr i), fun Zx st H s y s' g hm Q q => ?_⟩
  obtain ⟨c, s1, e1, e2⟩ := bind_some hm
  refine ho Zx st H s c s1 g e1 _ fun H1 g1 f1 => ?_
  cases c with
  | true => exact iteT (hw Zx st H1 s1 y s' g1 e2 _ fun H2 g2 f2 => q H2 g2 (f1.trans f2))
  | false => exact iteF (hz Zx st H1 s1 y s' g1 e2 _ fun H2 g2 f2 => q H2 g2 (f1.trans f2))
def tyName : PyData → String
  | .none => "NoneType"
  | .bool _ => "bool"
  | .int _ => "int"
  | .str _ => "str"
  | .list _ => "list"
  | .tuple _ => "tuple"
  | .dict _ => "dict"
def isIntD (d : PyData) : Bool := tyName d == "int" || tyName d == "bool"
def isBoolD (d : PyData) : Bool := tyName d == "bool"
def isTupD (d : PyData) : Bool := tyName d == "tuple"
def isStrD (d : PyData) : Bool := tyName d == "str"
theorem Rp.ty {K : PySem.W.Frag} {Z : Addr → Prop} {H : Hp} {v : V} {d : PyData} (r : Rp Z H v d) : TyX K H v (.type (tyName d)) := by
  cases r with
  | non => exact .base .non
  | bl b => exact .base (.bl b)
  | int i => exact .base (.int i)
  | str x => exact .base (.str x)
  | lst n h t => exact .base (.lst h)
  | tup n h t =>
    obtain ⟨o, h, _⟩ := h
    exact .fTuple h
  | dic n h t =>
    rcases h with h | ⟨o, h⟩
    · exact .base (.dK h)
    · exact .fDict h
/-- the names of the types of data -/
def tyNames : List String := ["NoneType", "bool", "int", "str", "list", "tuple", "dict"]
theorem Rp.nm {Z : Addr → Prop} {H : Hp} {v : V} {d : PyData} (r : Rp Z H v d) : tyName d ∈ tyNames := by
  cases r <;> simp [tyName, tyNames]
theorem ev_isi {m : M S A} {cs : Str} {cn : String} (f : String → Bool) (hf : ∀ n ∈ tyNames, kitB n cn = some (f n)) (hm : ∀ i, (Xs i).mg "isinstance" = none) (hmc : ∀ i, (Xs i).mg cs = none) (hb : bootBuiltins cs = some (.type cn)) (h : EV Xs F G a m)
    (hg : ∀ i, Gl (Xs i) "isinstance" := by intro _; rfl) (hgc : ∀ i, Gl (Xs i) cs := by intro _; rfl) (hn : cs ≠ "__name__" := by decide) (hdb : (cs == ("__debug__" : Str)) = false := by decide)
    (he : ∀ i, starEach [a, .Name cs q] (Xs i).env = (false, eval a (Xs i).env) :: starEach [.Name cs q] (Xs i).env := by intro _; rfl) (he2 : ∀ i, starEach [.Name cs q] (Xs i).env = (false, eval (.Name cs q) (Xs i).env) :: starEach [] (Xs i).env := by intro _; rfl)
    (hpl : ∀ i, (backTo pos (starEach [.Name cs q] (Xs i).env)).any (·.1) = false := by intro _; rfl) (hK : ∀ i, (Xs i).K = K := by intro _; rfl) :
    EV Xs F G (.Call (.Name "isinstance" p) [a, .Name cs q] [] pos) (mapM1 (fun y => f (tyName (enc y))) m) := by
  obtain ⟨te, hp, ho⟩ := h
  refine ⟨tCB (rIsi K) (tCons te (tCons (L2.tC (.ty cn)) tNil)), fun i => by
    rw [← hK i]
    exact pe_callB call_isi (hg i) (hm i) PyProof.Rows.boot_isinstance (pa_cons (hp i) (pa_cons (pe_bltn (v := .ty cn) (hgc i) (hmc i) hb rfl hn hdb) pa_nil (he2 i)) (he i)) (by decide) (by decide) (he i) (hpl i), fun Zx t H s y s' g hm' Q q => ?_⟩
  obtain ⟨z, s1, h1, h2⟩ := bind_some hm'
  obtain ⟨rfl, rfl⟩ := pure_eq h2
  refine ho Zx t H s z s1 g h1 _ fun v H1 g1 f1 r1 => ?_
  exact ⟨v, .ty cn, _, _, _, rfl, .ty cn, r1.ty, kit_ty (hf _ r1.nm), q _ H1 g1 f1 (.bl _)⟩
theorem kit_int : ∀ n ∈ tyNames, kitB n "int" = some (n == "int" || n == "bool") := by
  intro n hn
  simp only [tyNames, List.mem_cons, List.not_mem_nil, or_false] at hn
  rcases hn with rfl | rfl | rfl | rfl | rfl | rfl | rfl <;> decide +kernel
theorem kit_bool : ∀ n ∈ tyNames, kitB n "bool" = some (n == "bool") := by
  intro n hn
  simp only [tyNames, List.mem_cons, List.not_mem_nil, or_false] at hn
  rcases hn with rfl | rfl | rfl | rfl | rfl | rfl | rfl <;> decide +kernel
theorem kit_tuple : ∀ n ∈ tyNames, kitB n "tuple" = some (n == "tuple") := by
  intro n hn
  simp only [tyNames, List.mem_cons, List.not_mem_nil, or_false] at hn
  rcases hn with rfl | rfl | rfl | rfl | rfl | rfl | rfl <;> decide +kernel
theorem kit_str : ∀ n ∈ tyNames, kitB n "str" = some (n == "str") := by
  intro n hn
  simp only [tyNames, List.mem_cons, List.not_mem_nil, or_false] at hn
  rcases hn with rfl | rfl | rfl | rfl | rfl | rfl | rfl <;> decide +kernel
theorem bb_bool : bootBuiltins "bool" = some (.type "bool") := by decide +kernel
theorem bb_str : bootBuiltins "str" = some (.type "str") := by decide +kernel
/-- what is no None -/
theorem ev_un {m : M S (Option A)} (h : EV Xs F G e m) : EV Xs F G e (bindM m fun y => ofO y) := ev_of (fun y => y) (fun y z h => by rw [h]; rfl) h
end
/-- no value of the type is None -/
class NNo (A : Type) [Enc A] : Prop where
  nn : ∀ y : A, enc y ≠ PyData.none
section
variable {A B C D : Type} [Enc A] [Enc B] [Enc C] [Enc D]
instance : NNo Int := ⟨fun y h => PyData.noConfusion (show PyData.int y = PyData.none from h)⟩
instance : NNo Bool := ⟨fun y h => PyData.noConfusion (show PyData.bool y = PyData.none from h)⟩
instance : NNo Str := ⟨fun y h => PyData.noConfusion (show PyData.str y = PyData.none from h)⟩
instance : NNo (List A) := ⟨fun y h => PyData.noConfusion (show PyData.list (y.map enc) = PyData.none from h)⟩
instance : NNo (Tup A) := ⟨fun y h => PyData.noConfusion (show PyData.tuple (List.map enc y) = PyData.none from h)⟩
instance : NNo (A × B) := ⟨fun y h => PyData.noConfusion (show PyData.tuple [enc y.1, enc y.2] = PyData.none from h)⟩
instance : NNo (T3 A B C) := ⟨fun y h => PyData.noConfusion (show PyData.tuple [enc y.a, enc y.b, enc y.c] = PyData.none from h)⟩
instance : NNo (T4 A B C D) := ⟨fun y h => PyData.noConfusion (show PyData.tuple [enc y.a, enc y.b, enc y.c, enc y.d] = PyData.none from h)⟩
end
section
variable {I S A B C N L R : Type} [Enc A] [Enc B] [Enc C] [Enc R] {Xs : I → Cx} {F : Fm S} {G : List Sl} {pos p p2 q : Pos} {a b c e : Expr} {x : Str} {K : PySem.W.Frag}
def whileM {L R : Type} (c : L → M S Bool) (f : L → M S (Fl L L R)) : Nat → L → M S (Fl L Empty R)
  | 0, _ => failM
  | n + 1, y => bindM (c y) fun b => if b = true then bindM (f y) fun r => match r with
    | .nx y' => whileM c f n y'
    | .ct y' => whileM c f n y'
    | .bk y' => pureM (.nx y')
    | .rt r => pureM (.rt r) else pureM (.nx y)
def whileS {N L R : Type} (n : Nat) (c : N → M S Bool) (f : N → M S (Fl N N R)) (y0 : N) : M S (Fl N L R) := liftM (whileM c f n y0)
def ttU (Xs : I → Cx) (e : Expr) : TT := fun t H Q => ∃ tt : TT, (∀ i, PT (Xs i) e tt) ∧ tt t H Q
theorem ttU_pt (i : I) : PT (Xs i) e (ttU Xs e) := ⟨fun pins s t H Q J ⟨te, hp, h⟩ => (hp i).run pins s t H Q J h⟩
theorem ET.uni {m : M S Bool} (h : ET Xs F G e m) : TTok F G (ttU Xs e) m := by
  obtain ⟨te, hp, ho⟩ := h
  exact fun Zx t H s a s' g hm Q q => ⟨te, hp, ho Zx t H s a s' g hm Q q⟩
theorem ss_while {L1 : Type} {Gl : L → List Sl} {Gs : L1 → List Sl} {body : List Stmt} {mc : L1 → M S Bool} {f : L1 → M S (Fl L1 L1 R)} {y0 : L1} (n : Nat) (hsub : SubG G (Gs y0)) (hc : ∀ l, ET Xs F (Gs l) c (mc l)) (hb : ∀ l, SV Xs F (Gs l) body (f l) Gs Gs)
    (hp : ∀ i, PassesOwn (model (Xs i).prog (Xs i).w) (Xs i).A (Xs i).env (Xs i).xe) : SS (N := L1) (L := L) Xs F G (.While c body [] pos) (liftM (whileM mc f n y0)) Gs Gl := by
  have hc' := fun l => (hc l).uni
  have hb' := fun l => (hb l).uni
  refine ⟨tWhile (ttU Xs c) (tsU Xs body), fun i => ps_while (hp i) (ttU_pt i) (tsU_ps i), fun Zx t H s r s' g hm D q => ?_⟩
  obtain ⟨r0, s0, h3, h4⟩ := bind_some hm
  have g1' := g.sub hsub
  have st0 : Stp F G t H (Gs y0) t H := ⟨fun b o z _ h => h, fun b z => .inl (hsub.own z)⟩
  refine ⟨fun m t2 H2 => ∃ y s2, Gd F Zx (Gs y) s2 t2 H2 ∧ Stp F G t H (Gs y) t2 H2 ∧ whileM mc f m y s2 = some (r0, s0), ⟨n, y0, s, g1', st0, h3⟩, ?_⟩
  rintro m t2 H2 ⟨y, s2, g2, st2, hrun⟩
  cases m with
  | zero => cases hrun
  | succ m =>
    obtain ⟨b, s3, h5, h6⟩ := bind_some hrun
    refine hc' y Zx t2 H2 s2 b s3 g2 h5 _ fun H3 g3 f3 => ?_
    have st3 : Stp F G t H (Gs y) t2 H3 := st2.trans (Stp.fix f3) g3
    cases b with
    | false =>
      rw [if_neg Bool.false_ne_true] at h6 ⊢
      obtain ⟨rfl, rfl⟩ := pure_eq h6
      obtain ⟨rfl, rfl⟩ := pure_eq h4
      exact q t2 H3 g3 st3
    | true =>
      rw [if_pos rfl] at h6 ⊢
      obtain ⟨rb, s4, h7, h8⟩ := bind_some h6
      refine ⟨fun t5 H5 => ∃ y' s5, Gd F Zx (Gs y') s5 t5 H5 ∧ Stp F G t H (Gs y') t5 H5 ∧ whileM mc f m y' s5 = some (r0, s0), fun t5 H5 w => ⟨m, Nat.lt_succ_self m, w⟩, ?_⟩
      refine hb' y Zx t2 H3 s3 rb s4 g3 h7 _ ?_
      cases rb with
      | nx y' => exact fun t5 H5 g5 s5 => ⟨y', s4, g5, st3.trans s5 g5, h8⟩
      | ct y' => exact fun t5 H5 g5 s5 => ⟨y', s4, g5, st3.trans s5 g5, h8⟩
      | bk y' =>
        obtain ⟨rfl, rfl⟩ := pure_eq h8
        obtain ⟨rfl, rfl⟩ := pure_eq h4
        exact fun t5 H5 g5 s5 => q t5 H5 g5 (st3.trans s5 g5)
      | rt v' =>
        obtain ⟨rfl, rfl⟩ := pure_eq h8
        obtain ⟨rfl, rfl⟩ := pure_eq h4
        refine fun v5 H5 a5 k5 r5 => q v5 H5 a5 (fun b o z y e => ?_) r5
        have e1 := st3.at1 z y e
        exact k5 b o z e1.1 e1.2
end
end PL

namespace PL
open PySem L2 Enc
instance (a b : Int) : Decidable (RgOk a b) := inferInstanceAs (Decidable (_ ∧ _ ∧ _ ∧ _ ∧ _))
/-- a list of two items of known types -/
structure Pr (A B : Type) where
  a : A
  b : B
instance {A B : Type} [Enc A] [Enc B] : Enc (Pr A B) := ⟨fun p => .list [enc p.a, enc p.b]⟩
section
variable {I S A B C D N L R : Type} [Enc A] [Enc B] [Enc C] [Enc D] [Enc R] {Xs : I → Cx} {F : Fm S} {G G' : List Sl} {pos p p2 q : Pos} {a b c d e : Expr} {es : List Expr} {x : Str} {K : PySem.W.Frag}
instance : NNo (Pr A B) := ⟨fun y h => PyData.noConfusion (show PyData.list [enc y.a, enc y.b] = PyData.none from h)⟩
theorem bind_run {S A B : Type} {m : M S A} {k : A → M S B} {s s1 : S} {a : A} (h : m s = some (a, s1)) : bindM m k s = k a s1 := by
  unfold bindM
  rw [h]
def pr2M (m : M S A) (n : M S B) : M S (Pr A B) := bindM m fun u => bindM n fun w => pureM ⟨u, w⟩
theorem ev_pr2 {m : M S A} {n : M S B} (h : EV Xs F G a m) (h2 : EV Xs F G b n) (hs1 : ∀ i, starEach [a, b] (Xs i).env = (false, eval a (Xs i).env) :: starEach [b] (Xs i).env := by intro _; rfl)
    (hs2 : ∀ i, starEach [b] (Xs i).env = (false, eval b (Xs i).env) :: starEach [] (Xs i).env := by intro _; rfl) : EV Xs F G (.List [a, b] pos) (pr2M m n) := by
  obtain ⟨ta, hp, ho⟩ := ea_cons h (ea_cons h2 ea_nil hs2) hs1
  refine ⟨tLst ta, fun i => pe_lst (hp i), fun Zx t H s y s' g hm Q q => ?_⟩
  obtain ⟨u, s1, h1, h2⟩ := bind_some hm
  obtain ⟨w, s2, h3, h4⟩ := bind_some h2
  obtain ⟨rfl, rfl⟩ := pure_eq h4
  have hm' : (pairM m (pairM n (pureM ()))) s = some ((u, w, ()), s2) := by
    unfold pairM
    rw [bind_run h1, bind_assoc, bind_run h3]
    rfl
  refine ho Zx t H s (u, w, ()) s2 g hm' _ fun vs H1 g1 f1 r1 => ⟨?_, fun pp hn1 => ?_⟩
  · rw [r1.len]
    show 2 ≤ sizeLine
    rw [sizeLine_eq]
    decide
  · have sm : Same H1 (upd H1 pp (.lst vs)) := same_new hn1
    exact q _ _ (g1.same sm) (f1.trans (Fix.same sm)) (.lst (g1.new hn1) upd_same (r1.fix (Fix.same sm)))
/-- a list taken apart -/
theorem bd_lst {k n : Nat} {ds : List PyData} {ks : List Nat} (h : BDs Xs F G es ds G' ks) (hc : ∀ i, (Xs i).calm = true := by intro _; rfl) (hl : ds.length = n := by rfl)
    (hn : ∀ i, (assignEach es (Xs i).env).length = n := by intro _; rfl) (hst : ∀ i, (assignEach es (Xs i).env).findIdx? (·.1) = none := by intro _; rfl) (hK : ∀ i, (Xs i).K = K := by intro _; rfl) :
    BD Xs F G (.Tuple es k pos) (.list ds) G' ks := by
  obtain ⟨g1, hp, ho⟩ := h
  refine ⟨gLst K n g1, fun i => by rw [← hK i]; exact pg_lst (hc i) (hp i) (hn i) (hst i), fun Zx t H s v g r Q q => ?_⟩
  rcases r with r | ⟨_, T, xs, ds', e1, e2, _⟩
  · cases r with
    | lst n1 e1 l1 => exact ⟨_, _, rfl, SqL.of e1, by rw [l1.len, hl], ho Zx t H s _ g l1 Q q⟩
  · cases e2
/-- a constant place of such a list -/
theorem ev_prL {m : M S A} {k j : Nat} {sp : Pos} (f : A → B) (hf : ∀ y, ∃ ds, enc y = .list ds ∧ ds[k]? = some (enc (f y))) (ha : EV Xs F G a m) (hK : ∀ i, (Xs i).K = K := by intro _; rfl) :
    EV Xs F G (.Subscript a (.Constant (.int (k : Int)) j sp) pos) (mapM1 f m) := by
  obtain ⟨ta, hp, hx⟩ := ha
  refine ⟨tOp (rIxL K) ta (tC (.int (k : Int))), fun i => by rw [← hK i]; exact pe_ix ix_list (hp i) pe_int (fun _ _ => rfl), fun Zx t H s y s' g hm Q q' => ?_⟩
  obtain ⟨z, s1, h1, h2⟩ := bind_some hm
  obtain ⟨rfl, rfl⟩ := pure_eq h2
  refine hx Zx t H s z s1 g h1 _ fun v H1 g1 f1 r1 => ?_
  obtain ⟨ds, e1, e2⟩ := hf z
  rw [e1] at r1
  cases r1 with
  | lst n1 h3 l1 =>
    obtain ⟨w, hw, rw_⟩ := l1.get e2
    refine ⟨_, _, (k : Int), w, rfl, rfl, SqL.of h3, ?_, q' w H1 g1 f1 rw_⟩
    have hk := (List.getElem?_eq_some_iff.mp hw).1
    rw [atI_nth hk]
    rw [List.getElem?_eq_getElem hk] at hw
    exact hw
def tChain3 (r r' r'' : R2) (ta tb tc td : TE) : TT := fun σ H Q => ta σ H fun x H1 => tb σ H1 fun y H2 => r x y H2 fun z H3 => ∃ k, z = .bl k ∧
  if k = true then tc σ H3 fun w H4 => r' y w H4 fun z2 H5 => ∃ k2, z2 = .bl k2 ∧ if k2 = true then td σ H5 fun v H6 => r'' w v H6 fun z3 H7 => ∃ k3, z3 = .bl k3 ∧ Q k3 H7 else Q false H5 else Q false H3
theorem pt_chain3 {X : Cx} {o1 o2 o3 : CmpOp} {r r' r'' : R2} {ta tb tc td : TE} (h1 : OpR X (compareOp o1) r) (h2 : OpR X (compareOp o2) r') (h3 : OpR X (compareOp o3) r'') (ha : PE X a ta) (hb : PE X b tb) (hc : PE X c tc) (hd : PE X d td)
    (hm : lastMarks [o1, o2, o3] [b, c, d] = false := by with_unfolding_all rfl) : PT X (.Compare a [o1, o2, o3] [b, c, d] pos) (tChain3 r r' r'' ta tb tc td) := by
  refine ⟨fun pins s σ H Q I h => ?_⟩
  refine PyProof.Rows.isTrue_chain (thn (ha.run pins s σ H _ I h) fun v s1 ⟨x, H1, I1, r1, q1⟩ => PyProof.Rows.test_link (thn (hb.run pins s1 σ H1 _ I1 q1) fun u s2 ⟨y, H2, I2, r2, q2⟩ =>
    thn (h1 pins s2 σ H2 x y v u _ I2 r1 r2 q2) fun dd s3 ⟨z, H3, I3, r3, k, e, q3⟩ => ?_)) hm
  subst e
  cases r3
  refine wpAny_truthy_bool ?_
  cases k with
  | false => exact PyProof.Rows.ite_ff ⟨H3, I3, q3⟩
  | true =>
    refine PyProof.Rows.ite_tt (PyProof.Rows.test_link (thn (hc.run pins s3 σ H3 _ I3 q3) fun w s4 ⟨z', H4, I4, r4, q4⟩ => thn (h2 pins s4 σ H4 y z' u w _ I4 r2 r4 q4) fun d' s5 ⟨z2, H5, I5, r5, k2, e2, q5⟩ => ?_))
    subst e2
    cases r5
    refine wpAny_truthy_bool ?_
    cases k2 with
    | false => exact PyProof.Rows.ite_ff ⟨H5, I5, q5⟩
    | true =>
      refine PyProof.Rows.ite_tt (PyProof.Rows.test_last (thn (hd.run pins s5 σ H5 _ I5 q5) fun w6 s6 ⟨z6, H6, I6, r6, q6⟩ => thn (h3 pins s6 σ H6 z' z6 w w6 _ I6 r4 r6 q6) fun d7 s7 ⟨z7, H7, I7, r7, k3, e3, q7⟩ => ?_))
      subst e3
      cases r7
      exact wpAny_truthy_bool ⟨H7, I7, q7⟩
def chain3M (f g h : Int → Int → Bool) (m n o o2 : M S Int) : M S Bool := bindM m fun x => bindM n fun y => if f x y then bindM o fun z => if g y z then bindM o2 fun w => pureM (h z w) else pureM false else pureM false
theorem et_chain3 {o1 o2 o3 : CmpOp} {f g h : Int → Int → Bool} {m n o o4 : M S Int} (ho : ∀ i, OpR (Xs i) (compareOp o1) (rI0 fun i j => .bl (f i j))) (ho2 : ∀ i, OpR (Xs i) (compareOp o2) (rI0 fun i j => .bl (g i j))) (ho3 : ∀ i, OpR (Xs i) (compareOp o3) (rI0 fun i j => .bl (h i j)))
    (ha : EV Xs F G a m) (hb : EV Xs F G b n) (hc : EV Xs F G c o) (hd : EV Xs F G d o4) (hlm : lastMarks [o1, o2, o3] [b, c, d] = false := by with_unfolding_all rfl) : ET Xs F G (.Compare a [o1, o2, o3] [b, c, d] pos) (chain3M f g h m n o o4) := by
  obtain ⟨ta, hpa, ha⟩ := ha
  obtain ⟨tb, hpb, hb⟩ := hb
  obtain ⟨tc, hpc, hc⟩ := hc
  obtain ⟨td, hpd, hd⟩ := hd
  refine ⟨_, fun i => pt_chain3 (ho i) (ho2 i) (ho3 i) (hpa i) (hpb i) (hpc i) (hpd i) hlm, fun Zx t H s y s' gd hm Q q => ?_⟩
  obtain ⟨i, s1, h1, h2⟩ := bind_some hm
  obtain ⟨j, s2, h3, h4⟩ := bind_some h2
  refine ha Zx t H s i s1 gd h1 _ fun v H1 g1 f1 r1 => ?_
  refine hb Zx t H1 s1 j s2 g1 h3 _ fun u H2 g2 f2 r2 => ?_
  refine ⟨i, j, r1.toInt, r2.toInt, f i j, rfl, ?_⟩
  cases e : f i j with
  | false =>
    rw [e] at h4
    obtain ⟨rfl, rfl⟩ := pure_eq h4
    exact iteF (q H2 g2 (f1.trans f2))
  | true =>
    rw [e] at h4
    obtain ⟨k, s3, h5, h6⟩ := bind_some h4
    refine iteT (hc Zx t H2 s2 k s3 g2 h5 _ fun w' H3 g3 f3 r3 => ?_)
    refine ⟨j, k, r2.toInt, r3.toInt, g j k, rfl, ?_⟩
    cases e2 : g j k with
    | false =>
      rw [e2] at h6
      obtain ⟨rfl, rfl⟩ := pure_eq h6
      exact iteF (q H3 g3 ((f1.trans f2).trans f3))
    | true =>
      rw [e2] at h6
      obtain ⟨l, s4, h7, h8⟩ := bind_some h6
      obtain ⟨rfl, rfl⟩ := pure_eq h8
      refine iteT (hd Zx t H3 s3 l s4 g3 h7 _ fun w2 H4 g4 f4 r4 => ?_)
      exact ⟨k, l, r3.toInt, r4.toInt, _, rfl, q H4 g4 (((f1.trans f2).trans f3).trans f4)⟩
def lrngM (m n : M S Int) : M S (List Int) := bindM m fun lo => bindM n fun hi => guardM (RgOk lo hi) (pureM (rangeL lo hi))
theorem ev_listRng {m n : M S Int} {q1 : Pos} (hm : ∀ i, (Xs i).mg "list" = none) (hm2 : ∀ i, (Xs i).mg "range" = none) (h : EV Xs F G a m) (h2 : EV Xs F G b n) (hc : ∀ i, (Xs i).calm = true := by intro _; rfl) (hg : ∀ i, Gl (Xs i) "list" := by intro _; rfl) (hg2 : ∀ i, Gl (Xs i) "range" := by intro _; rfl)
    (na : ∀ i, starEach [a, b] (Xs i).env = (false, eval a (Xs i).env) :: starEach [b] (Xs i).env := by intro _; rfl) (nb : ∀ i, starEach [b] (Xs i).env = (false, eval b (Xs i).env) :: starEach [] (Xs i).env := by intro _; rfl)
    (hp2 : ∀ i, (backTo q1 (starEach [b] (Xs i).env)).any (·.1) = false := by intro _; rfl)
    (he : ∀ i, starEach [.Call (.Name "range" p2) [a, b] [] q1] (Xs i).env = (false, eval (.Call (.Name "range" p2) [a, b] [] q1) (Xs i).env) :: starEach [] (Xs i).env := by intro _; rfl) :
    EV Xs F G (.Call (.Name "list" p) [.Call (.Name "range" p2) [a, b] [] q1] [] pos) (lrngM m n) := by
  obtain ⟨ta, hp, ho⟩ := h
  obtain ⟨tb, hq, hw⟩ := h2
  refine ⟨tLstRg (tRg2 ta tb), fun i => pe_listRg (hc i) (hg i) (hm i) (prg_2 (hg2 i) (hm2 i) (hp i) (hq i) (na i) (nb i) (hp2 i)) (he i), fun Zx t H s y s' g hm' Q q => ?_⟩
  obtain ⟨lo, s1, h1, h2⟩ := bind_some hm'
  obtain ⟨hi, s2, h3, h4⟩ := bind_some h2
  obtain ⟨hr, h5⟩ := guard_eq h4
  obtain ⟨rfl, rfl⟩ := pure_eq h5
  refine ho Zx t H s lo s1 g h1 _ fun v H1 g1 f1 r1 => ?_
  refine hw Zx t H1 s1 hi s2 g1 h3 _ fun u H2 g2 f2 r2 => ?_
  refine ⟨lo, hi, r1.toInt, r2.toInt, hr, fun pn hn => ?_⟩
  have sm : Same H2 (upd H2 pn (.lst (rgV lo hi))) := same_new hn
  have e : rgV lo hi = (rangeL lo hi).map V.int := by
    unfold rgV rangeL
    rw [List.map_map]
    rfl
  rw [e] at sm ⊢
  exact q _ _ (g2.same sm) ((f1.trans f2).trans (Fix.same sm)) (.lst (g2.new hn) upd_same (RpL.of_ints _))
/-- len of a tuple of known arity -/
theorem ev_lenN {m : M S A} (n : Nat) (hA : ∀ y : A, ∃ ds, enc y = .tuple ds ∧ ds.length = n) (hm : ∀ i, (Xs i).mg "len" = none) (h : EV Xs F G a m) (hg : ∀ i, Gl (Xs i) "len" := by intro _; rfl)
    (he : ∀ i, starEach [a] (Xs i).env = (false, eval a (Xs i).env) :: starEach [] (Xs i).env := by intro _; rfl) (hK : ∀ i, (Xs i).K = K := by intro _; rfl) : EV Xs F G (.Call (.Name "len" p) [a] [] pos) (fun1M (fun _ : A => some (n : Int)) m) :=
  ev_b1 (r := fun xs H Q => ∃ p ys, xs = [.ref p] ∧ (SqL K H p ys ∨ SqT K H p ys) ∧ Q (.int ys.length) H) (fun i => by rw [← hK i]; exact call_len_seq) (fun F Zx G s t H u vs z g r e Q q => by
    obtain ⟨v, rfl, rv⟩ := r.one
    cases e
    obtain ⟨ds, e1, e2⟩ := hA u.1
    rw [e1] at rv
    cases rv with
    | tup n1 h l =>
      refine ⟨_, _, rfl, .inr h.sq, ?_⟩
      rw [l.len, e2]
      exact q _ H (Same.refl H) (.int _)) hm bb_len h hg (by decide) (by decide) he
theorem ev_notNone {m : M S (Option A)} {j : Nat} {q1 : Pos} (hA : ∀ y : A, enc y ≠ PyData.none) (ha : EV Xs F G a m) : EV Xs F G (.Compare a [.IsNot] [.Constant .none j q1] pos) (mapM1 Option.isSome m) := by
  obtain ⟨ta, hp, hx⟩ := ha
  refine ⟨tNotN ta, fun i => pe_cmp (pc_notN (hp i)), fun Zx t H s y s' g hm Q q => ?_⟩
  obtain ⟨z, s1, h1, h2⟩ := bind_some hm
  obtain ⟨rfl, rfl⟩ := pure_eq h2
  refine hx Zx t H s z s1 g h1 _ fun v H1 g1 f1 r1 => ?_
  have e : (!decide (v = .non)) = z.isSome := by
    cases z with
    | none =>
      have r1' : Rp (ZF F Zx G t) H1 v .none := r1
      cases r1'
      rfl
    | some y =>
      have r1' : Rp (ZF F Zx G t) H1 v (enc y) := r1
      refine congrArg (fun b : Bool => !b) (decide_eq_false (p := v = .non) fun e => ?_)
      subst e
      generalize he : enc y = d at r1'
      cases r1'
      exact hA y he
  rw [e]
  exact q _ H1 g1 f1 (.bl _)
theorem et_notNone {m : M S (Option A)} {j : Nat} {q1 : Pos} (hA : ∀ y : A, enc y ≠ PyData.none) (ha : EV Xs F G a m) : ET Xs F G (.Compare a [.IsNot] [.Constant .none j q1] pos) (mapM1 Option.isSome m) := by
  obtain ⟨ta, hp, hx⟩ := ha
  refine ⟨tB (tNotN ta), fun i => pt_cmp (pc_notN (hp i)), fun Zx t H s y s' g hm Q q => ?_⟩
  obtain ⟨z, s1, h1, h2⟩ := bind_some hm
  obtain ⟨rfl, rfl⟩ := pure_eq h2
  refine hx Zx t H s z s1 g h1 _ fun v H1 g1 f1 r1 => ?_
  have e : (!decide (v = .non)) = z.isSome := by
    cases z with
    | none =>
      have r1' : Rp (ZF F Zx G t) H1 v .none := r1
      cases r1'
      rfl
    | some y =>
      have r1' : Rp (ZF F Zx G t) H1 v (enc y) := r1
      refine congrArg (fun b : Bool => !b) (decide_eq_false (p := v = .non) fun e => ?_)
      subst e
      generalize he : enc y = d at r1'
      cases r1'
      exact hA y he
  rw [e]
  exact ⟨_, rfl, q H1 g1 f1⟩
theorem ev_ownIx {l : List A} {k : Nat} {n : M S Int} (hk : G[k]? = some (.own (enc l))) (hb : EV Xs F G b n) (hs : PlainIx b := by exact fun _ _ => rfl) (hN : ∀ i, (Xs i).N[k]? = some x := by intro _; rfl)
    (hv : ∀ i, Vis (Xs i).env.scope x := by first | exact fun _ => Or.inl rfl | exact fun _ => Or.inr (Or.inl rfl) | exact fun _ => Or.inr (Or.inr rfl)) (hd : (x == ("__debug__" : Str)) = false := by decide) (hcd : (x == ("__classdict__" : Str)) = false := by decide)
    (hK : ∀ i, (Xs i).K = K := by intro _; rfl) : EV Xs F G (.Subscript (.Name x p) b pos) (ixM (pureM l) n) := by
  obtain ⟨tb, hp, ho⟩ := hb
  refine ⟨tOp (rIxL K) (tVar k) tb, fun i => by rw [← hK i]; exact pe_ix ix_list (pe_var (hN i) (hv i) hd hcd) (hp i) hs, fun Zx t H s y s' g hm Q q => ?_⟩
  obtain ⟨z, s1, h1, h2⟩ := bind_some hm
  obtain ⟨h3, rfl⟩ := ofO_eq h2
  obtain ⟨hkl, _⟩ := List.getElem?_eq_some_iff.mp hk
  have hk' : k < t.length := by
    rw [g.len]
    exact hkl
  have ht : t[k]? = some (t[k]'hk') := List.getElem?_eq_getElem hk'
  obtain ⟨pp, ep, _⟩ := g.slot k _ _ hk ht
  rw [ep] at ht
  refine ⟨_, ht, ?_⟩
  refine ho Zx t H s z s1 g h1 _ fun v H1 g1 f1 r1 => ?_
  obtain rfl := r1.toInt
  obtain ⟨pp', ep', xs, hxs, rx⟩ := g1.slot k _ _ hk ht
  cases ep'
  obtain ⟨w, hw, rw_⟩ := RpL.at (l := l) rx h3
  exact ⟨pp, xs, z, w, rfl, rfl, SqL.of hxs, hw, q w H1 g1 f1 rw_⟩
theorem ss_ifNm {Gn : N → List Sl} {Gl : L → List Sl} {m : M S (Option A)} {ma mb : Option A → M S (Fl N L R)} {k j : Nat} {sa sb : List Stmt} {q1 q2 q3 : Pos} (hA : ∀ y : A, enc y ≠ PyData.none) (h : EV Xs F G e m)
    (h1 : ∀ y, SV Xs F (G.set k (.dat (enc y))) sa (ma y) Gn Gl) (h2 : ∀ y, SV Xs F (G.set k (.dat (enc y))) sb (mb y) Gn Gl) (hN : ∀ i, (Xs i).N.Nodup) (hno : noOwn G [k] = true := by rfl) (hi : ∀ i, (Xs i).N[k]? = some x := by intro _; rfl)
    (hx : ∀ i, Loc (Xs i).env.scope x := by first | exact fun _ => Or.inl rfl | exact fun _ => Or.inr rfl) (hf : ∀ i, (Xs i).fn x = true ∨ (Xs i).env.scope.names.lookup x = some .local := by first | exact fun _ => .inl rfl | exact fun _ => .inr rfl) :
    SS Xs F G (.If (.Compare (.NamedExpr (.Name x q1) e q2) [.Is] [.Constant .none j q3] p) sa sb pos) (bindM m fun y => if y.isNone = true then ma y else mb y) Gn Gl := by
  obtain ⟨te, hp, ho⟩ := h
  have h1' := fun y => (h1 y).uni
  have h2' := fun y => (h2 y).uni
  refine ⟨tIfW (wCmp (fun x y H Q => y = .non ∧ Q (.bl (decide (x = .non))) H) (wNm (wE te) k) (tC .non)) (tsU Xs sa) (tsU Xs sb), fun i => ps_ifW (ptw_cmp op_isN (pew_named (hN i) (hi i) (hx i) (pew_of (hp i)) (hf i)) pe_non (by first | exact nomark _ | rfl)) (tsU_ps i) (tsU_ps i), fun Zx t H s r s' g hm D q => ?_⟩
  obtain ⟨y, s1, e1, e2⟩ := bind_some hm
  refine ho Zx t H s y s1 g e1 _ fun v H1 g1 f1 r1 => ⟨rfl, _, rfl, ?_⟩
  have e3 : decide (v = .non) = y.isNone := by
    cases y with
    | none =>
      have r1' : Rp (ZF F Zx G t) H1 v .none := r1
      cases r1'
      rfl
    | some y =>
      have r1' : Rp (ZF F Zx G t) H1 v (enc y) := r1
      refine decide_eq_false fun e => ?_
      subst e
      generalize he : enc y = d at r1'
      cases r1'
      exact hA y he
  rw [e3]
  have g2 := g1.set (d := enc y) hno r1
  have st : Stp F G t H (G.set k (.dat (enc y))) (t.set k (some v)) H1 := ⟨fun x o z _ h => f1 x o z h, fun x z => .inl ((own_set hno x).mp z)⟩
  cases ey : y.isNone with
  | true =>
    rw [ey] at e2
    exact iteT (h1' y Zx _ H1 s1 r s' g2 e2 D (q.from st))
  | false =>
    rw [ey] at e2
    exact iteF (h2' y Zx _ H1 s1 r s' g2 e2 D (q.from st))
end
theorem nf7 : (∀ {S A B : Type} (m : M S A) (n : M S B), pr2M m n = bindM m fun u => bindM n fun w => pureM (⟨u, w⟩ : Pr A B)) ∧
    (∀ {S : Type} (f g h : Int → Int → Bool) (m n o o2 : M S Int), chain3M f g h m n o o2 = bindM m fun x => bindM n fun y => if f x y then bindM o fun z => if g y z then bindM o2 fun w => pureM (h z w) else pureM false else pureM false) ∧
    (∀ {S : Type} (m n : M S Int), lrngM m n = bindM m fun lo => bindM n fun hi => guardM (RgOk lo hi) (pureM (rangeL lo hi))) := ⟨fun _ _ => rfl, fun _ _ _ _ _ _ _ => rfl, fun _ _ => rfl⟩
end PL

namespace PL
open PySem L2 Enc
theorem nfK : (∀ {S A B : Type} (a : A) (k : A → M S B), bindM (pureM a) k = k a) ∧
    (∀ {S A B C : Type} (m : M S A) (f : A → M S B) (g : B → M S C), bindM (bindM m f) g = bindM m fun a => bindM (f a) g) ∧
    (∀ {S A B : Type} {p : Prop} [Decidable p] (m : M S A) (k : A → M S B), bindM (guardM p m) k = guardM p (bindM m k)) ∧
    (∀ {S N1 N L R : Type} (x : N1) (k : N1 → M S (Fl N L R)), seqM (pureM (.nx x)) k = k x) ∧
    (∀ {S N1 N L R : Type} (x : R) (k : N1 → M S (Fl N L R)), seqM (pureM (.rt x)) k = pureM (.rt x)) ∧
    (∀ {S N1 N L R : Type} (x : L) (k : N1 → M S (Fl N L R)), seqM (pureM (.bk x)) k = pureM (.bk x)) ∧
    (∀ {S N1 N L R : Type} (x : L) (k : N1 → M S (Fl N L R)), seqM (pureM (.ct x)) k = pureM (.ct x)) ∧
    (∀ {S A N1 N L R : Type} (m : M S A) (f : A → M S (Fl N1 L R)) (k : N1 → M S (Fl N L R)), seqM (bindM m f) k = bindM m fun a => seqM (f a) k) ∧
    (∀ {S N1 N L R : Type} {p : Prop} [Decidable p] (m : M S (Fl N1 L R)) (k : N1 → M S (Fl N L R)), seqM (guardM p m) k = guardM p (seqM m k)) ∧
    (∀ {S R : Type} (o : Option R) (x : R), retM o (pureM (.rt x) : M S (Fl Unit Empty R)) = pureM x) ∧
    (∀ {S R : Type} (o : Option R) (x : Unit), retM o (pureM (.nx x) : M S (Fl Unit Empty R)) = ofO o) ∧
    (∀ {S A R : Type} (o : Option R) (m : M S A) (f : A → M S (Fl Unit Empty R)), retM o (bindM m f) = bindM m fun a => retM o (f a)) ∧
    (∀ {S R : Type} {p : Prop} [Decidable p] (o : Option R) (m : M S (Fl Unit Empty R)), retM o (guardM p m) = guardM p (retM o m)) ∧
    (∀ {S A B : Type} (f : A → B) (m : M S A), mapM1 f m = bindM m fun a => pureM (f a)) ∧
    (∀ {S A : Type} (a : A), (ofO (some a) : M S A) = pureM a) ∧
    (∀ {S L R : Type} (o : Option R) (m : M S (Fl L Empty R)) (k : L → M S (Fl Unit Empty R)), retM o (seqM (liftM m) k) = lpM m fun y => retM o (k y)) ∧
    (∀ {S N1 N2 N L R : Type} (m : M S (Fl N1 L R)) (k : N1 → M S (Fl N2 L R)) (k2 : N2 → M S (Fl N L R)), seqM (seqM m k) k2 = seqM m fun y => seqM (k y) k2) :=
  ⟨bind_pure, bind_assoc, bind_guard, seq_nx, seq_rt, seq_bk, seq_ct, seq_bind, seq_guard, retM_rt, retM_nx, retM_bind, retM_guard, fun _ _ => rfl, ofO_some, retM_loop, seq_seq⟩
section
variable {S A B N1 N L R : Type} {K : Cnt S} {c : Nat}
/-- if bad: return False -/
theorem ob_ok {p : Prop} [Decidable p] {m : M S (Fl N1 L R)} {x : N1} {k : N1 → M S (Fl N L R)} {T : Fl N L R → Prop} (hp : ¬ p) (h : OkM K c (k x) T) : OkM K c (seqM (if p then m else pureM (.nx x)) k) T := by
  rw [if_neg hp]
  exact h
theorem ob_sif {p : Prop} [Decidable p] {m n : M S (Fl N1 L R)} {k : N1 → M S (Fl N L R)} {T : Fl N L R → Prop} (h1 : p → OkM K c (seqM m k) T) (h2 : ¬ p → OkM K c (seqM n k) T) : OkM K c (seqM (if p then m else n) k) T := by
  split
  · exact h1 ‹_›
  · exact h2 ‹_›
theorem ob_bif {p : Prop} [Decidable p] {m n : M S A} {k : A → M S B} {T : B → Prop} (h1 : p → OkM K c (bindM m k) T) (h2 : ¬ p → OkM K c (bindM n k) T) : OkM K c (bindM (if p then m else n) k) T := by
  split
  · exact h1 ‹_›
  · exact h2 ‹_›
theorem ob_yes {p : Prop} [Decidable p] {m n : M S A} {k : A → M S B} {T : B → Prop} (hp : p) (h : OkM K c (bindM m k) T) : OkM K c (bindM (if p then m else n) k) T := by
  rw [if_pos hp]
  exact h
theorem ob_no {p : Prop} [Decidable p] {m n : M S A} {k : A → M S B} {T : B → Prop} (hp : ¬ p) (h : OkM K c (bindM n k) T) : OkM K c (bindM (if p then m else n) k) T := by
  rw [if_neg hp]
  exact h
end
end PL

namespace PL
open PySem L2 Enc
def rg3Ok (lo hi c : Int) : Prop := c ≠ 0 ∧ c.natAbs < 1073741824 ∧ Builtin.Range.small lo hi c = true
instance (lo hi c : Int) : Decidable (rg3Ok lo hi c) := inferInstanceAs (Decidable (_ ∧ _))
def rangeC (lo hi c : Int) : List Int := (List.range (Builtin.Range.rangeSize lo hi c).toNat).map fun i : Nat => lo + (i : Int) * c
section
variable {S : Type}
def rng3M (m n o : M S Int) : M S (List Int) := bindM m fun lo => bindM n fun hi => bindM o fun c => guardM (rg3Ok lo hi c) (pureM (rangeC lo hi c))
end
theorem rangeC_ok {tg : Expr} (lo c : Int) (n : Nat) (Z : Addr → Prop) (H1 : Hp) : ItOk tg (Itc lo c n) ((List.range n).map fun (i : Nat) => lo + (i : Int) * c) Z H1 := fun Z' H ex tr => ⟨fun i x hx => by
  rw [List.getElem?_map] at hx
  cases hr : (List.range n)[i]? with
  | none =>
    rw [hr] at hx
    cases hx
  | some j =>
    rw [hr] at hx
    obtain ⟨h1, h2⟩ := List.getElem?_eq_some_iff.mp hr
    rw [List.length_range] at h1
    rw [List.getElem_range] at h2
    subst h2
    have hx' : lo + (i : Int) * c = x := Option.some.inj hx
    subst hx'
    exact ⟨h1, fun v H' ⟨e1, e2⟩ => by
      subst e1
      subst e2
      exact ⟨Same.refl _, .of (.int _)⟩⟩, fun i hi => by
  rw [List.length_map, List.length_range] at hi
  exact hi⟩
section
variable {I S A B C : Type} [Enc A] [Enc B] [Enc C] {Xs : I → Cx} {F : Fm S} {G G' : List Sl} {pos p : Pos} {e a b c tg iter : Expr} {es : List Expr}
theorem iv_range3 {m n o : M S Int} (hm : ∀ i, (Xs i).mg "range" = none) (h : EV Xs F G a m) (h' : EV Xs F G b n) (h'' : EV Xs F G c o) (hg : ∀ i, Gl (Xs i) "range" := by intro _; rfl) (hs1 : ∀ i, starEach [a, b, c] (Xs i).env = (false, eval a (Xs i).env) :: starEach [b, c] (Xs i).env := by intro _; rfl)
    (hs2 : ∀ i, starEach [b, c] (Xs i).env = (false, eval b (Xs i).env) :: starEach [c] (Xs i).env := by intro _; rfl) (hs3 : ∀ i, starEach [c] (Xs i).env = [(false, eval c (Xs i).env)] := by intro _; rfl) (hpl : ∀ i, (backTo pos (starEach [b, c] (Xs i).env)).any (·.1) = false := by intro _; rfl) :
    IV Xs F G tg (.Call (.Name "range" p) [a, b, c] [] pos) (rng3M m n o) := by
  obtain ⟨te, hp, ho⟩ := h
  obtain ⟨tf, hp', ho'⟩ := h'
  obtain ⟨tf2, hp'', ho''⟩ := h''
  refine ⟨iRng3 (tCons te (tCons tf (tCons tf2 tNil))), fun i => pi_range3 (hg i) (hm i) (pa_cons (hp i) (pa_cons (hp' i) (pa_cons (hp'' i) pa_nil (hs3 i)) (hs2 i)) (hs1 i)) (hs1 i) (hpl i), fun Zx t H s l s' g hm' R q => ?_⟩
  obtain ⟨z, s1, h1, h2⟩ := bind_some hm'
  obtain ⟨y, s2, h3, h4⟩ := bind_some h2
  obtain ⟨x, s3, h5, h6⟩ := bind_some h4
  obtain ⟨hz, h7⟩ := guard_eq h6
  obtain ⟨rfl, rfl⟩ := pure_eq h7
  refine ho Zx t H s z s1 g h1 _ fun v H1 g1 f1 r1 => ?_
  refine ho' Zx t H1 s1 y s2 g1 h3 _ fun v2 H2 g2 f2 r2 => ?_
  refine ho'' Zx t H2 s2 x _ g2 h5 _ fun v3 H3 g3 f3 r3 => ?_
  obtain rfl := r1.toInt
  obtain rfl := r2.toInt
  obtain rfl := r3.toInt
  exact ⟨z, y, x, _, rfl, ⟨hz.1, hz.2.1, hz.2.2, PyProof.Rows.rangeSize_toNat _ _ _⟩, q _ H3 g3 ((f1.trans f2).trans f3) (rangeC_ok z x _ _ _)⟩
end
theorem rangeC_pos {len c : Int} (hc : 1 ≤ c) (hl : 0 ≤ len) : rangeC 0 len c = (List.range ((len + c - 1) / c).toNat).map fun i : Nat => (i : Int) * c := by
  unfold rangeC
  have e : Builtin.Range.rangeSize 0 len c = (len + c - 1) / c := by
    unfold Builtin.Range.rangeSize
    rw [if_pos (by omega)]
    split
    · rw [show len + c - 1 = (len - 0 - 1) + c by omega, Int.add_ediv_of_dvd_right (Int.dvd_refl c), Int.ediv_self (by omega)]
    · have : len = 0 := by omega
      subst this
      rw [Int.ediv_eq_zero_of_lt (by omega) (by omega)]
  rw [e]
  exact List.map_congr_left fun i _ => by rw [Int.zero_add]
end PL

namespace PL
open PySem L2 Enc PyProof.Rows PySem.Spec
set_option maxHeartbeats 4000000 in
theorem meets_enumT (t : Addr) (items : Array Value) :
    Meets (Builtin.«enumerate.__new__» ⟨[.type "enumerate", .ref t], []⟩) (fun _ R s => s.heap.IsTuple t items ∧
      R (.ok (.ret (.ref (s.heap.push { cls := .type "tuple_iterator", data := .fields #[.ref t, .int 0 0] }).objs.size)))
        { s with heap := (s.heap.push { cls := .type "tuple_iterator", data := .fields #[.ref t, .int 0 0] }).push { cls := .type "enumerate", data := .fields #[.none, .bool false, .ref s.heap.objs.size, rawInt 0, .none, .none] } }) :=
  .of_wp fun prog w A R s h => by
    obtain ⟨hp, g, d, tk, os⟩ := s
    obtain ⟨h1, h⟩ := h
    have hsub := sub_enumerate
    have q1 : ∀ {A' : Around} {E : Value → Shared → Prop} {Q : Value → Shared → Prop}, Q (.ref hp.objs.size) ⟨hp.push { cls := .type "tuple_iterator", data := .fields #[.ref t, .int 0 0] }, g, d, tk, os⟩ → wpAny (model prog w) A' (pyIter (.ref t)) Q E ⟨hp, g, d, tk, os⟩ :=
      fun q => wpAny_pyIter_tuple (s := ⟨hp, g, d, tk, os⟩) h1 q
    wp_walk using q1
    refine wpAny_stack_any fun st => wpAny_pure ?_
    split
    · rename_i c _ _ _ _ _
      cases (c == Value.type "enumerate")
      · wp_walk using q1
        exact ⟨_, rfl, h⟩
      · wp_walk using q1
        exact ⟨_, rfl, h⟩
    · wp_walk using q1
      exact ⟨_, rfl, h⟩
section
variable {prog : Program} {w : World} {A : Around} {E : Value → Shared → Prop} {s : Shared}
theorem call_enumT {t : Addr} {items : Array Value} {Q : Value → Shared → Prop} (hL : s.heap.IsTuple t items)
    (h : ∀ h', IsEnum h' (s.heap.objs.size + 1) s.heap.objs.size 0 .none → h'.IsTupleIter s.heap.objs.size t 0 → h'.objs.size = s.heap.objs.size + 2 →
      (∀ b o, s.heap.get? b = some o → h'.get? b = some o) → Q (.ref (s.heap.objs.size + 1)) { s with heap := h' }) :
    wpAny (model prog w) A (call (.type "enumerate") [.ref t]) Q E s := by
  refine callType_new F.called_enumerate (by decide) (F.typeCall_enumerate_1 _) (F.newCall_enumerate_1 _) (fun obj => F.args_object_init_2 obj _) F.entry_enumerate_new
    (meets_enumT t items) ⟨hL, ?_⟩
  have hz : (s.heap.push { cls := .type "tuple_iterator", data := .fields #[.ref t, .int 0 0] }).objs.size = s.heap.objs.size + 1 := Heap.size_push ..
  show _ ∧ _
  rw [hz]
  have he : IsEnum ((s.heap.push { cls := .type "tuple_iterator", data := .fields #[.ref t, .int 0 0] }).push
      { cls := .type "enumerate", data := .fields #[.none, .bool false, .ref s.heap.objs.size, rawInt 0, .none, .none] }) (s.heap.objs.size + 1) s.heap.objs.size 0 .none := by
    have := Heap.get?_push_size (s.heap.push { cls := .type "tuple_iterator", data := .fields #[.ref t, .int 0 0] })
      (o := { cls := .type "enumerate", data := .fields #[.none, .bool false, .ref s.heap.objs.size, rawInt 0, .none, .none] }) rfl
    rw [hz] at this; exact this
  refine ⟨⟨_, he, rfl⟩, h _ he ⟨_, Heap.get?_push_of_some _ (Heap.get?_push_size _ rfl), rfl, rfl⟩ (by rw [Heap.size_push, hz]) fun b o x => Heap.get?_push_of_some _ (Heap.get?_push_of_some _ x)⟩
end
section
variable {prog : Program} {w : World} {A : Around} {E : Value → Shared → Prop} {s : Shared}
theorem wpAny_pyNext_enum_endT {e it l : Addr} {i : Nat} {items : Array Value} {old : Value} {Q : Option Value → Shared → Prop} (hh : A.handled = none)
    (he : IsEnum s.heap e it i old) (hit : s.heap.IsTupleIter it l i) (hl : s.heap.IsTuple l items) (hx : items[i]? = none)
    (hQ : ∀ h', Heap.ExtBut it s.heap h' → Q none { s with heap := h' }) : wpAny (model prog w) A (pyNext (.ref e)) Q E s := by
  have hT : s.TypeIs (.ref e) "enumerate" := ⟨_, he, rfl⟩
  unfold pyNext
  refine wpAny_bind (wpAny_attempt (wpAny_callSpecial?_slot (name := Str.ofString "__next__") hT F.slot_enumerate_next
    (wpAny_call_entry F.slot_enumerate_next hT F.entry_enumerate_next ?_ (F.args_enumerate_next_1 _))))
  show wpAny _ _ (field (.ref e) 2 >>= _) _ _ _
  refine wpAny_bind (wpAny_field he rfl (x := .ref it) rfl ?_)
  refine wpAny_bind (wpAny_nextOf_tuple_end (A := A.in1) (show A.in1.handled = none from hh) hit hl hx fun h' x he' hx' => ?_)
  obtain ⟨o, ho, hc⟩ := hx'
  refine wpAny_bind (wpAny_isInstance (T := "StopIteration") (b := true) ⟨o, ho, hc⟩ isSubtype_stop ?_)
  exact wpAny_pure (hQ _ he')
end
/-- the tuple at a as it stands at each turn, each item in a new pair -/
def IteT (K : PySem.W.Frag) (a : Addr) : It :=
  ⟨fun i H => ∃ (xs : List V) (x : V), SqT K H a xs ∧ xs[i]? = some x, fun i H v H' => ∃ T x, v = .ref T ∧ H T = none ∧ H' = upd H T (.tup [.int (i : Nat), x]) ∧ ∀ xs, SqT K H a xs → xs[i]? = some x, fun i H => ∃ xs : List V, SqT K H a xs ∧ xs.length ≤ i⟩
theorem cls_ne {h : Heap} {a b : Addr} {o o' : Obj} (h1 : h.get? a = some o) (h2 : h.get? b = some o') (hc : o.cls ≠ o'.cls) : a ≠ b := fun z => by
  subst z
  rw [h1] at h2
  exact hc (congrArg Obj.cls (Option.some.inj h2))
theorem turn_enumT {P : Program} {w : World} {K : PySem.W.Frag} {elts : List Expr} {kk : Nat} {tpos : Pos} (a e it : Addr) :
    Turn P w K (.Tuple elts kk tpos) (IteT K a) [e, it] e (fun i h => (∃ old, IsEnum h e it ((i : Nat) : Int) old) ∧ h.IsTupleIter it a i ∧ e ≠ it) where
  mem := by simp
  obj := fun i h st b hb => by
    obtain ⟨⟨old, he⟩, ⟨o, ho, hc, hd⟩, _⟩ := st
    have e' : b = e ∨ b = it := by simpa using hb
    rcases e' with z | z
    · rw [z]; exact ⟨_, he, fun v q => nomatch q⟩
    · rw [z]; exact ⟨o, ho, fun v q => by rw [hd] at q; cases q⟩
  keep := fun i h h' st k => let ⟨⟨old, he⟩, hi, hne⟩ := st; ⟨⟨old, k e (by simp) _ he⟩, hi.at fun o q => k it (by simp) o q, hne⟩
  item := by
    intro X hP hw hK hc i pins s σ H E I hf st hg
    subst hP hw hK
    obtain ⟨⟨old, he⟩, hit, hne⟩ := st
    obtain ⟨xs, x, hq, hx⟩ := hg
    obtain ⟨its, rv, p, hz⟩ := I.tuple hq
    obtain ⟨u, hu, ru⟩ := rv.get hx
    have hel : e < s.heap.objs.size := Heap.lt_size he
    have hil : it < s.heap.objs.size := by obtain ⟨_, q, _⟩ := hit; exact Heap.lt_size q
    have p' : s.heap.IsTuple a its.toArray := p
    have ne1 : e ≠ a := by
      obtain ⟨o, ho, hc, _⟩ := p'
      exact cls_ne he ho (by rw [hc]; intro z; injection z with z; exact absurd z (by decide))
    have ne2 : a ≠ it := by
      obtain ⟨o, ho, hc, _⟩ := p'
      obtain ⟨o2, ho2, hc2, _⟩ := hit
      exact cls_ne ho ho2 (by rw [hc, hc2]; intro z; injection z with z; exact absurd z (by decide))
    have D : Draws X.prog X.w X.A.in1 it [it, a] its.toArray.size (fun i v => its.toArray[i]? = some v) (fun i h => h.IsTupleIter it a i ∧ h.IsTuple a its.toArray) := Draws.tuple (A := X.A.in1) (show X.A.in1.handled = none from I.ok.hd hc) it a ne2 its.toArray
    have lt : i < its.toArray.size := by
      have := List.getElem?_eq_some_iff.mp hu
      obtain ⟨q, _⟩ := this
      simpa using q
    refine wpAny_pyNext_enum_itemD D he ⟨hit, p'⟩ lt hne (by simp [ne1, hne]) fun x0 h' tk hx0 ho hst' hT hsz hk => ?_
    have ex : x0 = u := by
      have : its.toArray[i]? = some u := by simpa using hu
      have hx0 : its.toArray[i]? = some x0 := hx0
      rw [this] at hx0
      exact (Option.some.inj hx0).symm
    subst ex
    refine ⟨_, rfl, wpAny_letOwnedTupleGo_enum (s := { s with heap := h', toks := tk + 1 }) ho fun h'' he' sb => ?_⟩
    have hT2 : h''.get? s.heap.objs.size = some { cls := .type "tuple", data := .seq #[.int i tk, x0] } := (sb.2 _ (Nat.ne_of_gt hel)).trans hT
    have new : ObjOk X.prog X.w (upd H s.heap.objs.size (.tup [.int (i : Nat), x])) h'' s.heap.objs.size (.tup [.int (i : Nat), x]) :=
      ⟨by show 2 ≤ sizeLine; decide, [.int i tk, x0], .cons ⟨_, rfl⟩ (.cons ru .nil), ⟨_, hT2, rfl, _, rfl⟩⟩
    have I1 : Inv X pins σ (upd H s.heap.objs.size (.tup [.int (i : Nat), x])) { s with heap := h'', toks := tk + 1 } :=
      I.turnedNew (ch := [e, it]) (fun b ob hb q => (sb.2 b (fun z => hb (by simp [z]))).trans (hk b ob (fun z => hb (by simp [z])) (fun z => hb (by simp [z])) q)) hf (Nat.le_refl _) new
    refine ⟨.ref s.heap.objs.size, _, I1, rfl, ⟨_, x, rfl, I.hok.fresh (Nat.le_refl _), rfl, fun ys hy => by rw [I.tuple_inj hy hq]; exact hx⟩, ⟨⟨x0, ?_⟩, hst'.1.at fun o q => (sb.2 it (Ne.symm hne)).trans q, hne⟩, fun b hb => ?_⟩
    · have e1 : ((i + 1 : Nat) : Int) = (i : Int) + 1 := by omega
      rw [e1]; exact he'
    · have hb' : b < s.heap.objs.size := by
        have e' : b = e ∨ b = it := by simpa using hb
        rcases e' with z | z
        · rw [z]; exact hel
        · rw [z]; exact hil
      rw [upd_ne (Nat.ne_of_lt hb')]
      exact (hf b hb).1
  done := by
    intro X hP hw hK hc i pins s σ H E I hf st hg
    subst hP hw hK
    obtain ⟨⟨old, he⟩, hit, hne⟩ := st
    obtain ⟨xs, hq, hx⟩ := hg
    obtain ⟨its, rv, p, hz⟩ := I.tuple hq
    obtain ⟨f0, f1, f2, f3, f4, f5⟩ := hf it (by simp)
    have hl := rv.length
    have p' : s.heap.IsTuple a its.toArray := p
    exact wpAny_pyNext_enum_endT (I.ok.hd hc) he hit p' (by simp; omega) fun h' eb => ⟨rfl, I.turned (t' := s.toks) (fun b o hb q => eb b o hb q) f0 f1 f3 f4 f5⟩
  self := fun A i s Q E st h => let ⟨⟨_, he⟩, _⟩ := st; wpAny_pyIter_enum he h
def iEnumT (K : PySem.W.Frag) (ta : TA) : TI := fun σ H R => ta σ H fun vs H1 => ∃ a xs, vs = [.ref a] ∧ SqT K H1 a xs ∧ R (IteT K a) H1
theorem pi_enumT {X : Cx} {e : Expr} {ta : TA} {p pos tpos : Pos} {elts : List Expr} {kk : Nat} (hg : Gl X "enumerate") (hm : X.mg "enumerate" = none) (ha : PA X [e] ta) (hs : starEach [e] X.env = [(false, eval e X.env)] := by rfl) :
    PI X (.Tuple elts kk tpos) (.Call (.Name "enumerate" p) [e] [] pos) (iEnumT X.K ta) := by
  refine ⟨fun pins s σ H R I h => ?_⟩
  refine Call_ (ld_blt I hg hm boot_enumerate (PyProof.Rows.callWith_type1 (thn (ha.run pos pins s σ H _ I h) fun us s1 ⟨vs, H1, I1, r1, q1⟩ => ?_) hs rfl))
  obtain ⟨a, xs, ex, hq, q⟩ := q1
  subst ex
  cases r1 with
  | cons r rr =>
    cases rr
    cases r
    obtain ⟨its, rv, p', hz⟩ := I1.tuple hq
    refine call_enumT (show s1.heap.IsTuple a its.toArray from p') fun h' he hit hsz hk => wpAny_pyIter_enum he ?_
    have I2 : Inv X pins σ H1 { s1 with heap := h' } := I1.kept (t' := s1.toks) hk
    refine ⟨s1.heap.objs.size + 1, [s1.heap.objs.size + 1, s1.heap.objs.size], _, _, H1, rfl, I2, turn_enumT a (s1.heap.objs.size + 1) s1.heap.objs.size, ⟨⟨.none, he⟩, hit, Nat.succ_ne_self _⟩, fun b hb => ?_, q⟩
    have e' : b = s1.heap.objs.size + 1 ∨ b = s1.heap.objs.size := by simpa using hb
    have hle : s1.heap.objs.size ≤ b := by
      rcases e' with z | z
      · rw [z]; exact Nat.le_add_right _ _
      · rw [z]; exact Nat.le_refl _
    exact I1.fpOk hle (I1.hok.fresh hle)
section
variable {I S A B C : Type} [Enc A] [Enc B] [Enc C] {Xs : I → Cx} {F : Fm S} {G G' : List Sl} {pos p : Pos} {e a b c tg iter : Expr} {es : List Expr}
theorem iv_enumT {m : M S (Tup A)} {elts : List Expr} {kk : Nat} {tpos : Pos} (hm : ∀ i, (Xs i).mg "enumerate" = none) (h : EV Xs F G a m) (hg : ∀ i, Gl (Xs i) "enumerate" := by intro _; rfl)
    (hs1 : ∀ i, starEach [a] (Xs i).env = (false, eval a (Xs i).env) :: starEach [] (Xs i).env := by intro _; rfl) {K : PySem.W.Frag} (hK : ∀ i, (Xs i).K = K := by intro _; rfl) :
    IV Xs F G (.Tuple elts kk tpos) (.Call (.Name "enumerate" p) [a] [] pos) (enumM (mapM1 unTup m)) := by
  obtain ⟨te, hp, ho⟩ := h
  refine ⟨iEnumT K (tCons te tNil), fun i => by rw [← hK i]; exact pi_enumT (hg i) (hm i) (pa_cons (hp i) pa_nil (hs1 i)) (hs1 i), fun Zx t H s l s' g hm' R q => ?_⟩
  obtain ⟨z, s1, h1, h2⟩ := bind_some hm'
  obtain ⟨z0, s0, k1, q1⟩ := bind_some h1
  obtain ⟨rfl, rfl⟩ := pure_eq q1
  obtain ⟨rfl, rfl⟩ := pure_eq h2
  refine ho Zx t H s z0 _ g k1 _ fun v H1 g1 f1 r1 => ?_
  obtain ⟨p1, xs, rfl, n1, e1, l1⟩ := r1.toTup
  refine ⟨p1, xs, rfl, e1.sq, q _ H1 g1 f1 fun Z' H3 ex tr => ⟨fun i x hx => ?_, fun i hi => ?_⟩⟩
  · rw [List.getElem?_map, List.getElem?_zipIdx] at hx
    cases hz : (unTup z0)[i]? with
    | none =>
      rw [hz] at hx
      cases hx
    | some x1 =>
      rw [hz] at hx
      have hx' : ((0 + i : Nat) : Int) = x.1 ∧ x1 = x.2 := by
        have := Option.some.inj hx
        rw [← this]
        exact ⟨rfl, rfl⟩
      have kk1 := e1.at_ fun o q => ex.1 _ o n1 q
      obtain ⟨y1, hy1, ry1⟩ := (l1.ext ex).get (i := i) (x := enc x1) (by rw [List.getElem?_map, hz]; rfl)
      refine ⟨⟨xs, y1, kk1.sq, hy1⟩, fun v H' hyl => ?_⟩
      obtain ⟨T, w1, rfl, hT, rfl, q1⟩ := hyl
      have e3 := q1 xs kk1.sq
      rw [hy1] at e3
      cases e3
      refine ⟨same_new hT, ?_⟩
      have := Gd.fresh_tup (es := elts) (k := kk) (p := tpos) tr hT (.cons (.int (i : Nat)) (.cons ry1 .nil))
      show Rt _ Z' _ _ (.tuple [enc x.1, enc x.2])
      rw [← hx'.1, ← hx'.2, Nat.zero_add]
      exact this
  · refine ⟨xs, (e1.at_ fun o q => ex.1 _ o n1 q).sq, ?_⟩
    rw [l1.len, List.length_map]
    rw [List.length_map, List.length_zipIdx] at hi
    exact hi
end
/-- a list of two items, seen so -/
def toPr {A : Type} : List A → Option (Pr A A)
  | [a, b] => some ⟨a, b⟩
  | _ => none
theorem toPr_enc {A : Type} [Enc A] (y : List A) (z : Pr A A) (h : toPr y = some z) : enc z = enc y := by
  match y with
  | [] => cases h
  | [_] => cases h
  | [a, b] =>
    obtain rfl := Option.some.inj h
    rfl
  | _ :: _ :: _ :: _ => cases h
section
variable {I S A : Type} [Enc A] {Xs : I → Cx} {F : Fm S} {G : List Sl} {e : Expr}
theorem ev_toPr {m : M S (List A)} (h : EV Xs F G e m) : EV Xs F G e (fun1M toPr m) := ev_of toPr toPr_enc h
end
end PL

namespace PL
open PySem L2 Enc
section
variable {I S A : Type} [Enc A] {Xs : I → Cx} {F : Fm S} {G : List Sl} {es : List Expr} {pos : Pos}
theorem eo_lst {m : M S (List A)} (h : EA Xs F G es m (List.map enc)) : EO Xs F G (.List es pos) (lstM m) := by
  obtain ⟨ta, hp, ho⟩ := h
  refine ⟨tLst ta, fun i => pe_lst (hp i), fun Zx t H s y s' g hm Q q => ?_⟩
  obtain ⟨z, s1, h1, h2⟩ := bind_some hm
  obtain ⟨hl, h3⟩ := guard_eq h2
  obtain ⟨rfl, rfl⟩ := pure_eq h3
  refine ho Zx t H s z s1 g h1 _ fun vs H1 g1 f1 r1 => ⟨?_, fun pp hn1 => ?_⟩
  · rw [r1.len, List.length_map]
    exact lenOk_line hl
  · have sm : Same H1 (upd H1 pp (.lst vs)) := same_new hn1
    refine q pp _ (g1.more hn1) (f1.trans (Fix.same sm)) (none_before g1 f1 hn1) ⟨_, upd_same, ?_⟩
    exact r1.ext (new_ext hn1)
end
end PL

namespace PL
open PySem L2 Enc PyProof.Rows PySem.Spec
section
variable {prog : Program} {w : World} {A : Around} {E : Value → Shared → Prop} {s : Shared}
theorem places_rev (n : Nat) : Builtin.Slice.slicePlaces ((n : Int) - 1) (-1) (-1) = n := by
  unfold Builtin.Slice.slicePlaces
  have h1 : ¬ ((-1 : Int) > 0) := by omega
  simp only [h1, if_false, show (-(-1) : Int) = 1 from rfl, Int.ediv_one]
  split <;> omega
theorem fm_congr {α β : Type} {f g : α → Option β} : ∀ {l : List α}, (∀ m ∈ l, f m = g m) → l.filterMap f = l.filterMap g
  | [], _ => rfl
  | x :: l, h => by
    have ih := fm_congr (l := l) fun m hm => h m (List.mem_cons_of_mem _ hm)
    rw [List.filterMap_cons, List.filterMap_cons, h x List.mem_cons_self, ih]
theorem pick_rev (xs : Array Value) : ((List.range xs.size).filterMap fun (m : Nat) => xs[((xs.size : Int) - 1 + (m : Int) * -1).toNat]?).toArray = xs.toList.reverse.toArray := by
  have e : ((List.range xs.size).filterMap fun (m : Nat) => xs[((xs.size : Int) - 1 + (m : Int) * -1).toNat]?) = ((List.range xs.size).map fun k => xs.size - 1 - k).filterMap (xs[·]?) := by
    rw [List.filterMap_map]
    refine fm_congr fun m hm => ?_
    have := List.mem_range.mp hm
    show xs[_]? = xs[xs.size - 1 - m]?
    congr 1
    omega
  rw [e, PySem.W.krv_range, List.filterMap_reverse, PySem.W.krv_all]
theorem applied_rev {sl : Addr} {vl vu vs : Value} {n : Nat} {Q : Int × Int × Nat → Shared → Prop} (hs : s.heap.IsSliceOf sl vl vu vs) (pl : IsPart vl none) (pu : IsPart vu none) (ps : IsPart vs (some (-1)))
    (h : Q ((n : Int) - 1, -1, n) s) : wpAny (model prog w) A (Builtin.Slice.sliceApplied (.ref sl) (pure (n : Int))) Q E s := by
  obtain ⟨os, hos, hcs, hds⟩ := id hs
  unfold Builtin.Slice.sliceApplied Builtin.Slice.sliceFields
  refine wpAny_bind (wpAny_bind (wpAny_field hos hds (x := vl) rfl (wpAny_bind (wpAny_field hos hds (x := vu) rfl (wpAny_bind (wpAny_field hos hds (x := vs) rfl (wpAny_pure ?_)))))))
  refine wpAny_bind (HT.slicePart_ ps ?_)
  show wpAny _ _ (if ((-1 : Int) == 0) = true then _ else _) _ _ s
  rw [if_neg (by decide)]
  refine wpAny_bind (HT.slicePart_ pl (wpAny_bind (HT.slicePart_ pu (wpAny_bind (wpAny_pure ?_)))))
  show wpAny _ _ (pure ((n : Int) - 1, (-1 : Int), Builtin.Slice.slicePlaces ((n : Int) - 1) (-1) (-1))) _ _ s
  rw [places_rev]
  exact wpAny_pure h
theorem getItem_tuple_rev {t sl : Addr} {items : Array Value} {vl vu vs : Value} {Q : Value → Shared → Prop} (ht : IsTup s.heap t items) (hs : s.heap.IsSliceOf sl vl vu vs) (pl : IsPart vl none) (pu : IsPart vu none) (ps : IsPart vs (some (-1)))
    (h : Q (.ref s.heap.objs.size) { s with heap := s.heap.push { cls := .type "tuple", data := .seq items.toList.reverse.toArray } })
    (hsz : items.size ≤ sizeLine) : wpAny (model prog w) A (getItem (.ref t) (.ref sl)) Q E s := by
  have htake : sizeOk (.seq items.toList.reverse.toArray) := by
    show items.toList.reverse.toArray.size ≤ sizeLine
    rw [List.size_toArray, List.length_reverse, Array.length_toList]
    exact hsz
  obtain ⟨os, hos, hcs, hds⟩ := id hs
  have hTs : s.TypeIs (.ref sl) "slice" := ⟨os, hos, hcs⟩
  unfold getItem
  try with_reducible refine wpAny_holding ?_
  first | refine wpAny_bind (wpAny_pure ?_) | skip
  refine wpAny_bind (wpAny_sequenceKey ht.typeIs (by decide) ?_)
  refine wpAny_bind (wpAny_callSpecial?_slot (name := Str.ofString "__getitem__") ht.typeIs PyProof.Rows.slot_tuple_getitem
    (wpAny_call_entry PyProof.Rows.slot_tuple_getitem ht.typeIs entry_tuple_getitem ?_ (args_tuple_getitem _ _)))
  show wpAny _ _ (Builtin.Tuple.tupleItemsOf (.ref t) >>= _) _ _ s
  refine wpAny_bind (tupleItemsOf_ ht ?_)
  refine wpAny_bind (wpAny_typeOf hTs ?_)
  rw [if_pos (by decide)]
  refine wpAny_bind (applied_rev hs pl pu ps ?_)
  have hno : ¬ ((((items.size : Int) - 1) == 0 && (-1 : Int) == 1 && items.size == items.size) = true) := by
    intro q
    rw [Bool.and_eq_true, Bool.and_eq_true] at q
    exact absurd q.1.2 (by decide)
  show wpAny _ _ (if (((items.size : Int) - 1) == 0 && (-1 : Int) == 1 && items.size == items.size) = true then _ else _) _ _ s
  rw [if_neg hno, pick_rev]
  first
    | exact wpAny_bind (m := Builtin.Tuple.tupleExact _) (wpAny_newObj_type (wpAny_pure ⟨_, rfl, wpAny_pure h⟩) htake)
    | exact wpAny_bind (m := Builtin.Tuple.tupleExact _) (wpAny_newObj_type (wpAny_bind (wpAny_pure (wpAny_pure ⟨_, rfl, wpAny_pure h⟩))) htake)
    | exact wpAny_bind (wpAny_bind (m := Builtin.Tuple.tupleExact _) (wpAny_newObj_type (wpAny_pure (wpAny_pure ⟨_, rfl, wpAny_pure h⟩)) htake))
    | exact wpAny_bind (wpAny_bind (m := Builtin.Tuple.tupleExact _) (wpAny_newObj_type (wpAny_pure ⟨_, rfl, wpAny_pure h⟩) htake))
end
def tRevT (K : PySem.W.Frag) (te : TE) : TE := fun σ H Q => te σ H fun x H1 => ∃ a xs, x = .ref a ∧ SqT K H1 a xs ∧ NewT H1 xs.reverse Q
theorem pe_revT {X : Cx} {e : Expr} {te : TE} {k : Nat} {p1 p2 p3 pos : Pos} (he : PE X e te) : PE X (.Subscript e (.Slice none none (some (.UnaryOp .USub (.Constant (.int 1) k p1) p2)) p3) pos) (tRevT X.K te) := by
  refine ⟨fun pins s σ H Q I h => ?_⟩
  refine Subscript_ (thn (he.run pins s σ H _ I h) fun v s1 ⟨x, H1, I1, r1, q1⟩ => ?_)
  obtain ⟨a, xs, ex, hx, q⟩ := q1
  subst ex
  cases r1
  have hst : PO X (some (.UnaryOp .USub (.Constant (.int 1) k p1) p2)) (tPart (tUn (rU fun i => .int (-i)) (tC (.int 1)))) := po_some (pe_un un_neg pe_int)
  refine wpAny_Slice (thn (po_none.run pins s1 σ H1 (fun o H2 => o = none ∧ H2 = H1) I1 ⟨rfl, rfl⟩) fun vl s2 ⟨l, H2, I2, pl, el, e2⟩ => ?_)
  subst el e2
  refine thn (po_none.run pins s2 σ H2 (fun o H3 => o = none ∧ H3 = H2) I2 ⟨rfl, rfl⟩) fun vu s3 ⟨u, H3, I3, pu, eu, e3⟩ => ?_
  subst eu e3
  refine thn (hst.run pins s3 σ H3 (fun o H4 => o = some (-1) ∧ H4 = H3) I3 ⟨1, rfl, -1, rfl, rfl, rfl⟩) fun vs s4 ⟨o, H4, I4, ps, eo, e4⟩ => ?_
  subst eo e4
  have I5 : Inv X pins σ H4 { s4 with heap := s4.heap.push { cls := .type "slice", data := .fields #[vl, vu, vs] } } := I4.kept (t' := s4.toks) fun b ob q => Heap.get?_push_of_some _ q
  obtain ⟨its, r, ht, hz⟩ := I5.tuple hx
  have hlen := r.length
  show wpAny (model X.prog X.w) X.A (subscriptTail e (.Slice none none (some (.UnaryOp .USub (.Constant (.int 1) k p1) p2)) p3) (.ref a) (.ref s4.heap.objs.size)) (L2.EP X pins σ Q) X.xe { s4 with heap := s4.heap.push { cls := .type "slice", data := .fields #[vl, vu, vs] } }
  refine tail_any (ops := [.ref a, .ref s4.heap.objs.size]) ht.typeIs (PyProof.Rows.slot_tuple_getitem.lookup) ?_ (by with_unfolding_all rfl)
  refine getItem_tuple_rev ht (Heap.IsSliceOf.new _ vl vu vs) pl pu ps ?_ (by rw [List.size_toArray]; omega)
  exact layT I5 r.reverse (by rw [List.length_reverse]; exact hz) q
section
variable {I S A : Type} [Enc A] {Xs : I → Cx} {F : Fm S} {G : List Sl} {a : Expr} {pos : Pos} {K : PySem.W.Frag}
def revT (l : Tup A) : Tup A := toTup (unTup l).reverse
theorem ev_revT {m : M S (Tup A)} {k : Nat} {q1 q2 q3 : Pos} (ha : EV Xs F G a m) (hK : ∀ i, (Xs i).K = K := by intro _; rfl) : EV Xs F G (.Subscript a (.Slice none none (some (.UnaryOp .USub (.Constant (.int 1) k q1) q2)) q3) pos) (mapM1 revT m) := by
  obtain ⟨ta, hp, hx⟩ := ha
  refine ⟨tRevT K ta, fun i => by rw [← hK i]; exact pe_revT (hp i), fun Zx t H s y s' g hm Q q => ?_⟩
  obtain ⟨z, s1, h1, h2⟩ := bind_some hm
  obtain ⟨rfl, rfl⟩ := pure_eq h2
  refine hx Zx t H s z s1 g h1 _ fun v H1 g1 f1 r1 => ?_
  obtain ⟨pp, xs, rfl, n1, h, r⟩ := r1.toTup
  refine ⟨pp, xs, rfl, h.sq, fun pn ob hn hb => ?_⟩
  have sm : Same H1 (upd H1 pn (.frz ob (.tup xs.reverse))) := same_new hn
  refine q _ _ (g1.same sm) (f1.trans (Fix.same sm)) (.tup (g1.new hn) ⟨ob, upd_same, hb⟩ ?_)
  show RpL _ _ _ (List.map enc (unTup z).reverse)
  rw [List.map_reverse]
  exact r.rev.fix (Fix.same sm)
end
end PL

namespace PL
open PySem L2 Enc PySem.W
/-- no value of the type is None at the top (for <) -/
def rLtD (K : PySem.W.Frag) : R2 := fun x y H Q => ∃ d e, Dp K H x d ∧ Dp K H y e ∧ alike d e = true ∧ d ≠ .none ∧ d.depth ≤ 60 ∧ Q (.bl (dataLt d e)) H
def rGtD (K : PySem.W.Frag) : R2 := fun x y H Q => ∃ d e, Dp K H x d ∧ Dp K H y e ∧ alike d e = true ∧ d ≠ .none ∧ d.depth ≤ 60 ∧ Q (.bl (dataLt e d)) H
def rLeDD (K : PySem.W.Frag) : R2 := fun x y H Q => ∃ d e, Dp K H x d ∧ Dp K H y e ∧ alike d e = true ∧ d ≠ .none ∧ d.depth ≤ 60 ∧ Q (.bl (!dataLt e d)) H
def rGeD (K : PySem.W.Frag) : R2 := fun x y H Q => ∃ d e, Dp K H x d ∧ Dp K H y e ∧ alike d e = true ∧ d ≠ .none ∧ d.depth ≤ 60 ∧ Q (.bl (!dataLt d e)) H
section
variable {X : Cx}
theorem op_ltD (hu : X.A.units + 64 < cLine) : OpR X (compareOp .Lt) (rLtD X.K) := by
  intro pins s σ H x y v u Q I rx ry h
  obtain ⟨d, e, hd, he, al, hn, hdp, q⟩ := h
  obtain ⟨as, r1⟩ := Dp.reads I d x v hd rx
  obtain ⟨bs, r2⟩ := Dp.reads I e y u he ry
  exact lt_data r1 r2 al hn (by omega) ⟨.bl _, H, I, rfl, q⟩
theorem op_gtD (hu : X.A.units + 64 < cLine) : OpR X (compareOp .Gt) (rGtD X.K) := by
  intro pins s σ H x y v u Q I rx ry h
  obtain ⟨d, e, hd, he, al, hn, hdp, q⟩ := h
  obtain ⟨as, r1⟩ := Dp.reads I d x v hd rx
  obtain ⟨bs, r2⟩ := Dp.reads I e y u he ry
  exact gt_data r1 r2 al hn (by omega) ⟨.bl _, H, I, rfl, q⟩
theorem op_leD (hu : X.A.units + 64 < cLine) : OpR X (compareOp .LtE) (rLeDD X.K) := by
  intro pins s σ H x y v u Q I rx ry h
  obtain ⟨d, e, hd, he, al, hn, hdp, q⟩ := h
  obtain ⟨as, r1⟩ := Dp.reads I d x v hd rx
  obtain ⟨bs, r2⟩ := Dp.reads I e y u he ry
  exact le_data r1 r2 al hn (by omega) ⟨.bl _, H, I, rfl, q⟩
theorem op_geD (hu : X.A.units + 64 < cLine) : OpR X (compareOp .GtE) (rGeD X.K) := by
  intro pins s σ H x y v u Q I rx ry h
  obtain ⟨d, e, hd, he, al, hn, hdp, q⟩ := h
  obtain ⟨as, r1⟩ := Dp.reads I d x v hd rx
  obtain ⟨bs, r2⟩ := Dp.reads I e y u he ry
  exact ge_data r1 r2 al hn (by omega) ⟨.bl _, H, I, rfl, q⟩
end
section
variable {I S A B : Type} [Enc A] [Enc B] [LE A] [AL A] {Xs : I → Cx} {F : Fm S} {G : List Sl} {pos p : Pos} {e a b : Expr} {K : PySem.W.Frag}
def ltT (x y : A) : Bool := dataLt (enc x) (enc y)
def ltDM (m n : M S A) : M S Bool := bin2 (fun x y => some (ltT x y)) m n
def gtDM (m n : M S A) : M S Bool := bin2 (fun x y => some (ltT y x)) m n
def leDM (m n : M S A) : M S Bool := bin2 (fun x y => some (!ltT y x)) m n
def geDM (m n : M S A) : M S Bool := bin2 (fun x y => some (!ltT x y)) m n
theorem rv_ltD {g : PyData → PyData → Bool} {r : R2} (hA : ∀ y : A, enc y ≠ PyData.none) (hl : LE.dp A ≤ 60) (hr : ∀ x y H Q d e, Dp K H x d → Dp K H y e → alike d e = true → d ≠ .none → d.depth ≤ 60 → Q (.bl (g d e)) H → r x y H Q) :
    RV2 r (fun (x : A) (y : A) => some (g (enc x) (enc y))) := fun F Zx G s t H x y vx vy z gd rx ry e Q q => by
  cases e
  exact hr vx vy H Q _ _ (rx.dp (LE.lay x).1) (ry.dp (LE.lay y).1) (AL.al x y) (hA x) (Nat.le_trans (LE.lay x).2 hl) (q _ H (Same.refl H) (.bl _))
variable {m n : M S A} {k : Nat}
theorem ev_ltD (hr : ∀ i, Room k (Xs i).A) (hA : ∀ y : A, enc y ≠ PyData.none) (ha : EV Xs F G a m) (hb : EV Xs F G b n) (hl : LE.dp A ≤ 60 := by decide) (hK : ∀ i, (Xs i).K = K := by intro _; rfl) : EV Xs F G (.Compare a [.Lt] [b] pos) (ltDM m n) :=
  ev_cmp (r := rLtD K) (fun i => by rw [← hK i]; exact op_ltD (hr i).units) (rv_ltD (K := K) (g := dataLt) hA hl fun x y H Q d e h1 h2 h3 h4 h5 q => ⟨d, e, h1, h2, h3, h4, h5, q⟩) ha hb
theorem et_ltD (hr : ∀ i, Room k (Xs i).A) (hA : ∀ y : A, enc y ≠ PyData.none) (ha : EV Xs F G a m) (hb : EV Xs F G b n) (hl : LE.dp A ≤ 60 := by decide) (hK : ∀ i, (Xs i).K = K := by intro _; rfl) : ET Xs F G (.Compare a [.Lt] [b] pos) (ltDM m n) :=
  et_cmp (r := rLtD K) (fun i => by rw [← hK i]; exact op_ltD (hr i).units) (rv_ltD (K := K) (g := dataLt) hA hl fun x y H Q d e h1 h2 h3 h4 h5 q => ⟨d, e, h1, h2, h3, h4, h5, q⟩) ha hb
theorem ev_gtD (hr : ∀ i, Room k (Xs i).A) (hA : ∀ y : A, enc y ≠ PyData.none) (ha : EV Xs F G a m) (hb : EV Xs F G b n) (hl : LE.dp A ≤ 60 := by decide) (hK : ∀ i, (Xs i).K = K := by intro _; rfl) : EV Xs F G (.Compare a [.Gt] [b] pos) (gtDM m n) :=
  ev_cmp (r := rGtD K) (fun i => by rw [← hK i]; exact op_gtD (hr i).units) (rv_ltD (K := K) (g := fun d e => dataLt e d) hA hl fun x y H Q d e h1 h2 h3 h4 h5 q => ⟨d, e, h1, h2, h3, h4, h5, q⟩) ha hb
theorem et_gtD (hr : ∀ i, Room k (Xs i).A) (hA : ∀ y : A, enc y ≠ PyData.none) (ha : EV Xs F G a m) (hb : EV Xs F G b n) (hl : LE.dp A ≤ 60 := by decide) (hK : ∀ i, (Xs i).K = K := by intro _; rfl) : ET Xs F G (.Compare a [.Gt] [b] pos) (gtDM m n) :=
  et_cmp (r := rGtD K) (fun i => by rw [← hK i]; exact op_gtD (hr i).units) (rv_ltD (K := K) (g := fun d e => dataLt e d) hA hl fun x y H Q d e h1 h2 h3 h4 h5 q => ⟨d, e, h1, h2, h3, h4, h5, q⟩) ha hb
theorem ev_leD (hr : ∀ i, Room k (Xs i).A) (hA : ∀ y : A, enc y ≠ PyData.none) (ha : EV Xs F G a m) (hb : EV Xs F G b n) (hl : LE.dp A ≤ 60 := by decide) (hK : ∀ i, (Xs i).K = K := by intro _; rfl) : EV Xs F G (.Compare a [.LtE] [b] pos) (leDM m n) :=
  ev_cmp (r := rLeDD K) (fun i => by rw [← hK i]; exact op_leD (hr i).units) (rv_ltD (K := K) (g := fun d e => !dataLt e d) hA hl fun x y H Q d e h1 h2 h3 h4 h5 q => ⟨d, e, h1, h2, h3, h4, h5, q⟩) ha hb
theorem et_leD (hr : ∀ i, Room k (Xs i).A) (hA : ∀ y : A, enc y ≠ PyData.none) (ha : EV Xs F G a m) (hb : EV Xs F G b n) (hl : LE.dp A ≤ 60 := by decide) (hK : ∀ i, (Xs i).K = K := by intro _; rfl) : ET Xs F G (.Compare a [.LtE] [b] pos) (leDM m n) :=
  et_cmp (r := rLeDD K) (fun i => by rw [← hK i]; exact op_leD (hr i).units) (rv_ltD (K := K) (g := fun d e => !dataLt e d) hA hl fun x y H Q d e h1 h2 h3 h4 h5 q => ⟨d, e, h1, h2, h3, h4, h5, q⟩) ha hb
theorem ev_geD (hr : ∀ i, Room k (Xs i).A) (hA : ∀ y : A, enc y ≠ PyData.none) (ha : EV Xs F G a m) (hb : EV Xs F G b n) (hl : LE.dp A ≤ 60 := by decide) (hK : ∀ i, (Xs i).K = K := by intro _; rfl) : EV Xs F G (.Compare a [.GtE] [b] pos) (geDM m n) :=
  ev_cmp (r := rGeD K) (fun i => by rw [← hK i]; exact op_geD (hr i).units) (rv_ltD (K := K) (g := fun d e => !dataLt d e) hA hl fun x y H Q d e h1 h2 h3 h4 h5 q => ⟨d, e, h1, h2, h3, h4, h5, q⟩) ha hb
theorem et_geD (hr : ∀ i, Room k (Xs i).A) (hA : ∀ y : A, enc y ≠ PyData.none) (ha : EV Xs F G a m) (hb : EV Xs F G b n) (hl : LE.dp A ≤ 60 := by decide) (hK : ∀ i, (Xs i).K = K := by intro _; rfl) : ET Xs F G (.Compare a [.GtE] [b] pos) (geDM m n) :=
  et_cmp (r := rGeD K) (fun i => by rw [← hK i]; exact op_geD (hr i).units) (rv_ltD (K := K) (g := fun d e => !dataLt d e) hA hl fun x y H Q d e h1 h2 h3 h4 h5 q => ⟨d, e, h1, h2, h3, h4, h5, q⟩) ha hb
end
section
variable {I S A : Type} [Enc A] {Xs : I → Cx} {F : Fm S} {G : List Sl} {e : Expr}
/-- a pair of one type, as a tuple of items -/
def prTup (x : A × A) : Tup A := toTup [x.1, x.2]
theorem ev_prTup {m : M S (A × A)} (h : EV Xs F G e m) : EV Xs F G e (mapM1 prTup m) := ev_as prTup (fun _ => rfl) h
end
theorem nf8 : (∀ {S A : Type} [Enc A] (m n : M S A), ltDM m n = bindM m fun x => bindM n fun y => pureM (ltT x y)) ∧
    (∀ {S A : Type} [Enc A] (m n : M S A), gtDM m n = bindM m fun x => bindM n fun y => pureM (ltT y x)) ∧
    (∀ {S A : Type} [Enc A] (m n : M S A), leDM m n = bindM m fun x => bindM n fun y => pureM (!ltT y x)) ∧
    (∀ {S A : Type} [Enc A] (m n : M S A), geDM m n = bindM m fun x => bindM n fun y => pureM (!ltT x y)) := ⟨fun _ _ => rfl, fun _ _ => rfl, fun _ _ => rfl, fun _ _ => rfl⟩
end PL

namespace PL
open PySem L2 Enc
section
variable {I S A B : Type} {Xs : I → Cx} {F : Fm S} {G : List Sl} {pos p : Pos} {e a b : Expr} {K : PySem.W.Frag}
def inIM (m : M S Int) (n : M S (List Int)) : M S Bool := bin2 (fun x l => some (decide (x ∈ l))) m n
def ninIM (m : M S Int) (n : M S (List Int)) : M S Bool := bin2 (fun x l => some (!decide (x ∈ l))) m n
theorem rp_ints {Z : Addr → Prop} {H : Hp} : ∀ {l : List Int} {xs : List V}, RpL Z H xs (l.map enc) → xs = l.map V.int
  | [], _, r => by
    cases r
    rfl
  | i :: l, _, r => by
    cases r with
    | cons h t =>
      rw [rp_ints t, Rp.toInt h]
      rfl
theorem inV_int (i : Int) (l : List Int) : inV (.int i) (l.map V.int) = decide (i ∈ l) := by
  unfold inV
  induction l with
  | nil => rfl
  | cons j l ih =>
    rw [List.map_cons, List.any_cons, ih, Bool.eq_iff_iff, Bool.or_eq_true, decide_eq_true_eq, decide_eq_true_eq, List.mem_cons]
    refine or_congr ?_ Iff.rfl
    show (j == i) = true ↔ _
    rw [beq_iff_eq]
    exact eq_comm
theorem flat_ints (l : List Int) : (l.map V.int).all flatV = true := by
  rw [List.all_eq_true]
  intro x hx
  obtain ⟨i, _, rfl⟩ := List.mem_map.mp hx
  rfl
theorem rv_inI (neg : Bool) : RV2 (rIn K neg) (fun (x : Int) (l : List Int) => some (if neg then !decide (x ∈ l) else decide (x ∈ l))) := fun F Zx G s t H x y vx vy z gd rx ry e Q q => by
  cases e
  obtain rfl := rx.toInt
  obtain ⟨pp, xs, rfl, n, h, r⟩ := ry.toLst
  obtain rfl := rp_ints r
  refine ⟨pp, _, rfl, .inl (SqL.of h), rfl, flat_ints y, ?_⟩
  rw [inV_int]
  exact q _ H (Same.refl H) (.bl _)
variable {m : M S Int} {n : M S (List Int)}
theorem ev_inI (ha : EV Xs F G a m) (hb : EV Xs F G b n) (hm : behindInMarks .In b = false := by rfl) (hK : ∀ i, (Xs i).K = K := by intro _; rfl) : EV Xs F G (.Compare a [.In] [b] pos) (inIM m n) := ev_cmp (r := rIn K false) (fun i => by rw [← hK i]; exact op_in_seq) (rv_inI false) ha hb hm
theorem et_inI (ha : EV Xs F G a m) (hb : EV Xs F G b n) (hm : behindInMarks .In b = false := by rfl) (hK : ∀ i, (Xs i).K = K := by intro _; rfl) : ET Xs F G (.Compare a [.In] [b] pos) (inIM m n) := et_cmp (r := rIn K false) (fun i => by rw [← hK i]; exact op_in_seq) (rv_inI false) ha hb hm
theorem ev_ninI (ha : EV Xs F G a m) (hb : EV Xs F G b n) (hm : behindInMarks .NotIn b = false := by rfl) (hK : ∀ i, (Xs i).K = K := by intro _; rfl) : EV Xs F G (.Compare a [.NotIn] [b] pos) (ninIM m n) := ev_cmp (r := rIn K true) (fun i => by rw [← hK i]; exact op_notIn_seq) (rv_inI true) ha hb hm
theorem et_ninI (ha : EV Xs F G a m) (hb : EV Xs F G b n) (hm : behindInMarks .NotIn b = false := by rfl) (hK : ∀ i, (Xs i).K = K := by intro _; rfl) : ET Xs F G (.Compare a [.NotIn] [b] pos) (ninIM m n) := et_cmp (r := rIn K true) (fun i => by rw [← hK i]; exact op_notIn_seq) (rv_inI true) ha hb hm
end
theorem nf9 : (∀ {S : Type} (m : M S Int) (n : M S (List Int)), inIM m n = bindM m fun x => bindM n fun l => pureM (decide (x ∈ l))) ∧
    (∀ {S : Type} (m : M S Int) (n : M S (List Int)), ninIM m n = bindM m fun x => bindM n fun l => pureM (!decide (x ∈ l))) := ⟨fun _ _ => rfl, fun _ _ => rfl⟩
end PL

namespace PL
open PySem L2 Enc
abbrev PlanT := Tup (Tup (Int × Int) × Int)
inductive Cert where
  | plan (p : PlanT)
  | counts (c : Tup Int)
namespace Cert
def word : Cert → Str
  | plan _ => ("plan" : Str)
  | counts _ => ("counts" : Str)
def asPlan : Cert → Option PlanT
  | plan p => some p
  | counts _ => none
def asCounts : Cert → Option (Tup Int)
  | plan _ => none
  | counts c => some c
end Cert
instance : Enc Cert := ⟨fun x => match x with
  | .plan p => .tuple [.str "plan", enc p]
  | .counts c => .tuple [.str "counts", enc c]⟩
theorem cert_plan (p : PlanT) : enc (Cert.plan p) = enc ((("plan" : Str), p) : Str × PlanT) := rfl
theorem cert_counts (c : Tup Int) : enc (Cert.counts c) = enc ((("counts" : Str), c) : Str × Tup Int) := rfl
theorem ok_plan : PyData.strOk ("plan" : Str) = true := by decide +kernel
theorem ok_counts : PyData.strOk ("counts" : Str) = true := by decide +kernel
instance : LE Cert := ⟨max (LE.dp PlanT) (LE.dp (Tup Int)) + 1, fun x => by
  cases x with
  | plan p =>
    obtain ⟨h1, h2⟩ := LE.lay p
    exact ⟨by show PyData.canLay0 (.tuple [.str "plan", enc p]) = true; simp [PyData.canLay0, PyData.canLayAll0, h1, ok_plan], by show PyData.depth (.tuple [.str "plan", enc p]) ≤ _; simp only [PyData.depth, PyData.depthAll]; omega⟩
  | counts c =>
    obtain ⟨h1, h2⟩ := LE.lay c
    exact ⟨by show PyData.canLay0 (.tuple [.str "counts", enc c]) = true; simp [PyData.canLay0, PyData.canLayAll0, h1, ok_counts], by show PyData.depth (.tuple [.str "counts", enc c]) ≤ _; simp only [PyData.depth, PyData.depthAll]; omega⟩, fun x y => by
  cases x with
  | plan p =>
    cases y with
    | plan q =>
      show PyData.eqv (.tuple [.str "plan", enc p]) (.tuple [.str "plan", enc q]) = true ↔ _
      simp [PyData.eqv, PyData.eqvAll, LE.same p q]
    | counts c =>
      show PyData.eqv (.tuple [.str "plan", enc p]) (.tuple [.str "counts", enc c]) = true ↔ _
      simp [PyData.eqv, PyData.eqvAll]
      intro z
      exact absurd z (by decide)
  | counts c =>
    cases y with
    | plan q =>
      show PyData.eqv (.tuple [.str "counts", enc c]) (.tuple [.str "plan", enc q]) = true ↔ _
      simp [PyData.eqv, PyData.eqvAll]
      intro z
      exact absurd z (by decide)
    | counts d =>
      show PyData.eqv (.tuple [.str "counts", enc c]) (.tuple [.str "counts", enc d]) = true ↔ _
      simp [PyData.eqv, PyData.eqvAll, LE.same c d]⟩
instance : NNo Cert := ⟨fun y h => by cases y <;> exact PyData.noConfusion h⟩
section
variable {I S A B : Type} [Enc A] [Enc B] {Xs : I → Cx} {F : Fm S} {G : List Sl} {pos p : Pos} {e a : Expr} {K : PySem.W.Frag}
/-- a place of a tuple, where it is of that type -/
theorem ev_projO {m : M S A} {k : Nat} {j : Nat} {sp : Pos} (f : A → Option B) (hf : ∀ y z, f y = some z → ∃ ds, enc y = .tuple ds ∧ ds[k]? = some (enc z)) (ha : EV Xs F G a m) (hK : ∀ i, (Xs i).K = K := by intro _; rfl) :
    EV Xs F G (.Subscript a (.Constant (.int (k : Int)) j sp) pos) (fun1M f m) := by
  obtain ⟨ta, hp, hx⟩ := ha
  refine ⟨tOp (rIxT K) ta (tC (.int (k : Int))), fun i => by rw [← hK i]; exact pe_ix ix_tup (hp i) pe_int (fun _ _ => rfl), fun Zx t H s y s' g hm Q q => ?_⟩
  obtain ⟨z, s1, h1, h2⟩ := bind_some hm
  obtain ⟨h5, rfl⟩ := ofO_eq h2
  refine hx Zx t H s z s1 g h1 _ fun v H1 g1 f1 r1 => ?_
  obtain ⟨ds, e1, e2⟩ := hf z y h5
  rw [e1] at r1
  cases r1 with
  | tup n h l =>
    obtain ⟨u, h3, h4⟩ := l.get e2
    exact ⟨_, _, (k : Int), u, rfl, rfl, h.sq, atI_nat h3, q u H1 g1 f1 h4⟩
end
theorem word_at (y : Cert) : ∃ ds, enc y = .tuple ds ∧ ds[0]? = some (enc y.word) := by cases y <;> exact ⟨_, rfl, rfl⟩
theorem plan_at (y : Cert) (z : PlanT) (h : y.asPlan = some z) : ∃ ds, enc y = .tuple ds ∧ ds[1]? = some (enc z) := by
  cases y with
  | plan p =>
    obtain rfl := Option.some.inj h
    exact ⟨_, rfl, rfl⟩
  | counts c => cases h
theorem counts_at (y : Cert) (z : Tup Int) (h : y.asCounts = some z) : ∃ ds, enc y = .tuple ds ∧ ds[1]? = some (enc z) := by
  cases y with
  | plan p => cases h
  | counts c =>
    obtain rfl := Option.some.inj h
    exact ⟨_, rfl, rfl⟩
theorem cert_len (y : Cert) : ∃ ds, enc y = .tuple ds ∧ ds.length = 2 := by cases y <;> exact ⟨_, rfl, rfl⟩
def toPlanC (x : Str × PlanT) : Option Cert := if x.1 = ("plan" : Str) then some (.plan x.2) else none
def toCountsC (x : Str × Tup Int) : Option Cert := if x.1 = ("counts" : Str) then some (.counts x.2) else none
theorem toPlanC_enc (y : Str × PlanT) (z : Cert) (h : toPlanC y = some z) : enc z = enc y := by
  obtain ⟨w, p⟩ := y
  unfold toPlanC at h
  by_cases c : w = ("plan" : Str)
  · rw [if_pos c] at h
    cases h
    subst c
    rfl
  · rw [if_neg c] at h
    cases h
theorem toCountsC_enc (y : Str × Tup Int) (z : Cert) (h : toCountsC y = some z) : enc z = enc y := by
  obtain ⟨w, p⟩ := y
  unfold toCountsC at h
  by_cases c : w = ("counts" : Str)
  · rw [if_pos c] at h
    cases h
    subst c
    rfl
  · rw [if_neg c] at h
    cases h
section
variable {I S : Type} {Xs : I → Cx} {F : Fm S} {G : List Sl} {e : Expr}
theorem ev_toPlanC {m : M S (Str × PlanT)} (h : EV Xs F G e m) : EV Xs F G e (fun1M toPlanC m) := ev_of toPlanC toPlanC_enc h
theorem ev_toCountsC {m : M S (Str × Tup Int)} (h : EV Xs F G e m) : EV Xs F G e (fun1M toCountsC m) := ev_of toCountsC toCountsC_enc h
end
end PL

namespace PL
open PySem L2 Enc PyProof.Rows PySem.Spec
section
variable {prog : Program} {w : World} {A : Around} {E : Value → Shared → Prop} {s : Shared}
theorem zipLT_next_end {z TI TO i1 i2 l1 l2 : Addr} {k1 k2 : Nat} {xs ys : Array Value} {a b : Value} {Q : Fin → Shared → Prop} (hh : A.handled = none) (D : ZipApart z TI TO i1 i2 l1 l2)
    (hz : IsZip s.heap z TI TO .none) (hTI : IsPair s.heap TI (.ref i1) (.ref i2)) (hTO : IsPair s.heap TO a b)
    (h1 : s.heap.IsListIter i1 l1 k1) (h2 : s.heap.IsTupleIter i2 l2 k2) (hl1 : s.heap.IsList l1 xs) (hl2 : s.heap.IsTuple l2 ys) (hend : xs[k1]? = none ∨ ys[k2]? = none)
    (hE : ∀ h' e, (∀ c o, c ≠ z → c ≠ TO → c ≠ i1 → c ≠ i2 → s.heap.get? c = some o → h'.get? c = some o) → (∃ o, h'.get? e = some o ∧ o.cls = .type "StopIteration") → E (.ref e) { s with heap := h' }) :
    wpAny (model prog w) A (Builtin.«zip.__next__» ⟨[.ref z], []⟩) Q E s := by
  show wpAny _ _ (field (.ref z) 2 >>= _) _ _ _
  refine wpAny_bind (wpAny_field hz rfl (x := .bool false) rfl ?_)
  show wpAny _ _ (field (.ref z) 3 >>= _) _ _ _
  refine wpAny_bind (wpAny_field hz rfl (x := .ref TI) rfl ?_)
  refine wpAny_bind (wpAny_seqItems hTI rfl ?_)
  show wpAny _ _ (Builtin.SmallTypes.ownedTupleIsFree (.ref z) >>= _) _ _ _
  refine wpAny_bind ?_
  unfold Builtin.SmallTypes.ownedTupleIsFree
  refine wpAny_bind (wpAny_field hz rfl (x := .none) rfl (wpAny_pure ?_))
  simp only [if_true]
  refine wpAny_bind (wpAny_rule ?_)
  refine wpAny_bind (wpAny_field hz rfl (x := .ref TO) rfl ?_)
  refine wpAny_bind (wpAny_setField_rec hz (by simp) fun h₁ hz₁ hs₁ => ?_)
  replace hz₁ : IsZip h₁ z TI TO .ellipsis := hz₁
  refine wpAny_bind ?_
  simp only [List.zipIdx_cons, List.zipIdx_nil, List.forIn_cons, List.forIn_nil]
  refine wpAny_bind (wpAny_bind (wpAny_onRaise ?_))
  show wpAny _ _ (Builtin.SmallTypes.nextOf (.ref i1) >>= _) _ _ _
  cases hx : xs[k1]? with
  | none =>
    refine wpAny_bind (wpAny_nextOf_list_end hh (h1.extBut hs₁.extBut D.i1z) (hl1.extBut hs₁.extBut D.l1z) hx fun h₂ e hs₂ he => ?_)
    obtain ⟨oe, hoe, hce⟩ := he
    have hz₂ : IsZip h₂ z TI TO .ellipsis := hs₂ _ _ D.i1z.symm hz₁
    have hez : e ≠ z := fun x => by subst x; rw [hz₂] at hoe; cases hoe; simp at hce
    refine wpAny_setField_rec hz₂ (by simp) fun h₃ _ hs₃ => hE h₃ e (fun c o c1 _ c3 _ x => hs₃.extBut _ _ c1 (hs₂ _ _ c3 (hs₁.extBut _ _ c1 x))) ⟨oe, hs₃.extBut _ _ hez hoe, hce⟩
  | some x =>
    have hy : ys[k2]? = none := by rcases hend with h | h; rw [hx] at h; cases h; exact h
    refine wpAny_bind (wpAny_nextOf_list_item (h1.extBut hs₁.extBut D.i1z) (hl1.extBut hs₁.extBut D.l1z) hx fun h₂ h1₂ hs₂ => wpAny_pure ?_)
    have hTO₂ : IsPair h₂ TO a b := hs₂.extBut _ _ D.TOi1 (hs₁.extBut _ _ D.TOz hTO)
    refine wpAny_bind (wpAny_seqItems hTO₂ rfl ?_)
    refine wpAny_bind (wpAny_updateSeq_pair hTO₂ fun h₃ hTO₃ hs₃ => ?_)
    refine wpAny_bind (wpAny_letGo (wpAny_pure ?_))
    refine wpAny_bind (wpAny_bind (wpAny_onRaise ?_))
    show wpAny _ _ (Builtin.SmallTypes.nextOf (.ref i2) >>= _) _ _ _
    refine wpAny_bind (RZ.nextOf_tuple_end hh (((h2.extBut hs₁.extBut D.i2z).extBut hs₂.extBut D.i12.symm).extBut hs₃.extBut D.TOi2.symm)
      (((hl2.extBut hs₁.extBut D.l2z).extBut hs₂.extBut D.l2i1).extBut hs₃.extBut D.l2TO) hy fun h₄ e hs₄ he => ?_)
    obtain ⟨oe, hoe, hce⟩ := he
    have hz₄ : IsZip h₄ z TI TO .ellipsis := hs₄ _ _ D.i2z.symm (hs₃.extBut _ _ D.TOz.symm (hs₂.extBut _ _ D.i1z.symm hz₁))
    have hez : e ≠ z := fun x => by subst x; rw [hz₄] at hoe; cases hoe; simp at hce
    refine wpAny_setField_rec hz₄ (by simp) fun h₅ _ hs₅ => hE h₅ e (fun c o c1 c2 c3 c4 x => hs₅.extBut _ _ c1 (hs₄ _ _ c4 (hs₃.extBut _ _ c2 (hs₂.extBut _ _ c3 (hs₁.extBut _ _ c1 x))))) ⟨oe, hs₅.extBut _ _ hez hoe, hce⟩
theorem pyNext_zipLT_end {z TI TO i1 i2 l1 l2 : Addr} {k1 k2 : Nat} {xs ys : Array Value} {a b : Value} {Q : Option Value → Shared → Prop} (hh : A.handled = none) (D : ZipApart z TI TO i1 i2 l1 l2)
    (hz : IsZip s.heap z TI TO .none) (hTI : IsPair s.heap TI (.ref i1) (.ref i2)) (hTO : IsPair s.heap TO a b)
    (h1 : s.heap.IsListIter i1 l1 k1) (h2 : s.heap.IsTupleIter i2 l2 k2) (hl1 : s.heap.IsList l1 xs) (hl2 : s.heap.IsTuple l2 ys) (hend : xs[k1]? = none ∨ ys[k2]? = none)
    (hQ : ∀ h', (∀ c o, c ≠ z → c ≠ TO → c ≠ i1 → c ≠ i2 → s.heap.get? c = some o → h'.get? c = some o) → Q none { s with heap := h' }) : wpAny (model prog w) A (pyNext (.ref z)) Q E s := by
  have hT : s.TypeIs (.ref z) "zip" := ⟨_, hz, rfl⟩
  unfold pyNext
  refine wpAny_bind (wpAny_attempt (wpAny_callSpecial?_slot (name := Str.ofString "__next__") hT F.slot_zip_next
    (wpAny_call_entry F.slot_zip_next hT F.entry_zip_next (zipLT_next_end (A := A.in1) (show A.in1.handled = none from hh) D hz hTI hTO h1 h2 hl1 hl2 hend fun h' e hk he => ?_) (F.args_zip_next_1 _))))
  obtain ⟨o, ho, hc⟩ := he
  refine wpAny_bind (wpAny_isInstance (T := "StopIteration") (b := true) ⟨o, ho, hc⟩ isSubtype_stop ?_)
  exact wpAny_pure (hQ _ hk)
end
/-- the tuples at a and b as they stand at each turn, the items in new pairs -/
def ItzLT (K : PySem.W.Frag) (a b : Addr) : It :=
  ⟨fun i H => ∃ (xs ys : List V) (x y : V), SqL K H a xs ∧ SqT K H b ys ∧ xs[i]? = some x ∧ ys[i]? = some y,
    fun i H v H' => ∃ T x y, v = .ref T ∧ H T = none ∧ H' = upd H T (.tup [x, y]) ∧ (∀ xs, SqL K H a xs → xs[i]? = some x) ∧ ∀ ys, SqT K H b ys → ys[i]? = some y,
    fun i H => ∃ xs ys : List V, SqL K H a xs ∧ SqT K H b ys ∧ (xs.length ≤ i ∨ ys.length ≤ i)⟩
theorem turn_zipLT {P : Program} {w : World} {K : PySem.W.Frag} {elts : List Expr} {kk : Nat} {tpos : Pos} {a b z TI TO i1 i2 : Addr} (D : ZipApart z TI TO i1 i2 a b) :
    Turn P w K (.Tuple elts kk tpos) (ItzLT K a b) [z, TI, TO, i1, i2] z (fun i h => IsZip h z TI TO .none ∧ IsPair h TI (.ref i1) (.ref i2) ∧ (∃ x y, IsPair h TO x y) ∧ h.IsListIter i1 a i ∧ h.IsTupleIter i2 b i) where
  mem := by simp
  obj := fun i h st c hc => by
    obtain ⟨hz, hTI, ⟨x, y, hTO⟩, ⟨o1, e1, _, d1⟩, ⟨o2, e2, _, d2⟩⟩ := st
    have e' : c = z ∨ c = TI ∨ c = TO ∨ c = i1 ∨ c = i2 := by simpa using hc
    rcases e' with q | q | q | q | q
    · rw [q]; exact ⟨_, hz, fun v q => nomatch q⟩
    · rw [q]; exact ⟨_, hTI, fun v q => nomatch q⟩
    · rw [q]; exact ⟨_, hTO, fun v q => nomatch q⟩
    · rw [q]; exact ⟨o1, e1, fun v q => by rw [d1] at q; cases q⟩
    · rw [q]; exact ⟨o2, e2, fun v q => by rw [d2] at q; cases q⟩
  keep := fun i h h' st k => by
    obtain ⟨hz, hTI, ⟨x, y, hTO⟩, h1, h2⟩ := st
    exact ⟨k z (by simp) _ hz, k TI (by simp) _ hTI, ⟨x, y, k TO (by simp) _ hTO⟩, h1.at fun o q => k i1 (by simp) o q, h2.at fun o q => k i2 (by simp) o q⟩
  item := by
    intro X hP hw hK hc i pins s σ H E I hf st hg
    subst hP hw hK
    obtain ⟨hz, hTI, ⟨x0, y0, hTO⟩, h1, h2⟩ := st
    obtain ⟨xs, ys, x, y, hqx, hqy, hx, hy⟩ := hg
    obtain ⟨its, rv, p, _⟩ := I.list hqx
    obtain ⟨its2, rv2, p2, _⟩ := I.tuple hqy
    obtain ⟨u, hu, ru⟩ := rv.get hx
    obtain ⟨u2, hu2, ru2⟩ := rv2.get hy
    have hzl : z < s.heap.objs.size := Heap.lt_size hz
    have px : s.heap.IsList a its.toArray := p.isList
    have py : s.heap.IsTuple b its2.toArray := p2
    have sz1 : i < its.toArray.size := by
      obtain ⟨q, _⟩ := List.getElem?_eq_some_iff.mp hu
      simpa using q
    have sz2 : i < its2.toArray.size := by
      obtain ⟨q, _⟩ := List.getElem?_eq_some_iff.mp hu2
      simpa using q
    have S : ZipSep2 z TI TO i1 i2 [i1, a] [i2, b] := { TIz := D.TIz, TOz := D.TOz, TITO := D.TITO, TIi1 := D.TIi1, mem1 := List.mem_cons_self, zf1 := (by simp [D.i1z.symm, D.l1z.symm]), Tf1 := (by simp [D.TOi1, D.l1TO.symm]), TIi2 := D.TIi2, mem2 := List.mem_cons_self, zf2 := (by simp [D.i2z.symm, D.l2z.symm]), Tf2 := (by simp [D.TOi2, D.l2TO.symm]), sep1_2 := (by simp [D.i12, D.l2i1.symm]), sep2_1 := (by simp [D.i12.symm, D.l1i2.symm]) }
    have D1 : Draws X.prog X.w X.A.in1 i1 [i1, a] its.toArray.size (fun k v => its.toArray[k]? = some v) (fun k h => h.IsListIter i1 a k ∧ h.IsList a its.toArray) := Draws.list (A := X.A.in1) (show X.A.in1.handled = none from I.ok.hd hc) i1 a D.l1i1 its.toArray
    have D2 : Draws X.prog X.w X.A.in1 i2 [i2, b] its2.toArray.size (fun k v => its2.toArray[k]? = some v) (fun k h => h.IsTupleIter i2 b k ∧ h.IsTuple b its2.toArray) := Draws.tuple (A := X.A.in1) (show X.A.in1.handled = none from I.ok.hd hc) i2 b D.l2i2 its2.toArray
    refine wpAny_pyNext_zipD2_item S D1 D2 hz hTI hTO ⟨h1, px⟩ ⟨h2, py⟩ sz1 sz2 fun u' u2' h' tk e1 e2 z' TO' h1'' h2'' hT hsz hk => ?_
    have eu : u' = u := by
      have : its.toArray[i]? = some u := by simpa using hu
      have e1 : its.toArray[i]? = some u' := e1
      rw [this] at e1
      exact (Option.some.inj e1).symm
    have eu2 : u2' = u2 := by
      have : its2.toArray[i]? = some u2 := by simpa using hu2
      have e2 : its2.toArray[i]? = some u2' := e2
      rw [this] at e2
      exact (Option.some.inj e2).symm
    subst eu eu2
    have h1' := h1''.1
    have h2' := h2''.1
    refine ⟨_, rfl, wpAny_letOwnedTupleGo_zip (s := { s with heap := h', toks := tk }) z' fun h'' z'' sb => ?_⟩
    have hT2 : h''.get? s.heap.objs.size = some { cls := .type "tuple", data := .seq #[u', u2'] } := (sb.2 _ (Nat.ne_of_gt hzl)).trans hT
    have new : ObjOk X.prog X.w (upd H s.heap.objs.size (.tup [x, y])) h'' s.heap.objs.size (.tup [x, y]) :=
      ⟨by show 2 ≤ sizeLine; decide, [u', u2'], .cons ru (.cons ru2 .nil), ⟨_, hT2, rfl, _, rfl⟩⟩
    have I1 : Inv X pins σ (upd H s.heap.objs.size (.tup [x, y])) { s with heap := h'', toks := tk } :=
      I.turnedNew (t' := tk) (ch := [z, TI, TO, i1, i2]) (fun c o hb q => (sb.2 c (fun q' => hb (by simp [q']))).trans (hk c o (fun q' => hb (by simp [q'])) (fun q' => hb (by simp [q'])) (fun q' => hb (by simp [q'])) (fun q' => hb (by simp [q'])) q)) hf (Nat.le_refl _) new
    refine ⟨.ref s.heap.objs.size, _, I1, rfl, ⟨_, x, y, rfl, I.hok.fresh (Nat.le_refl _), rfl, fun l hl => by rw [I.list_inj hl hqx]; exact hx, fun l hl => by rw [I.tuple_inj hl hqy]; exact hy⟩, ⟨z'', ?_, ⟨u', u2', ?_⟩, ?_, ?_⟩, fun c hcm => ?_⟩
    · exact (sb.2 _ D.TIz).trans (hk _ _ D.TIz D.TITO D.TIi1 D.TIi2 hTI)
    · exact (sb.2 _ D.TOz).trans TO'
    · exact h1'.at fun o q => (sb.2 _ D.i1z).trans q
    · exact h2'.at fun o q => (sb.2 _ D.i2z).trans q
    · have hlt : c < s.heap.objs.size := by
        have e' : c = z ∨ c = TI ∨ c = TO ∨ c = i1 ∨ c = i2 := by simpa using hcm
        rcases e' with q | q | q | q | q
        · rw [q]; exact hzl
        · rw [q]; exact Heap.lt_size hTI
        · rw [q]; exact Heap.lt_size hTO
        · rw [q]; obtain ⟨_, e1, _⟩ := h1; exact Heap.lt_size e1
        · rw [q]; obtain ⟨_, e2, _⟩ := h2; exact Heap.lt_size e2
      rw [upd_ne (Nat.ne_of_lt hlt)]
      exact (hf c hcm).1
  done := by
    intro X hP hw hK hc i pins s σ H E I hf st hg
    subst hP hw hK
    obtain ⟨hz, hTI, ⟨x0, y0, hTO⟩, h1, h2⟩ := st
    obtain ⟨xs, ys, hqx, hqy, hend⟩ := hg
    obtain ⟨its, rv, p, _⟩ := I.list hqx
    obtain ⟨its2, rv2, p2, _⟩ := I.tuple hqy
    have l1 := rv.length
    have l2 := rv2.length
    have he : its.toArray[i]? = none ∨ its2.toArray[i]? = none := by
      rcases hend with q | q
      · exact .inl (by simp; omega)
      · exact .inr (by simp; omega)
    exact pyNext_zipLT_end (I.ok.hd hc) D hz hTI hTO h1 h2 p.isList p2 he fun h' hk => ⟨rfl, I.turnedL (t' := s.toks) (ch := [z, TI, TO, i1, i2]) (fun c o hb q =>
      hk c o (fun q' => hb (by simp [q'])) (fun q' => hb (by simp [q'])) (fun q' => hb (by simp [q'])) (fun q' => hb (by simp [q'])) q) hf⟩
  self := fun A i s Q E st h => wpAny_pyIter_zip st.1 h
abbrev zipLTH1 (h : Heap) (l1 : Addr) : Heap := h.push { cls := .type "list_iterator", data := .fields #[.ref l1, .int 0 0] }
abbrev zipLTH2 (h : Heap) (l1 l2 : Addr) : Heap := (zipLTH1 h l1).push { cls := .type "tuple_iterator", data := .fields #[.ref l2, .int 0 0] }
abbrev zipLTH3 (h : Heap) (l1 l2 : Addr) : Heap := (zipLTH2 h l1 l2).push { cls := .type "tuple", data := .seq #[.ref h.objs.size, .ref (zipLTH1 h l1).objs.size] }
abbrev zipLTH4 (h : Heap) (l1 l2 : Addr) : Heap := (zipLTH3 h l1 l2).push { cls := .type "tuple", data := .seq #[.none, .none] }
abbrev zipLTH5 (h : Heap) (l1 l2 : Addr) : Heap := (zipLTH4 h l1 l2).push { cls := .type "zip", data := .fields #[.none, .bool false, .bool false, .ref (zipLTH2 h l1 l2).objs.size, .ref (zipLTH3 h l1 l2).objs.size] }

theorem meets_zipLT_new (l1 l2 : Addr) (xs ys : Array Value) :
    Meets (Builtin.«zip.__new__» ⟨[.type "zip", .ref l1, .ref l2], []⟩) (fun _ R s => s.heap.IsList l1 xs ∧ s.heap.IsTuple l2 ys ∧
      R (.ok (.ret (.ref (zipLTH4 s.heap l1 l2).objs.size))) { s with heap := zipLTH5 s.heap l1 l2 }) :=
  .of_wp fun prog w A R s h => by
    obtain ⟨hp, g, d, tk, os⟩ := s; obtain ⟨hl1, hl2, h⟩ := h
    have hsub := sub_zip
    have hL1 : Heap.IsList (Shared.heap ⟨hp, g, d, tk, os⟩) l1 xs := hl1
    have hL2 : Heap.IsTuple (Shared.heap ⟨hp.push { cls := .type "list_iterator", data := .fields #[.ref l1, .int 0 0] }, g, d, tk, os⟩) l2 ys := Heap.IsTuple.push hl2 _
    wp_walk using wpAny_pyIter_list hL1, wpAny_pyIter_tuple hL2
    exact ⟨_, rfl, h⟩

section
variable {prog : Program} {w : World} {A : Around} {E : Value → Shared → Prop} {s : Shared}

theorem call_zipLT {l1 l2 : Addr} {xs ys : Array Value} {Q : Value → Shared → Prop} (hl1 : s.heap.IsList l1 xs) (hl2 : s.heap.IsTuple l2 ys)
    (h : ∀ h', IsZip h' (s.heap.objs.size + 4) (s.heap.objs.size + 2) (s.heap.objs.size + 3) .none → IsPair h' (s.heap.objs.size + 2) (.ref s.heap.objs.size) (.ref (s.heap.objs.size + 1)) →
      IsPair h' (s.heap.objs.size + 3) .none .none → h'.IsListIter s.heap.objs.size l1 0 → h'.IsTupleIter (s.heap.objs.size + 1) l2 0 → h'.objs.size = s.heap.objs.size + 5 →
      (∀ c o, s.heap.get? c = some o → h'.get? c = some o) → Q (.ref (s.heap.objs.size + 4)) { s with heap := h' }) :
    wpAny (model prog w) A (call (.type "zip") [.ref l1, .ref l2]) Q E s := by
  refine callType_new F.called_zip (by decide) (F.typeCall_zip_2 _ _) (F.newCall_zip_2 _ _) (fun obj => F.args_object_init_3 obj _ _) F.entry_zip_new
    (meets_zipLT_new l1 l2 xs ys) ⟨hl1, hl2, ?_⟩
  have z1 : (zipLTH1 s.heap l1).objs.size = s.heap.objs.size + 1 := Heap.size_push ..
  have z2 : (zipLTH2 s.heap l1 l2).objs.size = s.heap.objs.size + 2 := by rw [Heap.size_push, z1]
  have z3 : (zipLTH3 s.heap l1 l2).objs.size = s.heap.objs.size + 3 := by rw [Heap.size_push, z2]
  have z4 : (zipLTH4 s.heap l1 l2).objs.size = s.heap.objs.size + 4 := by rw [Heap.size_push, z3]
  have z5 : (zipLTH5 s.heap l1 l2).objs.size = s.heap.objs.size + 5 := by rw [Heap.size_push, z4]
  have g5 : (zipLTH5 s.heap l1 l2).get? (zipLTH4 s.heap l1 l2).objs.size = some _ := Heap.get?_push_size _ rfl
  have g4 : (zipLTH5 s.heap l1 l2).get? (zipLTH3 s.heap l1 l2).objs.size = some _ := Heap.get?_push_of_some _ (Heap.get?_push_size _ rfl)
  have g3 : (zipLTH5 s.heap l1 l2).get? (zipLTH2 s.heap l1 l2).objs.size = some _ := Heap.get?_push_of_some _ (Heap.get?_push_of_some _ (Heap.get?_push_size _ rfl))
  have g2 : (zipLTH5 s.heap l1 l2).get? (zipLTH1 s.heap l1).objs.size = some _ := Heap.get?_push_of_some _ (Heap.get?_push_of_some _ (Heap.get?_push_of_some _ (Heap.get?_push_size _ rfl)))
  have g1 : (zipLTH5 s.heap l1 l2).get? s.heap.objs.size = some _ := Heap.get?_push_of_some _ (Heap.get?_push_of_some _ (Heap.get?_push_of_some _ (Heap.get?_push_of_some _ (Heap.get?_push_size _ rfl))))
  show _ ∧ _
  rw [z2, z3, z4] at g5
  rw [z1, z2] at g3
  rw [z3] at g4
  rw [z1] at g2
  rw [z4]
  exact ⟨⟨_, g5, rfl⟩, h _ g5 g3 g4 ⟨_, g1, rfl, rfl⟩ ⟨_, g2, rfl, rfl⟩ z5 fun c o x =>
    Heap.get?_push_of_some _ (Heap.get?_push_of_some _ (Heap.get?_push_of_some _ (Heap.get?_push_of_some _ (Heap.get?_push_of_some _ x))))⟩
end
def iZipLT (K : PySem.W.Frag) (ta : TA) : TI := fun σ H R => ta σ H fun vs H1 => ∃ a b xs ys, vs = [.ref a, .ref b] ∧ SqL K H1 a xs ∧ SqT K H1 b ys ∧ R (ItzLT K a b) H1
theorem pi_zipLT {X : Cx} {e e2 : Expr} {ta : TA} {p pos tpos : Pos} {elts : List Expr} {kk : Nat} (hg : Gl X "zip") (hm : X.mg "zip" = none) (ha : PA X [e, e2] ta)
    (hs : starEach [e, e2] X.env = (false, eval e X.env) :: starEach [e2] X.env := by rfl) (hpl : (backTo pos (starEach [e2] X.env)).any (·.1) = false := by rfl) :
    PI X (.Tuple elts kk tpos) (.Call (.Name "zip" p) [e, e2] [] pos) (iZipLT X.K ta) := by
  refine ⟨fun pins s σ H R I h => ?_⟩
  refine Call_ (ld_blt I hg hm PyProof.Rows.boot_zip (PyProof.Rows.callWith_type1 (thn (ha.run pos pins s σ H _ I h) fun us s1 ⟨vs, H1, I1, r1, q1⟩ => ?_) hs hpl))
  obtain ⟨a, b, xs, ys, ex, hqx, hqy, q⟩ := q1
  subst ex
  cases r1 with
  | cons r rr =>
    cases rr with
    | cons r' rr =>
      cases rr
      cases r
      cases r'
      have fresh5 : ∀ c, c ∈ [s1.heap.objs.size + 4, s1.heap.objs.size + 2, s1.heap.objs.size + 3, s1.heap.objs.size, s1.heap.objs.size + 1] → FpOk X pins H1 c := fun c hcm => by
        have e' : c = s1.heap.objs.size + 4 ∨ c = s1.heap.objs.size + 2 ∨ c = s1.heap.objs.size + 3 ∨ c = s1.heap.objs.size ∨ c = s1.heap.objs.size + 1 := by simpa using hcm
        have hle : s1.heap.objs.size ≤ c := by
          rcases e' with z | z | z | z | z
          · rw [z]; exact Nat.le_add_right _ _
          · rw [z]; exact Nat.le_add_right _ _
          · rw [z]; exact Nat.le_add_right _ _
          · rw [z]; exact Nat.le_refl _
          · rw [z]; exact Nat.le_add_right _ _
        exact I1.fpOk hle (I1.hok.fresh hle)
      obtain ⟨its, rv, p1, _⟩ := I1.list hqx
      obtain ⟨its2, rv2, p2, _⟩ := I1.tuple hqy
      obtain ⟨o2, ho2, _⟩ := id p2
      refine call_zipLT p1.isList (show s1.heap.IsTuple b its2.toArray from p2) fun h' hz hTI hTO h1 h2 hsz hk => wpAny_pyIter_zip hz ?_
      have I2 : Inv X pins σ H1 { s1 with heap := h' } := I1.kept (t' := s1.toks) hk
      exact ⟨s1.heap.objs.size + 4, [s1.heap.objs.size + 4, s1.heap.objs.size + 2, s1.heap.objs.size + 3, s1.heap.objs.size, s1.heap.objs.size + 1], _, _, H1, rfl, I2, turn_zipLT (PySem.W.ktu_apart s1.heap.objs.size a b p1.lt (Heap.lt_size ho2)), ⟨hz, hTI, ⟨_, _, hTO⟩, h1, h2⟩, fresh5, q⟩
section
variable {I S A B C : Type} [Enc A] [Enc B] [Enc C] {Xs : I → Cx} {F : Fm S} {G G' : List Sl} {pos p : Pos} {e a b tg iter : Expr} {es : List Expr}
theorem iv_zipLT {m : M S (List A)} {n : M S (Tup B)} {elts : List Expr} {kk : Nat} {tpos : Pos} (hm : ∀ i, (Xs i).mg "zip" = none) (h : EV Xs F G a m) (h' : EV Xs F G b n) (hg : ∀ i, Gl (Xs i) "zip" := by intro _; rfl)
    (hs1 : ∀ i, starEach [a, b] (Xs i).env = (false, eval a (Xs i).env) :: starEach [b] (Xs i).env := by intro _; rfl) (hs2 : ∀ i, starEach [b] (Xs i).env = (false, eval b (Xs i).env) :: starEach [] (Xs i).env := by intro _; rfl)
    (hpl : ∀ i, (backTo pos (starEach [b] (Xs i).env)).any (·.1) = false := by intro _; rfl) {K : PySem.W.Frag} (hK : ∀ i, (Xs i).K = K := by intro _; rfl) : IV Xs F G (.Tuple elts kk tpos) (.Call (.Name "zip" p) [a, b] [] pos) (zipM m (mapM1 unTup n)) := by
  obtain ⟨te, hp, ho⟩ := h
  obtain ⟨tf, hp', ho'⟩ := h'
  refine ⟨iZipLT K (tCons te (tCons tf tNil)), fun i => by rw [← hK i]; exact pi_zipLT (hg i) (hm i) (pa_cons (hp i) (pa_cons (hp' i) pa_nil (hs2 i)) (hs1 i)) (hs1 i) (hpl i), fun Zx t H s l s' g hm' R q => ?_⟩
  obtain ⟨z, s1, h1, h2⟩ := bind_some hm'
  obtain ⟨y, s2, h3, h4⟩ := bind_some h2
  obtain ⟨y0, s3, k3, q1⟩ := bind_some h3
  obtain ⟨rfl, rfl⟩ := pure_eq q1
  obtain ⟨rfl, rfl⟩ := pure_eq h4
  refine ho Zx t H s z _ g h1 _ fun v H1 g1 f1 r1 => ?_
  refine ho' Zx t H1 _ y0 _ g1 k3 _ fun v2 H2 g2 f2 r2 => ?_
  obtain ⟨p1, xs, rfl, n1, e1, l1⟩ := (r1.fix f2).toLst
  obtain ⟨p2, ys, rfl, n2, e2, l2⟩ := r2.toTup
  refine ⟨p1, p2, xs, ys, rfl, SqL.of e1, e2.sq, q _ H2 g2 (f1.trans f2) fun Z' H3 ex tr => ⟨fun i x hx => ?_, fun i hi => ?_⟩⟩
  · obtain ⟨x1, x2⟩ := x
    rw [List.getElem?_zip_eq_some] at hx
    obtain ⟨hx1, hx2⟩ := hx
    have kk1 := ex.1 _ _ n1 e1
    have kk2 := e2.at_ fun o q => ex.1 _ o n2 q
    obtain ⟨y1, hy1, ry1⟩ := (l1.ext ex).get (i := i) (x := enc x1) (by rw [List.getElem?_map, hx1]; rfl)
    obtain ⟨y2, hy2, ry2⟩ := (l2.ext ex).get (i := i) (x := enc x2) (by rw [List.getElem?_map, hx2]; rfl)
    refine ⟨⟨xs, ys, y1, y2, SqL.of kk1, kk2.sq, hy1, hy2⟩, fun v H' hyl => ?_⟩
    obtain ⟨T, w1, w2, rfl, hT, rfl, q1, q2⟩ := hyl
    have e3 := q1 xs (SqL.of kk1)
    have e4 := q2 ys (kk2.sq)
    rw [hy1] at e3
    rw [hy2] at e4
    cases e3
    cases e4
    exact ⟨same_new hT, Gd.fresh_tup tr hT (.cons ry1 (.cons ry2 .nil))⟩
  · refine ⟨xs, ys, SqL.of (ex.1 _ _ n1 e1), (e2.at_ fun o q => ex.1 _ o n2 q).sq, ?_⟩
    rw [l1.len, l2.len, List.length_map, List.length_map]
    rw [List.length_zip] at hi
    omega
end
end PL

namespace K10
open PySem L2 PL PL.Enc
def topS (i : Nat) : Stmt := PySem.Challenge.pw_canpath_k10_certificates_returned.main.body.getD i (.Pass ⟨0, 0, 0, 0⟩)
section
variable {P : Program} {w : World} {K : PySem.W.Frag} {mg : Str → Option Value} {base : Heap}
structure Txt (K : PySem.W.Frag) (mg : Str → Option Value) : Prop where
  d_litres_from : ∃ f fd, Fun K "litres_from" "litres_from" (topS 3) f fd ∧ mg "litres_from" = some (.ref f) ∧ Binds K fd ["beds", "low", "high"] []
  d_stretches_of : ∃ f fd, Fun K "stretches_of" "stretches_of" (topS 4) f fd ∧ mg "stretches_of" = some (.ref f) ∧ Binds K fd ["garden"] []
  d_cans_for : ∃ f fd, Fun K "cans_for" "cans_for" (topS 8) f fd ∧ mg "cans_for" = some (.ref f) ∧ Binds K fd ["litres", "can"] []
  d_counts_of : ∃ f fd, Fun K "counts_of" "counts_of" (topS 9) f fd ∧ mg "counts_of" = some (.ref f) ∧ Binds K fd ["garden"] []
  d_way_by : ∃ f fd, Fun K "way_by" "way_by" (topS 10) f fd ∧ mg "way_by" = some (.ref f) ∧ Binds K fd ["garden", "counts"] []
  d_least_way : ∃ f fd, Fun K "least_way" "least_way" (topS 11) f fd ∧ mg "least_way" = some (.ref f) ∧ Binds K fd ["garden"] []
  d_packed : ∃ f fd, Fun K "packed" "packed" (topS 12) f fd ∧ mg "packed" = some (.ref f) ∧ Binds K fd ["rows", "can"] []
  d_litres_in : ∃ f fd, Fun K "litres_in" "litres_in" (topS 13) f fd ∧ mg "litres_in" = some (.ref f) ∧ Binds K fd ["rows"] []
  d_put_together : ∃ f fd, Fun K "put_together" "put_together" (topS 14) f fd ∧ mg "put_together" = some (.ref f) ∧ Binds K fd ["one", "other", "can"] []
  d_best_plan : ∃ f fd, Fun K "best_plan" "best_plan" (topS 15) f fd ∧ mg "best_plan" = some (.ref f) ∧ Binds K fd ["garden"] []
  d_certificate : ∃ f fd, Fun K "certificate" "certificate" (topS 16) f fd ∧ mg "certificate" = some (.ref f) ∧ Binds K fd ["garden", "number"] []
  d__law_draws : ∃ f fd, Fun K "_law_draws" "_law_draws" (topS 18) f fd ∧ mg "_law_draws" = some (.ref f) ∧ Binds K fd ["_law_script"] []
  d__law_next : ∃ f fd, Fun K "_law_next" "_law_next" (topS 19) f fd ∧ mg "_law_next" = some (.ref f) ∧ Binds K fd ["_law_state", "_law_many"] []
  d__law_one : ∃ f fd, Fun K "_law_one" "_law_one" (topS 20) f fd ∧ mg "_law_one" = some (.ref f) ∧ Binds K fd ["_law_state", "_law_items"] []
  d__law_garden : ∃ f fd, Fun K "_law_garden" "_law_garden" (topS 21) f fd ∧ mg "_law_garden" = some (.ref f) ∧ Binds K fd ["_law_state", "_law_most", "_law_way"] []
  d__law_beyond : ∃ f fd, Fun K "_law_beyond" "_law_beyond" (topS 22) f fd ∧ mg "_law_beyond" = some (.ref f) ∧ Binds K fd ["_law_garden_here"] []
  d__law_least : ∃ f fd, Fun K "_law_least" "_law_least" (topS 23) f fd ∧ mg "_law_least" = some (.ref f) ∧ Binds K fd ["_law_garden_here"] []
  d__law_is_trip : ∃ f fd, Fun K "_law_is_trip" "_law_is_trip" (topS 24) f fd ∧ mg "_law_is_trip" = some (.ref f) ∧ Binds K fd ["_law_garden_here", "_law_value"] []
  d__law_trip_way : ∃ f fd, Fun K "_law_trip_way" "_law_trip_way" (topS 25) f fd ∧ mg "_law_trip_way" = some (.ref f) ∧ Binds K fd ["_law_garden_here", "_law_trip"] []
  d__law_plan : ∃ f fd, Fun K "_law_plan" "_law_plan" (topS 26) f fd ∧ mg "_law_plan" = some (.ref f) ∧ Binds K fd ["_law_garden_here", "_law_value"] []
  d__law_are_counts : ∃ f fd, Fun K "_law_are_counts" "_law_are_counts" (topS 27) f fd ∧ mg "_law_are_counts" = some (.ref f) ∧ Binds K fd ["_law_garden_here", "_law_number", "_law_value"] []
  d__law_is_certificate : ∃ f fd, Fun K "_law_is_certificate" "_law_is_certificate" (topS 28) f fd ∧ mg "_law_is_certificate" = some (.ref f) ∧ Binds K fd ["_law_garden_here", "_law_number", "_law_value"] []
  z_abs : mg "abs" = none
  z_bool : mg "bool" = none
  z_int : mg "int" = none
  z_isinstance : mg "isinstance" = none
  z_len : mg "len" = none
  z_max : mg "max" = none
  z_min : mg "min" = none
  z_range : mg "range" = none
  z_repr : mg "repr" = none
  z_set : mg "set" = none
  z_sorted : mg "sorted" = none
  z_str : mg "str" = none
  z_sum : mg "sum" = none
  z_tuple : mg "tuple" = none
  z_zip : mg "zip" = none
  g_COUNTS : ∃ t, mg "COUNTS" = some (.str "counts" t)
  g_LIMIT : ∃ t, mg "LIMIT" = some (.int 1000000000000000000 t)
  g_MAX_PLACE : ∃ t, mg "MAX_PLACE" = some (.int 1000000 t)
  g_PLAN : ∃ t, mg "PLAN" = some (.str "plan" t)
abbrev st_litres_from : Stmt := topS 3
abbrev N_litres_from : List Str := ["beds", "low", "high", "place", "litres"]
theorem sc_litres_from : FnScope N_litres_from ["beds", "low", "high"] (defScope st_litres_from) := ⟨rfl, rfl, rfl, by decide +kernel, rfl, by decide +kernel, by decide +kernel⟩
def m_litres_from (u : (Tup (Int × Int)) × Int × Int × Unit) : M Unit (Fl Unit Empty Int) :=
  (retS (fun1M (fun l : List Int => some l.sum) (compM (mapM1 unTup (pureM u.1)) (fun x1 : (Int × Int) => (chainM (fun i j => decide (i ≤ j)) (fun i j => decide (i ≤ j)) (pureM u.2.1) (pureM x1.1) (pureM u.2.2.1))) (fun x1 : (Int × Int) => (pureM x1.2)))))
def en_litres_from (u : (Tup (Int × Int)) × Int × Int × Unit) : List PyData := [enc (u.1), enc (u.2.1), enc (u.2.2.1)]
def f_litres_from (u : (Tup (Int × Int)) × Int × Int × Unit) : Option Int := (retM none (m_litres_from u) ()).map (·.1)
theorem ok_litres_from (T : Txt K mg) : DefG P w K mg base CX0 1 "litres_from" ["beds", "low", "high"] (spP en_litres_from f_litres_from) := by
  obtain ⟨f, fd, F, hg, hb⟩ := T.d_litres_from
  refine defP F sc_litres_from hg hb (fun _ => rfl) (fun _ h => by cases h) fun cdv A outer s H E hr hgd u => ⟨fun _ => [], ?_⟩
  exact (sv_one (ss_ret (ev_sum (fun _ => T.z_sum) (ev_lc (own := [("place", 3), ("litres", 4)]) (iv_tup (ev_var (k := 0) (y := u.1))) (fun _ => blkOk_by (N := N_litres_from) (sc := defScope st_litres_from) (by decide +kernel)) (fun _ => sc_litres_from.nd) rfl (by decide) (fun x1 => (bd_tup (bds_cons (bd_name (k := 3) (hN := fun _ => sc_litres_from.nd)) (bds_cons (bd_name (k := 4) (hN := fun _ => sc_litres_from.nd)) bds_nil)))) (fun x1 => ei_one (et_chain (fun _ => op_le) (fun _ => op_le) (ev_var (k := 1) (y := u.2.1)) (ev_var (k := 3) (y := x1.1)) (ev_var (k := 2) (y := u.2.2.1)))) (fun x1 => (ev_var (k := 4) (y := x1.2)))))))
abbrev st_stretches_of : Stmt := topS 4
abbrev N_stretches_of : List Str := ["garden", "tap", "can", "beds", "marks", "found", "low", "high", "litres", "place"]
theorem sc_stretches_of : FnScope N_stretches_of ["garden"] (defScope st_stretches_of) := ⟨rfl, rfl, rfl, by decide +kernel, rfl, by decide +kernel, by decide +kernel⟩
def m_stretches_of (u : (T3 Int Int (Tup (Int × Int))) × Unit) : M Unit (Fl Unit Empty (Tup (T3 Int Int Int))) :=
  (seqM (setS (pureM u.1)) (fun y1 : (T3 Int Int (Tup (Int × Int))) => (seqM (setS (sortUM (lstM (consM (pureM y1.a) (appM (compM (mapM1 unTup (pureM y1.c)) (fun x3 : (Int × Int) => (pureM true)) (fun x3 : (Int × Int) => (pureM x3.1))) (pureM ([] : List Int))))))) (fun marks2 : (List Int) => (seqM (setS (pureM ([] : (List (T3 Int Int Int))))) (fun found4 : (List (T3 Int Int Int)) => (seqM (forS (zipM (pureM marks2) (cutM (pureM marks2) (mapM1 some (pureM (1 : Int))) (pureM none))) (fun (s5 : ((List (T3 Int Int Int)))) (x6 : (Int × Int)) => (seqM (setS (iteM (geM (pureM x6.1) (pureM y1.a)) (callF f_litres_from (pairM (pureM y1.c) (pairM (pureM x6.2) (pairM (pureM (1000000 : Int)) (pureM ()))))) (callF f_litres_from (pairM (pureM y1.c) (pairM (subM (pureM (0 : Int)) (pureM (1000000 : Int))) (pairM (pureM x6.1) (pureM ()))))))) (fun litres7 : Int => (seqM (appS s5 (tup3M (pureM x6.1) (pureM x6.2) (pureM litres7))) (fun y8 : (T3 Int Int Int) => (pureM (.nx ((s5 ++ [y8]))))))))) (found4)) (fun s9 : ((List (T3 Int Int Int))) => (retS (fun1M (fun l : (List (T3 Int Int Int)) => some (toTup l)) (pureM s9)))))))))))
def en_stretches_of (u : (T3 Int Int (Tup (Int × Int))) × Unit) : List PyData := [enc (u.1)]
def f_stretches_of (u : (T3 Int Int (Tup (Int × Int))) × Unit) : Option (Tup (T3 Int Int Int)) := (retM none (m_stretches_of u) ()).map (·.1)
theorem ok_stretches_of (T : Txt K mg) : DefG P w K mg base CX0 2 "stretches_of" ["garden"] (spP en_stretches_of f_stretches_of) := by
  obtain ⟨f, fd, F, hg, hb⟩ := T.d_stretches_of
  refine defP F sc_stretches_of hg hb (fun _ => rfl) (fun _ h => by cases h) fun cdv A outer s H E hr hgd u => ⟨fun _ => [], ?_⟩
  exact (sv_cons (ss_asg (ev_var (k := 0) (y := u.1)) (fun y1 => (bd_tup (bds_cons (bd_name (k := 1) (hN := fun _ => sc_stretches_of.nd)) (bds_cons (bd_name (k := 2) (hN := fun _ => sc_stretches_of.nd)) (bds_cons (bd_name (k := 3) (hN := fun _ => sc_stretches_of.nd)) bds_nil)))))) (fun y1 => (sv_cons (ss_set (k := 4) (ev_sortU (fun _ => T.z_sorted) (fun _ => T.z_set) (ev_lst (el_cons (ev_var (k := 1) (y := y1.a)) (el_starL (ev_lc (own := [("place", 9), ("litres", 8)]) (iv_tup (ev_var (k := 3) (y := y1.c))) (fun _ => blkOk_by (N := N_stretches_of) (sc := defScope st_stretches_of) (by decide +kernel)) (fun _ => sc_stretches_of.nd) rfl (by decide) (fun x3 => (bd_tup (bds_cons (bd_name (k := 9) (hN := fun _ => sc_stretches_of.nd)) (bds_cons (bd_name (k := 8) (hN := fun _ => sc_stretches_of.nd)) bds_nil)))) (fun x3 => ei_nil) (fun x3 => (ev_var (k := 9) (y := x3.1)))) el_nil (i0 := ()))))) (fun _ => sc_stretches_of.nd)) (fun marks2 => (sv_cons (ss_setO (k := 5) (eo_nil (A := (T3 Int Int Int))) (fun _ => sc_stretches_of.nd)) (fun found4 => (sv_cons (ss_for (Gs := (fun s5 : ((List (T3 Int Int Int))) => [.dat (enc u.1), .dat (enc y1.a), .dat (enc y1.b), .dat (enc y1.c), .dat (enc marks2), .own (enc s5), .un, .un, .un, .un])) (y0 := (found4)) (iv_zip (fun _ => T.z_zip) (ev_var (k := 4) (y := marks2)) (ev_slL (ev_var (k := 4) (y := marks2)) (ep_some ev_int) ep_none)) (.same (.same (.same (.same (.same (.same (.same (.same (.same (.same SubG.nil)))))))))) (fun s5 x6 => (bd_tup (bds_cons (bd_name (k := 6) (hN := fun _ => sc_stretches_of.nd)) (bds_cons (bd_name (k := 7) (hN := fun _ => sc_stretches_of.nd)) bds_nil)))) (fun s5 x6 => (sv_cons (ss_set (k := 8) (ev_if (et_ge (ev_var (k := 6) (y := x6.1)) (ev_var (k := 1) (y := y1.a))) (ev_call (D := fun _ => ok_litres_from T) (fun _ => hr.mono (by decide)) (fun _ => hgd) (ea_cons (ev_var (k := 3) (y := y1.c)) (ea_cons (ev_var (k := 7) (y := x6.2)) (ea_cons (ev_glob (n := 1000000) (fun _ => T.g_MAX_PLACE)) ea_nil)))) (ev_call (D := fun _ => ok_litres_from T) (fun _ => hr.mono (by decide)) (fun _ => hgd) (ea_cons (ev_var (k := 3) (y := y1.c)) (ea_cons (ev_sub ev_int (ev_glob (n := 1000000) (fun _ => T.g_MAX_PLACE))) (ea_cons (ev_var (k := 6) (y := x6.1)) ea_nil))))) (fun _ => sc_stretches_of.nd)) (fun litres7 => (sv_cons (ss_append (k := 5) (l := s5) (by rfl) (ev_tup3 (ev_var (k := 6) (y := x6.1)) (ev_var (k := 7) (y := x6.2)) (ev_var (k := 8) (y := litres7)))) (fun y8 => (sv_nil (.same (.same (.same (.same (.same (.same (.un (.un (.un (.same SubG.nil)))))))))))))))) (fun _ => PassesOwn.never)) (fun s9 => (sv_sub (G' := [.dat (enc u.1), .dat (enc y1.a), .dat (enc y1.b), .dat (enc y1.c), .dat (enc marks2), .dat (enc s9), .un, .un, .un, .un]) (.same (.same (.same (.same (.same (.frz (.same (.same (.same (.same SubG.nil)))))))))) (sv_one (ss_ret (ev_tupleL (fun _ => T.z_tuple) (ev_var (k := 5) (y := s9))))))))))))))
abbrev st_cans_for : Stmt := topS 8
abbrev N_cans_for : List Str := ["litres", "can"]
theorem sc_cans_for : FnScope N_cans_for ["litres", "can"] (defScope st_cans_for) := ⟨rfl, rfl, rfl, by decide +kernel, rfl, by decide +kernel, by decide +kernel⟩
def m_cans_for (u : Int × Int × Unit) : M Unit (Fl Unit Empty Int) :=
  (retS (divM (subM (addM (pureM u.1) (pureM u.2.1)) (pureM (1 : Int))) (pureM u.2.1)))
def en_cans_for (u : Int × Int × Unit) : List PyData := [enc (u.1), enc (u.2.1)]
def f_cans_for (u : Int × Int × Unit) : Option Int := (retM none (m_cans_for u) ()).map (·.1)
theorem ok_cans_for (T : Txt K mg) : DefG P w K mg base CX0 1 "cans_for" ["litres", "can"] (spP en_cans_for f_cans_for) := by
  obtain ⟨f, fd, F, hg, hb⟩ := T.d_cans_for
  refine defP F sc_cans_for hg hb (fun _ => rfl) (fun _ h => by cases h) fun cdv A outer s H E hr hgd u => ⟨fun _ => [], ?_⟩
  exact (sv_one (ss_ret (ev_fdiv (ev_sub (ev_add (ev_var (k := 0) (y := u.1)) (ev_var (k := 1) (y := u.2.1))) ev_int) (ev_var (k := 1) (y := u.2.1)))))
abbrev st_counts_of : Stmt := topS 9
abbrev N_counts_of : List Str := ["garden", "tap", "can", "beds", "low", "high", "litres"]
theorem sc_counts_of : FnScope N_counts_of ["garden"] (defScope st_counts_of) := ⟨rfl, rfl, rfl, by decide +kernel, rfl, by decide +kernel, by decide +kernel⟩
def m_counts_of (u : (T3 Int Int (Tup (Int × Int))) × Unit) : M Unit (Fl Unit Empty (Tup Int)) :=
  (seqM (setS (pureM u.1)) (fun y1 : (T3 Int Int (Tup (Int × Int))) => (retS (fun1M (fun l : (List Int) => some (toTup l)) (compM (mapM1 unTup (callF f_stretches_of (pairM (pureM u.1) (pureM ())))) (fun x2 : (T3 Int Int Int) => (pureM true)) (fun x2 : (T3 Int Int Int) => (callF f_cans_for (pairM (pureM x2.c) (pairM (pureM y1.b) (pureM ()))))))))))
def en_counts_of (u : (T3 Int Int (Tup (Int × Int))) × Unit) : List PyData := [enc (u.1)]
def f_counts_of (u : (T3 Int Int (Tup (Int × Int))) × Unit) : Option (Tup Int) := (retM none (m_counts_of u) ()).map (·.1)
theorem ok_counts_of (T : Txt K mg) : DefG P w K mg base CX0 3 "counts_of" ["garden"] (spP en_counts_of f_counts_of) := by
  obtain ⟨f, fd, F, hg, hb⟩ := T.d_counts_of
  refine defP F sc_counts_of hg hb (fun _ => rfl) (fun _ h => by cases h) fun cdv A outer s H E hr hgd u => ⟨fun _ => [], ?_⟩
  exact (sv_cons (ss_asg (ev_var (k := 0) (y := u.1)) (fun y1 => (bd_tup (bds_cons (bd_name (k := 1) (hN := fun _ => sc_counts_of.nd)) (bds_cons (bd_name (k := 2) (hN := fun _ => sc_counts_of.nd)) (bds_cons (bd_name (k := 3) (hN := fun _ => sc_counts_of.nd)) bds_nil)))))) (fun y1 => (sv_one (ss_ret (ev_tupleL (fun _ => T.z_tuple) (ev_lc (own := [("low", 4), ("high", 5), ("litres", 6)]) (iv_tup (ev_call (D := fun _ => ok_stretches_of T) (fun _ => hr.mono (by decide)) (fun _ => hgd) (ea_cons (ev_var (k := 0) (y := u.1)) ea_nil))) (fun _ => blkOk_by (N := N_counts_of) (sc := defScope st_counts_of) (by decide +kernel)) (fun _ => sc_counts_of.nd) rfl (by decide) (fun x2 => (bd_tup (bds_cons (bd_name (k := 4) (hN := fun _ => sc_counts_of.nd)) (bds_cons (bd_name (k := 5) (hN := fun _ => sc_counts_of.nd)) (bds_cons (bd_name (k := 6) (hN := fun _ => sc_counts_of.nd)) bds_nil))))) (fun x2 => ei_nil) (fun x2 => (ev_call (D := fun _ => ok_cans_for T) (fun _ => hr.mono (by decide)) (fun _ => hgd) (ea_cons (ev_var (k := 6) (y := x2.c)) (ea_cons (ev_var (k := 2) (y := y1.b)) ea_nil))))))))))
abbrev st_way_by : Stmt := topS 10
abbrev N_way_by : List Str := ["garden", "counts", "count", "low", "high", "litres"]
theorem sc_way_by : FnScope N_way_by ["garden", "counts"] (defScope st_way_by) := ⟨rfl, rfl, rfl, by decide +kernel, rfl, by decide +kernel, by decide +kernel⟩
def m_way_by (u : (T3 Int Int (Tup (Int × Int))) × (Tup Int) × Unit) : M Unit (Fl Unit Empty Int) :=
  (retS (fun1M (fun l : List Int => some l.sum) (compM (zipM (mapM1 unTup (callF f_stretches_of (pairM (pureM u.1) (pureM ())))) (mapM1 unTup (pureM u.2.1))) (fun x1 : ((T3 Int Int Int) × Int) => (pureM true)) (fun x1 : ((T3 Int Int Int) × Int) => (mulM (mulM (pureM (2 : Int)) (subM (pureM x1.1.b) (pureM x1.1.a))) (pureM x1.2))))))
def en_way_by (u : (T3 Int Int (Tup (Int × Int))) × (Tup Int) × Unit) : List PyData := [enc (u.1), enc (u.2.1)]
def f_way_by (u : (T3 Int Int (Tup (Int × Int))) × (Tup Int) × Unit) : Option Int := (retM none (m_way_by u) ()).map (·.1)
theorem ok_way_by (T : Txt K mg) : DefG P w K mg base CX0 3 "way_by" ["garden", "counts"] (spP en_way_by f_way_by) := by
  obtain ⟨f, fd, F, hg, hb⟩ := T.d_way_by
  refine defP F sc_way_by hg hb (fun _ => rfl) (fun _ h => by cases h) fun cdv A outer s H E hr hgd u => ⟨fun _ => [], ?_⟩
  exact (sv_one (ss_ret (ev_sum (fun _ => T.z_sum) (ev_lc (own := [("count", 2), ("low", 3), ("high", 4), ("litres", 5)]) (iv_zipT (fun _ => T.z_zip) (ev_call (D := fun _ => ok_stretches_of T) (fun _ => hr.mono (by decide)) (fun _ => hgd) (ea_cons (ev_var (k := 0) (y := u.1)) ea_nil)) (ev_var (k := 1) (y := u.2.1))) (fun _ => blkOk_by (N := N_way_by) (sc := defScope st_way_by) (by decide +kernel)) (fun _ => sc_way_by.nd) rfl (by decide) (fun x1 => (bd_tup (bds_cons (bd_tup (bds_cons (bd_name (k := 3) (hN := fun _ => sc_way_by.nd)) (bds_cons (bd_name (k := 4) (hN := fun _ => sc_way_by.nd)) (bds_cons (bd_name (k := 5) (hN := fun _ => sc_way_by.nd)) bds_nil)))) (bds_cons (bd_name (k := 2) (hN := fun _ => sc_way_by.nd)) bds_nil)))) (fun x1 => ei_nil) (fun x1 => (ev_mul (ev_mul ev_int (ev_sub (ev_var (k := 4) (y := x1.1.b)) (ev_var (k := 3) (y := x1.1.a)))) (ev_var (k := 2) (y := x1.2))))))))
abbrev st_least_way : Stmt := topS 11
abbrev N_least_way : List Str := ["garden"]
theorem sc_least_way : FnScope N_least_way ["garden"] (defScope st_least_way) := ⟨rfl, rfl, rfl, by decide +kernel, rfl, by decide +kernel, by decide +kernel⟩
def m_least_way (u : (T3 Int Int (Tup (Int × Int))) × Unit) : M Unit (Fl Unit Empty Int) :=
  (retS (callF f_way_by (pairM (pureM u.1) (pairM (callF f_counts_of (pairM (pureM u.1) (pureM ()))) (pureM ())))))
def en_least_way (u : (T3 Int Int (Tup (Int × Int))) × Unit) : List PyData := [enc (u.1)]
def f_least_way (u : (T3 Int Int (Tup (Int × Int))) × Unit) : Option Int := (retM none (m_least_way u) ()).map (·.1)
theorem ok_least_way (T : Txt K mg) : DefG P w K mg base CX0 4 "least_way" ["garden"] (spP en_least_way f_least_way) := by
  obtain ⟨f, fd, F, hg, hb⟩ := T.d_least_way
  refine defP F sc_least_way hg hb (fun _ => rfl) (fun _ h => by cases h) fun cdv A outer s H E hr hgd u => ⟨fun _ => [], ?_⟩
  exact (sv_one (ss_ret (ev_call (D := fun _ => ok_way_by T) (fun _ => hr.mono (by decide)) (fun _ => hgd) (ea_cons (ev_var (k := 0) (y := u.1)) (ea_cons (ev_call (D := fun _ => ok_counts_of T) (fun _ => hr.mono (by decide)) (fun _ => hgd) (ea_cons (ev_var (k := 0) (y := u.1)) ea_nil)) ea_nil)))))
abbrev st_packed : Stmt := topS 12
abbrev N_packed : List Str := ["rows", "can", "found", "begun", "room", "place", "litres", "rest", "part"]
theorem sc_packed : FnScope N_packed ["rows", "can"] (defScope st_packed) := ⟨rfl, rfl, rfl, by decide +kernel, rfl, by decide +kernel, by decide +kernel⟩
def m_packed (u : (List (Int × Int)) × Int × Unit) : M Unit (Fl Unit Empty ((List ((List (Int × Int)) × Int)) × (List (Int × Int)))) :=
  (seqM (setS (pairM (pureM ([] : (List ((List (Int × Int)) × Int)))) (pairM (lstM (pureM ([] : List (Int × Int)))) (pairM (pureM u.2.1) (pureM ()))))) (fun uv1 : ((List ((List (Int × Int)) × Int)) × (List (Int × Int)) × Int × Unit) => (seqM (forS (pureM u.1) (fun (s2 : ((List ((List (Int × Int)) × Int)) × (List (Int × Int)) × Int)) (x3 : (Int × Int)) => (seqM (setS (pureM x3.2)) (fun rest4 : Int => (seqM (iteM (neDM (pureM s2.2.1) (lstM (pureM ([] : List (Int × Int))))) (seqM (setS (fun2M (fun i j : Int => some (minI i j)) (pureM s2.2.2) (pureM rest4))) (fun part5 : Int => (seqM (setS (pairM (lstM (appM (pureM s2.2.1) (consM (tup2M (pureM x3.1) (pureM part5)) (pureM ([] : List (Int × Int)))))) (pairM (subM (pureM s2.2.2) (pureM part5)) (pairM (subM (pureM rest4) (pureM part5)) (pureM ()))))) (fun uv6 : ((List (Int × Int)) × Int × Int × Unit) => (seqM (iteM (eqIM (pureM uv6.2.1) (pureM (0 : Int))) (seqM (appS s2.1 (tup2M (pureM uv6.1) (pureM (1 : Int)))) (fun y7 : ((List (Int × Int)) × Int) => (seqM (setS (pairM (lstM (pureM ([] : List (Int × Int)))) (pairM (pureM u.2.1) (pureM ())))) (fun uv8 : ((List (Int × Int)) × Int × Unit) => (pureM (.nx ((s2.1 ++ [y7]), uv8.1, uv8.2.1))))))) (pureM (.nx (s2.1, uv6.1, uv6.2.1)))) (fun s9 : ((List ((List (Int × Int)) × Int)) × (List (Int × Int)) × Int) => (pureM (.nx (s9.1, s9.2.1, s9.2.2, uv6.2.2.1))))))))) (pureM (.nx (s2.1, s2.2.1, s2.2.2, rest4)))) (fun s10 : ((List ((List (Int × Int)) × Int)) × (List (Int × Int)) × Int × Int) => (seqM (iteM (geM (pureM s10.2.2.2) (pureM u.2.1)) (seqM (appS s10.1 (tup2M (lstM (consM (tup2M (pureM x3.1) (pureM u.2.1)) (pureM ([] : List (Int × Int))))) (divM (pureM s10.2.2.2) (pureM u.2.1)))) (fun y11 : ((List (Int × Int)) × Int) => (pureM (.nx ((s10.1 ++ [y11])))))) (pureM (.nx (s10.1)))) (fun s12 : ((List ((List (Int × Int)) × Int))) => (seqM (iteM (gtM (modM (pureM s10.2.2.2) (pureM u.2.1)) (pureM (0 : Int))) (seqM (setS (pairM (lstM (consM (tup2M (pureM x3.1) (modM (pureM s10.2.2.2) (pureM u.2.1))) (pureM ([] : List (Int × Int))))) (pairM (subM (pureM u.2.1) (modM (pureM s10.2.2.2) (pureM u.2.1))) (pureM ())))) (fun uv13 : ((List (Int × Int)) × Int × Unit) => (pureM (.nx (uv13.1, uv13.2.1))))) (pureM (.nx (s10.2.1, s10.2.2.1)))) (fun s14 : ((List (Int × Int)) × Int) => (pureM (.nx (s12, s14.1, s14.2)))))))))))) (uv1.1, uv1.2.1, uv1.2.2.1)) (fun s15 : ((List ((List (Int × Int)) × Int)) × (List (Int × Int)) × Int) => (retS (tup2M (pureM s15.1) (pureM s15.2.1)))))))
def en_packed (u : (List (Int × Int)) × Int × Unit) : List PyData := [enc (u.1), enc (u.2.1)]
def f_packed (u : (List (Int × Int)) × Int × Unit) : Option ((List ((List (Int × Int)) × Int)) × (List (Int × Int))) := (retM none (m_packed u) ()).map (·.1)
theorem ok_packed (T : Txt K mg) : DefG P w K mg base CX0 1 "packed" ["rows", "can"] (spP en_packed f_packed) := by
  obtain ⟨f, fd, F, hg, hb⟩ := T.d_packed
  refine defP F sc_packed hg hb (fun _ => rfl) (fun _ h => by cases h) fun cdv A outer s H E hr hgd u => ⟨fun _ => [], ?_⟩
  exact (sv_cons (ss_par3 (i := 2) (j := 3) (l := 4) (ek_o (eo_nil (A := ((List (Int × Int)) × Int))) (ek_d (ev_lst el_nil) (ek_d (ev_var (k := 1) (y := u.2.1)) ek_nil))) (fun _ => sc_packed.nd)) (fun uv1 => (sv_cons (ss_for (Gs := (fun s2 : ((List ((List (Int × Int)) × Int)) × (List (Int × Int)) × Int) => [.dat (enc u.1), .dat (enc u.2.1), .own (enc s2.1), .dat (enc s2.2.1), .dat (enc s2.2.2), .un, .un, .un, .un])) (y0 := (uv1.1, uv1.2.1, uv1.2.2.1)) (iv_list (ev_var (k := 0) (y := u.1))) (.same (.same (.same (.same (.same (.same (.same (.same (.same SubG.nil))))))))) (fun s2 x3 => (bd_tup (bds_cons (bd_name (k := 5) (hN := fun _ => sc_packed.nd)) (bds_cons (bd_name (k := 6) (hN := fun _ => sc_packed.nd)) bds_nil)))) (fun s2 x3 => (sv_cons (ss_set (k := 7) (ev_var (k := 6) (y := x3.2)) (fun _ => sc_packed.nd)) (fun rest4 => (sv_cons (ss_if (Gn := (fun s10 : ((List ((List (Int × Int)) × Int)) × (List (Int × Int)) × Int × Int) => [.dat (enc u.1), .dat (enc u.2.1), .own (enc s10.1), .dat (enc s10.2.1), .dat (enc s10.2.2.1), .dat (enc x3.1), .dat (enc x3.2), .dat (enc s10.2.2.2), .un])) (et_neD (fun _ => hr) (ev_var (k := 3) (y := s2.2.1)) (ev_lst el_nil)) (sv_cons (ss_set (k := 8) (ev_min2 (fun _ => T.z_min) (ev_var (k := 4) (y := s2.2.2)) (ev_var (k := 7) (y := rest4))) (fun _ => sc_packed.nd)) (fun part5 => (sv_cons (ss_par3 (i := 3) (j := 4) (l := 7) (ek_d (ev_lst (el_starL (ev_var (k := 3) (y := s2.2.1)) (el_cons (ev_tup2 (ev_var (k := 5) (y := x3.1)) (ev_var (k := 8) (y := part5))) el_nil) (i0 := ()))) (ek_d (ev_sub (ev_var (k := 4) (y := s2.2.2)) (ev_var (k := 8) (y := part5))) (ek_d (ev_sub (ev_var (k := 7) (y := rest4)) (ev_var (k := 8) (y := part5))) ek_nil))) (fun _ => sc_packed.nd)) (fun uv6 => (sv_cons (ss_if (Gn := (fun s9 : ((List ((List (Int × Int)) × Int)) × (List (Int × Int)) × Int) => [.dat (enc u.1), .dat (enc u.2.1), .own (enc s9.1), .dat (enc s9.2.1), .dat (enc s9.2.2), .dat (enc x3.1), .dat (enc x3.2), .dat (enc uv6.2.2.1), .dat (enc part5)])) (et_eqI (ev_var (k := 4) (y := uv6.2.1)) ev_int) (sv_cons (ss_append (k := 2) (l := s2.1) (by rfl) (ev_tup2 (ev_var (k := 3) (y := uv6.1)) ev_int)) (fun y7 => (sv_cons (ss_par2 (i := 3) (j := 4) (ek_d (ev_lst el_nil) (ek_d (ev_var (k := 1) (y := u.2.1)) ek_nil)) (fun _ => sc_packed.nd)) (fun uv8 => (sv_nil (.same (.same (.same (.same (.same (.same (.same (.same (.same SubG.nil)))))))))))))) (sv_nil (.same (.same (.same (.same (.same (.same (.same (.same (.same SubG.nil))))))))))) (fun s9 => (sv_nil (.same (.same (.same (.same (.same (.same (.same (.same (.un SubG.nil)))))))))))))))) (sv_nil (.same (.same (.same (.same (.same (.same (.same (.same (.same SubG.nil))))))))))) (fun s10 => (sv_cons (ss_if (Gn := (fun s12 : ((List ((List (Int × Int)) × Int))) => [.dat (enc u.1), .dat (enc u.2.1), .own (enc s12), .dat (enc s10.2.1), .dat (enc s10.2.2.1), .dat (enc x3.1), .dat (enc x3.2), .dat (enc s10.2.2.2), .un])) (et_ge (ev_var (k := 7) (y := s10.2.2.2)) (ev_var (k := 1) (y := u.2.1))) (sv_cons (ss_append (k := 2) (l := s10.1) (by rfl) (ev_tup2 (ev_lst (el_cons (ev_tup2 (ev_var (k := 5) (y := x3.1)) (ev_var (k := 1) (y := u.2.1))) el_nil)) (ev_fdiv (ev_var (k := 7) (y := s10.2.2.2)) (ev_var (k := 1) (y := u.2.1))))) (fun y11 => (sv_nil (.same (.same (.same (.same (.same (.same (.same (.same (.same SubG.nil)))))))))))) (sv_nil (.same (.same (.same (.same (.same (.same (.same (.same (.same SubG.nil))))))))))) (fun s12 => (sv_cons (ss_if (Gn := (fun s14 : ((List (Int × Int)) × Int) => [.dat (enc u.1), .dat (enc u.2.1), .own (enc s12), .dat (enc s14.1), .dat (enc s14.2), .dat (enc x3.1), .dat (enc x3.2), .dat (enc s10.2.2.2), .un])) (et_gt (ev_mod (ev_var (k := 7) (y := s10.2.2.2)) (ev_var (k := 1) (y := u.2.1))) ev_int) (sv_cons (ss_par2 (i := 3) (j := 4) (ek_d (ev_lst (el_cons (ev_tup2 (ev_var (k := 5) (y := x3.1)) (ev_mod (ev_var (k := 7) (y := s10.2.2.2)) (ev_var (k := 1) (y := u.2.1)))) el_nil)) (ek_d (ev_sub (ev_var (k := 1) (y := u.2.1)) (ev_mod (ev_var (k := 7) (y := s10.2.2.2)) (ev_var (k := 1) (y := u.2.1)))) ek_nil)) (fun _ => sc_packed.nd)) (fun uv13 => (sv_nil (.same (.same (.same (.same (.same (.same (.same (.same (.same SubG.nil)))))))))))) (sv_nil (.same (.same (.same (.same (.same (.same (.same (.same (.same SubG.nil))))))))))) (fun s14 => (sv_nil (.same (.same (.same (.same (.same (.un (.un (.un (.same SubG.nil))))))))))))))))))) (fun _ => PassesOwn.never)) (fun s15 => (sv_sub (G' := [.dat (enc u.1), .dat (enc u.2.1), .dat (enc s15.1), .dat (enc s15.2.1), .dat (enc s15.2.2), .un, .un, .un, .un]) (.same (.same (.frz (.same (.same (.same (.same (.same (.same SubG.nil))))))))) (sv_one (ss_ret (ev_tup2 (ev_var (k := 2) (y := s15.1)) (ev_var (k := 3) (y := s15.2.1))))))))))
abbrev st_litres_in : Stmt := topS 13
abbrev N_litres_in : List Str := ["rows", "place", "litres"]
theorem sc_litres_in : FnScope N_litres_in ["rows"] (defScope st_litres_in) := ⟨rfl, rfl, rfl, by decide +kernel, rfl, by decide +kernel, by decide +kernel⟩
def m_litres_in (u : (List (Int × Int)) × Unit) : M Unit (Fl Unit Empty Int) :=
  (retS (fun1M (fun l : List Int => some l.sum) (compM (pureM u.1) (fun x1 : (Int × Int) => (pureM true)) (fun x1 : (Int × Int) => (pureM x1.2)))))
def en_litres_in (u : (List (Int × Int)) × Unit) : List PyData := [enc (u.1)]
def f_litres_in (u : (List (Int × Int)) × Unit) : Option Int := (retM none (m_litres_in u) ()).map (·.1)
theorem ok_litres_in (T : Txt K mg) : DefG P w K mg base CX0 1 "litres_in" ["rows"] (spP en_litres_in f_litres_in) := by
  obtain ⟨f, fd, F, hg, hb⟩ := T.d_litres_in
  refine defP F sc_litres_in hg hb (fun _ => rfl) (fun _ h => by cases h) fun cdv A outer s H E hr hgd u => ⟨fun _ => [], ?_⟩
  exact (sv_one (ss_ret (ev_sum (fun _ => T.z_sum) (ev_lc (own := [("place", 1), ("litres", 2)]) (iv_list (ev_var (k := 0) (y := u.1))) (fun _ => blkOk_by (N := N_litres_in) (sc := defScope st_litres_in) (by decide +kernel)) (fun _ => sc_litres_in.nd) rfl (by decide) (fun x1 => (bd_tup (bds_cons (bd_name (k := 1) (hN := fun _ => sc_litres_in.nd)) (bds_cons (bd_name (k := 2) (hN := fun _ => sc_litres_in.nd)) bds_nil)))) (fun x1 => ei_nil) (fun x1 => (ev_var (k := 2) (y := x1.2)))))))
abbrev st_put_together : Stmt := topS 14
abbrev N_put_together : List Str := ["one", "other", "can", "rows"]
theorem sc_put_together : FnScope N_put_together ["one", "other", "can"] (defScope st_put_together) := ⟨rfl, rfl, rfl, by decide +kernel, rfl, by decide +kernel, by decide +kernel⟩
def m_put_together (u : (List (Int × Int)) × (List (Int × Int)) × Int × Unit) : M Unit (Fl Unit Empty (List (List (Int × Int)))) :=
  (seqM (iteM (leM (addM (callF f_litres_in (pairM (pureM u.1) (pureM ()))) (callF f_litres_in (pairM (pureM u.2.1) (pureM ())))) (pureM u.2.2.1)) (retS (compM (lstM (consM (lstM (appM (pureM u.1) (appM (pureM u.2.1) (pureM ([] : List (Int × Int)))))) (pureM ([] : List (List (Int × Int)))))) (fun x1 : (List (Int × Int)) => (neDM (pureM x1) (lstM (pureM ([] : List (Int × Int)))))) (fun x1 : (List (Int × Int)) => (pureM x1)))) (pureM (.nx ()))) (fun s2 : Unit => (retS (lstM (consM (pureM u.1) (consM (pureM u.2.1) (pureM ([] : List (List (Int × Int))))))))))
def en_put_together (u : (List (Int × Int)) × (List (Int × Int)) × Int × Unit) : List PyData := [enc (u.1), enc (u.2.1), enc (u.2.2.1)]
def f_put_together (u : (List (Int × Int)) × (List (Int × Int)) × Int × Unit) : Option (List (List (Int × Int))) := (retM none (m_put_together u) ()).map (·.1)
theorem ok_put_together (T : Txt K mg) : DefG P w K mg base CX0 2 "put_together" ["one", "other", "can"] (spP en_put_together f_put_together) := by
  obtain ⟨f, fd, F, hg, hb⟩ := T.d_put_together
  refine defP F sc_put_together hg hb (fun _ => rfl) (fun _ h => by cases h) fun cdv A outer s H E hr hgd u => ⟨fun _ => [], ?_⟩
  exact (sv_cons (ss_if (Gn := (fun s2 : Unit => [.dat (enc u.1), .dat (enc u.2.1), .dat (enc u.2.2.1), .un])) (et_le (ev_add (ev_call (D := fun _ => ok_litres_in T) (fun _ => hr.mono (by decide)) (fun _ => hgd) (ea_cons (ev_var (k := 0) (y := u.1)) ea_nil)) (ev_call (D := fun _ => ok_litres_in T) (fun _ => hr.mono (by decide)) (fun _ => hgd) (ea_cons (ev_var (k := 1) (y := u.2.1)) ea_nil))) (ev_var (k := 2) (y := u.2.2.1))) (sv_one (ss_ret (ev_lc (own := [("rows", 3)]) (iv_list (ev_lst (el_cons (ev_lst (el_starL (ev_var (k := 0) (y := u.1)) (el_starL (ev_var (k := 1) (y := u.2.1)) el_nil (i0 := ())) (i0 := ()))) el_nil))) (fun _ => blkOk_by (N := N_put_together) (sc := defScope st_put_together) (by decide +kernel)) (fun _ => sc_put_together.nd) rfl (by decide) (fun x1 => (bd_name (k := 3) (hN := fun _ => sc_put_together.nd))) (fun x1 => ei_one (et_neD (fun _ => hr) (ev_var (k := 3) (y := x1)) (ev_lst el_nil))) (fun x1 => (ev_var (k := 3) (y := x1)))))) (sv_nil (.same (.same (.same (.same SubG.nil)))))) (fun s2 => (sv_one (ss_ret (ev_lst (el_cons (ev_var (k := 0) (y := u.1)) (el_cons (ev_var (k := 1) (y := u.2.1)) el_nil)))))))
abbrev st_best_plan : Stmt := topS 15
abbrev N_best_plan : List Str := ["garden", "tap", "can", "beds", "found", "one", "more", "other", "wet", "rows", "part", "full", "last", "bed", "times"]
theorem sc_best_plan : FnScope N_best_plan ["garden"] (defScope st_best_plan) := ⟨rfl, rfl, rfl, by decide +kernel, rfl, by decide +kernel, by decide +kernel⟩
def m_best_plan (u : (T3 Int Int (Tup (Int × Int))) × Unit) : M Unit (Fl Unit Empty (Tup ((Tup (Int × Int)) × Int))) :=
  (seqM (setS (pureM u.1)) (fun y1 : (T3 Int Int (Tup (Int × Int))) => (seqM (setS (callF f_packed (pairM (compM (mapM1 unTup (pureM y1.c)) (fun x2 : (Int × Int) => (ltM (mapM1 (fun y : (Int × Int) => y.1) (pureM x2)) (pureM y1.a))) (fun x2 : (Int × Int) => (pureM x2))) (pairM (pureM y1.b) (pureM ()))))) (fun y3 : ((List ((List (Int × Int)) × Int)) × (List (Int × Int))) => (seqM (setS (callF f_packed (pairM (compM (mapM1 unTup (mapM1 revT (pureM y1.c))) (fun x4 : (Int × Int) => (gtM (mapM1 (fun y : (Int × Int) => y.1) (pureM x4)) (pureM y1.a))) (fun x4 : (Int × Int) => (pureM x4))) (pairM (pureM y1.b) (pureM ()))))) (fun y5 : ((List ((List (Int × Int)) × Int)) × (List (Int × Int))) => (seqM (setS (lstM (appM (pureM y3.1) (appM (pureM y5.1) (pureM ([] : List ((List (Int × Int)) × Int))))))) (fun found6 : (List ((List (Int × Int)) × Int)) => (seqM (setS (callF f_litres_in (pairM (compM (mapM1 unTup (pureM y1.c)) (fun x8 : (Int × Int) => (eqIM (mapM1 (fun y : (Int × Int) => y.1) (pureM x8)) (pureM y1.a))) (fun x8 : (Int × Int) => (pureM x8))) (pureM ())))) (fun wet7 : Int => (seqM (forS (callF f_put_together (pairM (pureM y3.2) (pairM (pureM y5.2) (pairM (pureM y1.b) (pureM ()))))) (fun (s9 : ((List ((List (Int × Int)) × Int)) × Int)) (x10 : (List (Int × Int))) => (seqM (setS (fun2M (fun i j : Int => some (minI i j)) (pureM s9.2) (subM (pureM y1.b) (callF f_litres_in (pairM (pureM x10) (pureM ())))))) (fun part11 : Int => (seqM (appS s9.1 (tup2M (lstM (appM (pureM x10) (appM (cutM (lstM (consM (tup2M (pureM y1.a) (pureM part11)) (pureM ([] : List (Int × Int))))) (pureM none) (mapM1 some (pureM part11))) (pureM ([] : List (Int × Int)))))) (pureM (1 : Int)))) (fun y12 : ((List (Int × Int)) × Int) => (seqM (setS (subM (pureM s9.2) (pureM part11))) (fun wet13 : Int => (pureM (.nx ((s9.1 ++ [y12]), wet13)))))))))) (found6, wet7)) (fun s14 : ((List ((List (Int × Int)) × Int)) × Int) => (seqM (setS (callF f_packed (pairM (iteM (gtM (pureM s14.2) (pureM (0 : Int))) (lstM (consM (tup2M (pureM y1.a) (pureM s14.2)) (pureM ([] : List (Int × Int))))) (lstM (pureM ([] : List (Int × Int))))) (pairM (pureM y1.b) (pureM ()))))) (fun y15 : ((List ((List (Int × Int)) × Int)) × (List (Int × Int))) => (seqM (setS (lstM (appM (pureM s14.1) (appM (pureM y15.1) (appM (cutM (lstM (consM (tup2M (pureM y15.2) (pureM (1 : Int))) (pureM ([] : List ((List (Int × Int)) × Int))))) (pureM none) (mapM1 some (fun1M (fun l : (List (Int × Int)) => some (l.length : Int)) (pureM y15.2)))) (pureM ([] : List ((List (Int × Int)) × Int)))))))) (fun found16 : (List ((List (Int × Int)) × Int)) => (retS (fun1M (fun l : (List ((Tup (Int × Int)) × Int)) => some (toTup l)) (sortM (compM (pureM found16) (fun x17 : ((List (Int × Int)) × Int) => (pureM true)) (fun x17 : ((List (Int × Int)) × Int) => (tup2M (fun1M (fun l : (List (Int × Int)) => some (toTup l)) (sortM (pureM x17.1))) (pureM x17.2)))))))))))))))))))))))
def en_best_plan (u : (T3 Int Int (Tup (Int × Int))) × Unit) : List PyData := [enc (u.1)]
def f_best_plan (u : (T3 Int Int (Tup (Int × Int))) × Unit) : Option (Tup ((Tup (Int × Int)) × Int)) := (retM none (m_best_plan u) ()).map (·.1)
theorem ok_best_plan (T : Txt K mg) : DefG P w K mg base CX0 3 "best_plan" ["garden"] (spP en_best_plan f_best_plan) := by
  obtain ⟨f, fd, F, hg, hb⟩ := T.d_best_plan
  refine defP F sc_best_plan hg hb (fun _ => rfl) (fun _ h => by cases h) fun cdv A outer s H E hr hgd u => ⟨fun _ => [], ?_⟩
  exact (sv_cons (ss_asg (ev_var (k := 0) (y := u.1)) (fun y1 => (bd_tup (bds_cons (bd_name (k := 1) (hN := fun _ => sc_best_plan.nd)) (bds_cons (bd_name (k := 2) (hN := fun _ => sc_best_plan.nd)) (bds_cons (bd_name (k := 3) (hN := fun _ => sc_best_plan.nd)) bds_nil)))))) (fun y1 => (sv_cons (ss_asg (ev_call (D := fun _ => ok_packed T) (fun _ => hr.mono (by decide)) (fun _ => hgd) (ea_cons (ev_lc (own := [("bed", 13)]) (iv_tup (ev_var (k := 3) (y := y1.c))) (fun _ => blkOk_by (N := N_best_plan) (sc := defScope st_best_plan) (by decide +kernel)) (fun _ => sc_best_plan.nd) rfl (by decide) (fun x2 => (bd_name (k := 13) (hN := fun _ => sc_best_plan.nd))) (fun x2 => ei_one (et_lt (ev_proj (k := 0) (fun y : (Int × Int) => y.1) (fun _ => ⟨_, rfl, rfl⟩) (ev_var (k := 13) (y := x2))) (ev_var (k := 1) (y := y1.a)))) (fun x2 => (ev_var (k := 13) (y := x2)))) (ea_cons (ev_var (k := 2) (y := y1.b)) ea_nil))) (fun y3 => (bd_tup (bds_cons (bd_name (k := 4) (hN := fun _ => sc_best_plan.nd)) (bds_cons (bd_name (k := 5) (hN := fun _ => sc_best_plan.nd)) bds_nil))))) (fun y3 => (sv_cons (ss_asg (ev_call (D := fun _ => ok_packed T) (fun _ => hr.mono (by decide)) (fun _ => hgd) (ea_cons (ev_lc (own := [("bed", 13)]) (iv_tup (ev_revT (ev_var (k := 3) (y := y1.c)))) (fun _ => blkOk_by (N := N_best_plan) (sc := defScope st_best_plan) (by decide +kernel)) (fun _ => sc_best_plan.nd) rfl (by decide) (fun x4 => (bd_name (k := 13) (hN := fun _ => sc_best_plan.nd))) (fun x4 => ei_one (et_gt (ev_proj (k := 0) (fun y : (Int × Int) => y.1) (fun _ => ⟨_, rfl, rfl⟩) (ev_var (k := 13) (y := x4))) (ev_var (k := 1) (y := y1.a)))) (fun x4 => (ev_var (k := 13) (y := x4)))) (ea_cons (ev_var (k := 2) (y := y1.b)) ea_nil))) (fun y5 => (bd_tup (bds_cons (bd_name (k := 6) (hN := fun _ => sc_best_plan.nd)) (bds_cons (bd_name (k := 7) (hN := fun _ => sc_best_plan.nd)) bds_nil))))) (fun y5 => (sv_cons (ss_setO (k := 4) (eo_lst (el_starL (ev_var (k := 4) (y := y3.1)) (el_starL (ev_var (k := 6) (y := y5.1)) el_nil (i0 := ())) (i0 := ()))) (fun _ => sc_best_plan.nd)) (fun found6 => (sv_cons (ss_set (k := 8) (ev_call (D := fun _ => ok_litres_in T) (fun _ => hr.mono (by decide)) (fun _ => hgd) (ea_cons (ev_lc (own := [("bed", 13)]) (iv_tup (ev_var (k := 3) (y := y1.c))) (fun _ => blkOk_by (N := N_best_plan) (sc := defScope st_best_plan) (by decide +kernel)) (fun _ => sc_best_plan.nd) rfl (by decide) (fun x8 => (bd_name (k := 13) (hN := fun _ => sc_best_plan.nd))) (fun x8 => ei_one (et_eqI (ev_proj (k := 0) (fun y : (Int × Int) => y.1) (fun _ => ⟨_, rfl, rfl⟩) (ev_var (k := 13) (y := x8))) (ev_var (k := 1) (y := y1.a)))) (fun x8 => (ev_var (k := 13) (y := x8)))) ea_nil)) (fun _ => sc_best_plan.nd)) (fun wet7 => (sv_cons (ss_for (Gs := (fun s9 : ((List ((List (Int × Int)) × Int)) × Int) => [.dat (enc u.1), .dat (enc y1.a), .dat (enc y1.b), .dat (enc y1.c), .own (enc s9.1), .dat (enc y3.2), .dat (enc y5.1), .dat (enc y5.2), .dat (enc s9.2), .un, .un, .un, .un, .un, .un])) (y0 := (found6, wet7)) (iv_list (ev_call (D := fun _ => ok_put_together T) (fun _ => hr.mono (by decide)) (fun _ => hgd) (ea_cons (ev_var (k := 5) (y := y3.2)) (ea_cons (ev_var (k := 7) (y := y5.2)) (ea_cons (ev_var (k := 2) (y := y1.b)) ea_nil))))) (.same (.same (.same (.same (.same (.same (.same (.same (.same (.same (.same (.same (.same (.same (.same SubG.nil))))))))))))))) (fun s9 x10 => (bd_name (k := 9) (hN := fun _ => sc_best_plan.nd))) (fun s9 x10 => (sv_cons (ss_set (k := 10) (ev_min2 (fun _ => T.z_min) (ev_var (k := 8) (y := s9.2)) (ev_sub (ev_var (k := 2) (y := y1.b)) (ev_call (D := fun _ => ok_litres_in T) (fun _ => hr.mono (by decide)) (fun _ => hgd) (ea_cons (ev_var (k := 9) (y := x10)) ea_nil)))) (fun _ => sc_best_plan.nd)) (fun part11 => (sv_cons (ss_append (k := 4) (l := s9.1) (by rfl) (ev_tup2 (ev_lst (el_starL (ev_var (k := 9) (y := x10)) (el_starL (ev_slL (ev_lst (el_cons (ev_tup2 (ev_var (k := 1) (y := y1.a)) (ev_var (k := 10) (y := part11))) el_nil)) ep_none (ep_some (ev_var (k := 10) (y := part11)))) el_nil (i0 := ())) (i0 := ()))) ev_int)) (fun y12 => (sv_cons (ss_set (k := 8) (ev_sub (ev_var (k := 8) (y := s9.2)) (ev_var (k := 10) (y := part11))) (fun _ => sc_best_plan.nd)) (fun wet13 => (sv_nil (.same (.same (.same (.same (.same (.same (.same (.same (.same (.un (.un (.same (.same (.same (.same SubG.nil))))))))))))))))))))))) (fun _ => PassesOwn.never)) (fun s14 => (sv_cons (ss_asg (ev_call (D := fun _ => ok_packed T) (fun _ => hr.mono (by decide)) (fun _ => hgd) (ea_cons (ev_if (et_gt (ev_var (k := 8) (y := s14.2)) ev_int) (ev_lst (el_cons (ev_tup2 (ev_var (k := 1) (y := y1.a)) (ev_var (k := 8) (y := s14.2))) el_nil)) (ev_lst el_nil)) (ea_cons (ev_var (k := 2) (y := y1.b)) ea_nil))) (fun y15 => (bd_tup (bds_cons (bd_name (k := 11) (hN := fun _ => sc_best_plan.nd)) (bds_cons (bd_name (k := 12) (hN := fun _ => sc_best_plan.nd)) bds_nil))))) (fun y15 => (sv_sub (G' := [.dat (enc u.1), .dat (enc y1.a), .dat (enc y1.b), .dat (enc y1.c), .dat (enc s14.1), .dat (enc y3.2), .dat (enc y5.1), .dat (enc y5.2), .dat (enc s14.2), .un, .un, .dat (enc y15.1), .dat (enc y15.2), .un, .un]) (.same (.same (.same (.same (.frz (.same (.same (.same (.same (.same (.same (.same (.same (.same (.same SubG.nil))))))))))))))) (sv_cons (ss_set (k := 4) (ev_lst (el_starL (ev_var (k := 4) (y := s14.1)) (el_starL (ev_var (k := 11) (y := y15.1)) (el_starL (ev_slL (ev_lst (el_cons (ev_tup2 (ev_var (k := 12) (y := y15.2)) ev_int) el_nil)) ep_none (ep_some (ev_lenL (fun _ => T.z_len) (ev_var (k := 12) (y := y15.2))))) el_nil (i0 := ())) (i0 := ())) (i0 := ()))) (fun _ => sc_best_plan.nd)) (fun found16 => (sv_one (ss_ret (ev_tupleL (fun _ => T.z_tuple) (ev_sorted (fun _ => hr) (fun _ => T.z_sorted) (ev_lc (own := [("rows", 9), ("times", 14)]) (iv_list (ev_var (k := 4) (y := found16))) (fun _ => blkOk_by (N := N_best_plan) (sc := defScope st_best_plan) (by decide +kernel)) (fun _ => sc_best_plan.nd) rfl (by decide) (fun x17 => (bd_tup (bds_cons (bd_name (k := 9) (hN := fun _ => sc_best_plan.nd)) (bds_cons (bd_name (k := 14) (hN := fun _ => sc_best_plan.nd)) bds_nil)))) (fun x17 => ei_nil) (fun x17 => (ev_tup2 (ev_tupleL (fun _ => T.z_tuple) (ev_sorted (fun _ => hr) (fun _ => T.z_sorted) (ev_var (k := 9) (y := x17.1)))) (ev_var (k := 14) (y := x17.2))))))))))))))))))))))))))
abbrev st_certificate : Stmt := topS 16
abbrev N_certificate : List Str := ["garden", "number"]
theorem sc_certificate : FnScope N_certificate ["garden", "number"] (defScope st_certificate) := ⟨rfl, rfl, rfl, by decide +kernel, rfl, by decide +kernel, by decide +kernel⟩
def m_certificate (u : (T3 Int Int (Tup (Int × Int))) × Int × Unit) : M Unit (Fl Unit Empty Cert) :=
  (seqM (iteM (leM (callF f_least_way (pairM (pureM u.1) (pureM ()))) (pureM u.2.1)) (retS (fun1M toPlanC (tup2M (pureM ("plan" : Str)) (callF f_best_plan (pairM (pureM u.1) (pureM ())))))) (pureM (.nx ()))) (fun s1 : Unit => (retS (fun1M toCountsC (tup2M (pureM ("counts" : Str)) (callF f_counts_of (pairM (pureM u.1) (pureM ()))))))))
def en_certificate (u : (T3 Int Int (Tup (Int × Int))) × Int × Unit) : List PyData := [enc (u.1), enc (u.2.1)]
def f_certificate (u : (T3 Int Int (Tup (Int × Int))) × Int × Unit) : Option Cert := (retM none (m_certificate u) ()).map (·.1)
theorem ok_certificate (T : Txt K mg) : DefG P w K mg base CX0 5 "certificate" ["garden", "number"] (spP en_certificate f_certificate) := by
  obtain ⟨f, fd, F, hg, hb⟩ := T.d_certificate
  refine defP F sc_certificate hg hb (fun _ => rfl) (fun _ h => by cases h) fun cdv A outer s H E hr hgd u => ⟨fun _ => [], ?_⟩
  exact (sv_cons (ss_if (Gn := (fun s1 : Unit => [.dat (enc u.1), .dat (enc u.2.1)])) (et_le (ev_call (D := fun _ => ok_least_way T) (fun _ => hr.mono (by decide)) (fun _ => hgd) (ea_cons (ev_var (k := 0) (y := u.1)) ea_nil)) (ev_var (k := 1) (y := u.2.1))) (sv_one (ss_ret (ev_toPlanC (ev_tup2 (ev_globs (n := "plan") (fun _ => T.g_PLAN)) (ev_call (D := fun _ => ok_best_plan T) (fun _ => hr.mono (by decide)) (fun _ => hgd) (ea_cons (ev_var (k := 0) (y := u.1)) ea_nil)))))) (sv_nil (.same (.same SubG.nil)))) (fun s1 => (sv_one (ss_ret (ev_toCountsC (ev_tup2 (ev_globs (n := "counts") (fun _ => T.g_COUNTS)) (ev_call (D := fun _ => ok_counts_of T) (fun _ => hr.mono (by decide)) (fun _ => hgd) (ea_cons (ev_var (k := 0) (y := u.1)) ea_nil))))))))
abbrev st__law_draws : Stmt := topS 18
abbrev N__law_draws : List Str := ["_law_script", "_law_cells", "_law_cell"]
theorem sc__law_draws : FnScope N__law_draws ["_law_script"] (defScope st__law_draws) := ⟨rfl, rfl, rfl, by decide +kernel, rfl, by decide +kernel, by decide +kernel⟩
def m__law_draws (ns : List Int) : M Unit (Fl Unit Empty PyData) :=
  (seqM (setS (catM (compM (pureM (ns.take 63)) (fun x2 : Int => (pureM true)) (fun x2 : Int => (fun1M (fun n : Int => some (absI n)) (pureM x2)))) (repM (lstM (consM (pureM (0 : Int)) (pureM ([] : List Int)))) (fun1M (fun n : Bool => some (b2I n)) (eqIM (pureM (ns.length : Int)) (pureM (0 : Int))))))) (fun cells1 : (List Int) => (retS (mapM1 enc (lstM (consM (mapM1 enc (pureM cells1)) (consM (mapM1 enc (pureM (0 : Int))) (consM (mapM1 enc (compM (pureM cells1) (fun x3 : Int => (pureM true)) (fun x3 : Int => (mulWM (pureM x3) (fun1M (fun n : Bool => some (b2I n)) (geM (pureM x3) (powM (pureM (10 : Int)) (pureM (18 : Int))))))))) (pureM ([] : List PyData))))))))))
def f__law_draws (ns : List Int) : Option PyData := (retM none (m__law_draws ns) ()).map (·.1)
theorem ok__law_draws (T : Txt K mg) : DefG P w K mg base CX0 1 "_law_draws" ["_law_script"] (spMk K f__law_draws) := by
  obtain ⟨f, fd, F, hg, hb⟩ := T.d__law_draws
  refine defMk F sc__law_draws hg hb fun cdv A outer s H E hr hgd ns => ⟨fun _ => [], ?_⟩
  exact (sv_cons (ss_set (k := 1) (ev_catL (ev_lc (own := [("_law_cell", 2)]) (iv_list (ev_scrCut (j := 0) (n := 63) (by rfl))) (fun _ => blkOk_by (N := N__law_draws) (sc := defScope st__law_draws) (by decide +kernel)) (fun _ => sc__law_draws.nd) rfl (by decide) (fun x2 => (bd_name (k := 2) (hN := fun _ => sc__law_draws.nd))) (fun x2 => ei_nil) (fun x2 => (ev_abs (fun _ => T.z_abs) (ev_var (k := 2) (y := x2))))) (ev_rep (ev_lst (el_cons ev_int el_nil)) (ev_intB (fun _ => T.z_int) (ev_eqI (ev_scrLen (j := 0) (fun _ => T.z_len) (by rfl)) ev_int)))) (fun _ => sc__law_draws.nd)) (fun cells1 => (sv_one (ss_ret (ev_as enc (fun _ => rfl) (ev_lst (el_cons (ev_as enc (fun _ => rfl) (ev_var (k := 1) (y := cells1))) (el_cons (ev_as enc (fun _ => rfl) ev_int) (el_cons (ev_as enc (fun _ => rfl) (ev_lc (own := [("_law_cell", 2)]) (iv_list (ev_var (k := 1) (y := cells1))) (fun _ => blkOk_by (N := N__law_draws) (sc := defScope st__law_draws) (by decide +kernel)) (fun _ => sc__law_draws.nd) rfl (by decide) (fun x3 => (bd_name (k := 2) (hN := fun _ => sc__law_draws.nd))) (fun x3 => ei_nil) (fun x3 => (ev_mulW (ev_var (k := 2) (y := x3)) (ev_intB (fun _ => T.z_int) (ev_ge (ev_var (k := 2) (y := x3)) (ev_pow ev_int ev_int))))))) el_nil)))))))))
abbrev st__law_next : Stmt := topS 19
abbrev N__law_next : List Str := ["_law_state", "_law_many", "_law_cells", "_law_count", "_law_rests", "_law_index", "_law_digit", "_law_mixed"]
theorem sc__law_next : FnScope N__law_next ["_law_state", "_law_many"] (defScope st__law_next) := ⟨rfl, rfl, rfl, by decide +kernel, rfl, by decide +kernel, by decide +kernel⟩
def m__law_next (u : Int × Unit) : M DkB (Fl Unit Empty Int) :=
  (seqM (bindM dkbN fun y => pureM (.nx y)) (fun count1 : Int => (seqM (setS (modM (pureM count1) (rdLen cellsB))) (fun index2 : Int => (seqM (bindM (addM (pureM count1) (pureM (1 : Int))) fun y => bindM (dkbSetN y) fun _ => pureM (.nx ())) (fun _ : Unit => (seqM (iteM (gtM (bindM (pureM index2) (rdAt restsB)) (pureM (0 : Int))) (seqM (setS (modM (bindM (pureM index2) (rdAt restsB)) (pureM u.1))) (fun digit3 : Int => (seqM (bindM (divM (bindM (pureM index2) (rdAt restsB)) (pureM u.1)) fun y => bindM (pureM index2) fun i => bindM (dkbSet i y) fun _ => pureM (.nx ())) (fun _ : Unit => (retS (pureM digit3)))))) (pureM (.nx ()))) (fun s4 : Unit => (seqM (setS (modM (powM (addM (addM (modM (bindM (pureM index2) (rdAt cellsB)) (pureM (2147483629 : Int))) (mulM (pureM (40037 : Int)) (pureM count1))) (pureM (9203 : Int))) (pureM (3 : Int))) (pureM (2147483587 : Int)))) (fun mixed5 : Int => (seqM (setS (modM (powM (addM (addM (pureM mixed5) (mulM (mulM (pureM (5039 : Int)) (pureM count1)) (pureM count1))) (pureM (43 : Int))) (pureM (3 : Int))) (pureM (2147483563 : Int)))) (fun mixed6 : Int => (retS (modM (divM (modM (mulM (pureM mixed6) (pureM (65537 : Int))) (pureM (2305843009213693951 : Int))) (pureM (8 : Int))) (pureM u.1)))))))))))))))
def en__law_next (u : Int × Unit) : List PyData := [enc (u.1)]
def d__law_next (u : Int × Unit) : M DkB Int := retM none (m__law_next u)
theorem ok__law_next (T : Txt K mg) : DefG P w K mg base CX0 1 "_law_next" ["_law_state", "_law_many"] (spD fmB rootB en__law_next d__law_next) := by
  obtain ⟨f, fd, F, hg, hb⟩ := T.d__law_next
  refine defD F sc__law_next hg hb (fun _ => rfl) (fun _ h => by cases h) fun cdv A outer s H E hr hgd dk u => ⟨fun _ => [], ?_⟩
  exact (sv_cons (ss_dkbOpen (j := 0) (i1 := 2) (i2 := 3) (i3 := 4) (by rfl) (fun _ => sc__law_next.nd)) (fun count1 => (sv_cons (ss_set (k := 5) (ev_mod (ev_var (k := 3) (y := count1)) (ev_rawLen (get := cellsB) (j := 2) (fun _ => T.z_len) fmB_c (by rfl))) (fun _ => sc__law_next.nd)) (fun index2 => (sv_cons (ss_dkbN (j := 0) (by rfl) (ev_add (ev_var (k := 3) (y := count1)) ev_int)) (fun _ => (sv_cons (ss_if (Gn := (fun s4 : Unit => [.raw (.ref (rootB dk)), .dat (enc u.1), .raw (.ref dk.c), .dat (enc count1), .un, .dat (enc index2), .un, .un])) (et_gt (ev_rawIx (get := restsB) (j := 4) fmB_r (by rfl) (ev_var (k := 5) (y := index2))) ev_int) (sv_cons (ss_set (k := 6) (ev_mod (ev_rawIx (get := restsB) (j := 4) fmB_r (by rfl) (ev_var (k := 5) (y := index2))) (ev_var (k := 1) (y := u.1))) (fun _ => sc__law_next.nd)) (fun digit3 => (sv_cons (ss_dkbR (j := 4) (by rfl) (ev_fdiv (ev_rawIx (get := restsB) (j := 4) fmB_r (by rfl) (ev_var (k := 5) (y := index2))) (ev_var (k := 1) (y := u.1))) (ev_var (k := 5) (y := index2))) (fun _ => (sv_one (ss_ret (ev_var (k := 6) (y := digit3)))))))) (sv_nil (.same (.same (.same (.same (.un (.same (.same (.same SubG.nil)))))))))) (fun s4 => (sv_cons (ss_set (k := 7) (ev_mod (ev_pow (ev_add (ev_add (ev_mod (ev_rawIx (get := cellsB) (j := 2) fmB_c (by rfl) (ev_var (k := 5) (y := index2))) ev_int) (ev_mul ev_int (ev_var (k := 3) (y := count1)))) ev_int) ev_int) ev_int) (fun _ => sc__law_next.nd)) (fun mixed5 => (sv_cons (ss_set (k := 7) (ev_mod (ev_pow (ev_add (ev_add (ev_var (k := 7) (y := mixed5)) (ev_mul (ev_mul ev_int (ev_var (k := 3) (y := count1))) (ev_var (k := 3) (y := count1)))) ev_int) ev_int) ev_int) (fun _ => sc__law_next.nd)) (fun mixed6 => (sv_one (ss_ret (ev_mod (ev_fdiv (ev_mod (ev_mul (ev_var (k := 7) (y := mixed6)) ev_int) ev_int) ev_int) (ev_var (k := 1) (y := u.1)))))))))))))))))
abbrev st__law_one : Stmt := topS 20
abbrev N__law_one : List Str := ["_law_state", "_law_items"]
theorem sc__law_one : FnScope N__law_one ["_law_state", "_law_items"] (defScope st__law_one) := ⟨rfl, rfl, rfl, by decide +kernel, rfl, by decide +kernel, by decide +kernel⟩
def m__law_one (u : (List Int) × Unit) : M DkB (Fl Unit Empty Int) :=
  (retS (ixM (pureM u.1) (bindM (pairM (fun1M (fun l : (List Int) => some (l.length : Int)) (pureM u.1)) (pureM ())) d__law_next)))
def en__law_one (u : (List Int) × Unit) : List PyData := [enc (u.1)]
def d__law_one (u : (List Int) × Unit) : M DkB Int := retM none (m__law_one u)
theorem ok__law_one (T : Txt K mg) : DefG P w K mg base CX0 2 "_law_one" ["_law_state", "_law_items"] (spD fmB rootB en__law_one d__law_one) := by
  obtain ⟨f, fd, F, hg, hb⟩ := T.d__law_one
  refine defD F sc__law_one hg hb (fun _ => rfl) (fun _ h => by cases h) fun cdv A outer s H E hr hgd dk u => ⟨fun _ => [], ?_⟩
  exact (sv_one (ss_ret (ev_ixL (ev_var (k := 1) (y := u.1)) (ev_callD (Fm_ := fmB) (root := rootB) dk (j := 0) (D := fun _ => ok__law_next T) (fun _ => hr.mono (by decide)) (fun _ => hgd) (by rfl) rfl (ea_cons (ev_lenL (fun _ => T.z_len) (ev_var (k := 1) (y := u.1))) ea_nil)))))
abbrev st__law_garden : Stmt := topS 21
abbrev N__law_garden : List Str := ["_law_state", "_law_most", "_law_way", "_law_can", "_law_wide", "_law_places", "_law_top", "_law_beds", "_law_place", "_law_tap", "_law_k"]
theorem sc__law_garden : FnScope N__law_garden ["_law_state", "_law_most", "_law_way"] (defScope st__law_garden) := ⟨rfl, rfl, rfl, by decide +kernel, rfl, by decide +kernel, by decide +kernel⟩
def m__law_garden (u : Int × Int × Unit) : M DkB (Fl Unit Empty (T3 Int Int (Tup (Int × Int)))) :=
  (seqM (setS (ixM (lstM (consM (addM (pureM (1 : Int)) (bindM (pairM (pureM (4 : Int)) (pureM ())) d__law_next)) (consM (addM (pureM (1 : Int)) (bindM (pairM (pureM (9 : Int)) (pureM ())) d__law_next)) (consM (addM (pureM (1 : Int)) (bindM (pairM (powM (pureM (10 : Int)) (pureM (6 : Int))) (pureM ())) d__law_next)) (pureM ([] : List Int)))))) (modM (pureM u.2.1) (pureM (3 : Int))))) (fun can1 : Int => (seqM (setS (ixM (lstM (consM (pureM (6 : Int)) (consM (pureM (15 : Int)) (consM (powM (pureM (10 : Int)) (pureM (6 : Int))) (pureM ([] : List Int)))))) (modM (pureM u.2.1) (pureM (3 : Int))))) (fun wide2 : Int => (seqM (setS (sortUM (compM (rng1M (bindM (pairM (addM (pureM u.1) (pureM (1 : Int))) (pureM ())) d__law_next)) (fun x4 : Int => (pureM true)) (fun x4 : Int => (subM (bindM (pairM (addM (mulM (pureM (2 : Int)) (pureM wide2)) (pureM (1 : Int))) (pureM ())) d__law_next) (pureM wide2)))))) (fun places3 : (List Int) => (seqM (setS (ixM (lstM (consM (pureM (4 : Int)) (consM (mulM (pureM (3 : Int)) (pureM can1)) (consM (powM (pureM (10 : Int)) (pureM (9 : Int))) (pureM ([] : List Int)))))) (modM (pureM u.2.1) (pureM (3 : Int))))) (fun top5 : Int => (seqM (setS (pureM ([] : (List (Int × Int))))) (fun beds6 : (List (Int × Int)) => (seqM (forS (pureM places3) (fun (s7 : ((List (Int × Int)))) (x8 : Int) => (seqM (appS s7 (tup2M (pureM x8) (ixM (lstM (consM (addM (pureM (1 : Int)) (bindM (pairM (pureM top5) (pureM ())) d__law_next)) (consM (pureM can1) (consM (fun2M (fun i j : Int => some (maxI i j)) (pureM (1 : Int)) (subM (pureM can1) (pureM (1 : Int)))) (pureM ([] : List Int)))))) (bindM (pairM (pureM (3 : Int)) (pureM ())) d__law_next)))) (fun y9 : (Int × Int) => (pureM (.nx ((s7 ++ [y9]))))))) (beds6)) (fun s10 : ((List (Int × Int))) => (seqM (setS (subM (bindM (pairM (addM (mulM (pureM (2 : Int)) (pureM wide2)) (pureM (1 : Int))) (pureM ())) d__law_next) (pureM wide2))) (fun tap11 : Int => (seqM (iteM (andM (neDM (pureM places3) (lstM (pureM ([] : List Int)))) (eqIM (bindM (pairM (pureM (3 : Int)) (pureM ())) d__law_next) (pureM (0 : Int)))) (seqM (setS (ixM (lstM (consM (ixM (pureM places3) (pureM (0 : Int))) (consM (ixM (pureM places3) (negM (pureM (1 : Int)))) (consM (bindM (pairM (pureM places3) (pureM ())) d__law_one) (pureM ([] : List Int)))))) (bindM (pairM (pureM (3 : Int)) (pureM ())) d__law_next))) (fun tap12 : Int => (pureM (.nx (tap12))))) (pureM (.nx (tap11)))) (fun s13 : (Int) => (retS (tup3M (pureM s13) (pureM can1) (fun1M (fun l : (List (Int × Int)) => some (toTup l)) (pureM s10))))))))))))))))))))
def en__law_garden (u : Int × Int × Unit) : List PyData := [enc (u.1), enc (u.2.1)]
def d__law_garden (u : Int × Int × Unit) : M DkB (T3 Int Int (Tup (Int × Int))) := retM none (m__law_garden u)
theorem ok__law_garden (T : Txt K mg) : DefG P w K mg base CX0 3 "_law_garden" ["_law_state", "_law_most", "_law_way"] (spD fmB rootB en__law_garden d__law_garden) := by
  obtain ⟨f, fd, F, hg, hb⟩ := T.d__law_garden
  refine defD F sc__law_garden hg hb (fun _ => rfl) (fun _ h => by cases h) fun cdv A outer s H E hr hgd dk u => ⟨fun _ => [], ?_⟩
  exact (sv_cons (ss_set (k := 3) (ev_ixL (ev_lst (el_cons (ev_add ev_int (ev_callD (Fm_ := fmB) (root := rootB) dk (j := 0) (D := fun _ => ok__law_next T) (fun _ => hr.mono (by decide)) (fun _ => hgd) (by rfl) rfl (ea_cons ev_int ea_nil))) (el_cons (ev_add ev_int (ev_callD (Fm_ := fmB) (root := rootB) dk (j := 0) (D := fun _ => ok__law_next T) (fun _ => hr.mono (by decide)) (fun _ => hgd) (by rfl) rfl (ea_cons ev_int ea_nil))) (el_cons (ev_add ev_int (ev_callD (Fm_ := fmB) (root := rootB) dk (j := 0) (D := fun _ => ok__law_next T) (fun _ => hr.mono (by decide)) (fun _ => hgd) (by rfl) rfl (ea_cons (ev_pow ev_int ev_int) ea_nil))) el_nil)))) (ev_mod (ev_var (k := 2) (y := u.2.1)) ev_int)) (fun _ => sc__law_garden.nd)) (fun can1 => (sv_cons (ss_set (k := 4) (ev_ixL (ev_lst (el_cons ev_int (el_cons ev_int (el_cons (ev_pow ev_int ev_int) el_nil)))) (ev_mod (ev_var (k := 2) (y := u.2.1)) ev_int)) (fun _ => sc__law_garden.nd)) (fun wide2 => (sv_cons (ss_set (k := 5) (ev_sortU (fun _ => T.z_sorted) (fun _ => T.z_set) (ev_lc (own := [("_law_k", 10)]) (iv_range1 (fun _ => T.z_range) (ev_callD (Fm_ := fmB) (root := rootB) dk (j := 0) (D := fun _ => ok__law_next T) (fun _ => hr.mono (by decide)) (fun _ => hgd) (by rfl) rfl (ea_cons (ev_add (ev_var (k := 1) (y := u.1)) ev_int) ea_nil))) (fun _ => blkOk_by (N := N__law_garden) (sc := defScope st__law_garden) (by decide +kernel)) (fun _ => sc__law_garden.nd) rfl (by decide) (fun x4 => (bd_name (k := 10) (hN := fun _ => sc__law_garden.nd))) (fun x4 => ei_nil) (fun x4 => (ev_sub (ev_callD (Fm_ := fmB) (root := rootB) dk (j := 0) (D := fun _ => ok__law_next T) (fun _ => hr.mono (by decide)) (fun _ => hgd) (by rfl) rfl (ea_cons (ev_add (ev_mul ev_int (ev_var (k := 4) (y := wide2))) ev_int) ea_nil)) (ev_var (k := 4) (y := wide2)))))) (fun _ => sc__law_garden.nd)) (fun places3 => (sv_cons (ss_set (k := 6) (ev_ixL (ev_lst (el_cons ev_int (el_cons (ev_mul ev_int (ev_var (k := 3) (y := can1))) (el_cons (ev_pow ev_int ev_int) el_nil)))) (ev_mod (ev_var (k := 2) (y := u.2.1)) ev_int)) (fun _ => sc__law_garden.nd)) (fun top5 => (sv_cons (ss_setO (k := 7) (eo_nil (A := (Int × Int))) (fun _ => sc__law_garden.nd)) (fun beds6 => (sv_cons (ss_for (Gs := (fun s7 : ((List (Int × Int))) => [.raw (.ref (rootB dk)), .dat (enc u.1), .dat (enc u.2.1), .dat (enc can1), .dat (enc wide2), .dat (enc places3), .dat (enc top5), .own (enc s7), .un, .un, .un])) (y0 := (beds6)) (iv_list (ev_var (k := 5) (y := places3))) (.same (.same (.same (.same (.same (.same (.same (.same (.same (.same (.same SubG.nil))))))))))) (fun s7 x8 => (bd_name (k := 8) (hN := fun _ => sc__law_garden.nd))) (fun s7 x8 => (sv_cons (ss_append (k := 7) (l := s7) (by rfl) (ev_tup2 (ev_var (k := 8) (y := x8)) (ev_ixL (ev_lst (el_cons (ev_add ev_int (ev_callD (Fm_ := fmB) (root := rootB) dk (j := 0) (D := fun _ => ok__law_next T) (fun _ => hr.mono (by decide)) (fun _ => hgd) (by rfl) rfl (ea_cons (ev_var (k := 6) (y := top5)) ea_nil))) (el_cons (ev_var (k := 3) (y := can1)) (el_cons (ev_max2 (fun _ => T.z_max) ev_int (ev_sub (ev_var (k := 3) (y := can1)) ev_int)) el_nil)))) (ev_callD (Fm_ := fmB) (root := rootB) dk (j := 0) (D := fun _ => ok__law_next T) (fun _ => hr.mono (by decide)) (fun _ => hgd) (by rfl) rfl (ea_cons ev_int ea_nil))))) (fun y9 => (sv_nil (.same (.same (.same (.same (.same (.same (.same (.same (.un (.same (.same SubG.nil))))))))))))))) (fun _ => PassesOwn.never)) (fun s10 => (sv_cons (ss_set (k := 9) (ev_sub (ev_callD (Fm_ := fmB) (root := rootB) dk (j := 0) (D := fun _ => ok__law_next T) (fun _ => hr.mono (by decide)) (fun _ => hgd) (by rfl) rfl (ea_cons (ev_add (ev_mul ev_int (ev_var (k := 4) (y := wide2))) ev_int) ea_nil)) (ev_var (k := 4) (y := wide2))) (fun _ => sc__law_garden.nd)) (fun tap11 => (sv_cons (ss_if (Gn := (fun s13 : (Int) => [.raw (.ref (rootB dk)), .dat (enc u.1), .dat (enc u.2.1), .dat (enc can1), .dat (enc wide2), .dat (enc places3), .dat (enc top5), .own (enc s10), .un, .dat (enc s13), .un])) (et_bool (ew_and (et_neD (fun _ => hr) (ev_var (k := 5) (y := places3)) (ev_lst el_nil)) (ew_one_and (et_eqI (ev_callD (Fm_ := fmB) (root := rootB) dk (j := 0) (D := fun _ => ok__law_next T) (fun _ => hr.mono (by decide)) (fun _ => hgd) (by rfl) rfl (ea_cons ev_int ea_nil)) ev_int)))) (sv_cons (ss_set (k := 9) (ev_ixL (ev_lst (el_cons (ev_ixL (ev_var (k := 5) (y := places3)) ev_int) (el_cons (ev_ixL (ev_var (k := 5) (y := places3)) (ev_neg ev_int)) (el_cons (ev_callD (Fm_ := fmB) (root := rootB) dk (j := 0) (D := fun _ => ok__law_one T) (fun _ => hr.mono (by decide)) (fun _ => hgd) (by rfl) rfl (ea_cons (ev_var (k := 5) (y := places3)) ea_nil)) el_nil)))) (ev_callD (Fm_ := fmB) (root := rootB) dk (j := 0) (D := fun _ => ok__law_next T) (fun _ => hr.mono (by decide)) (fun _ => hgd) (by rfl) rfl (ea_cons ev_int ea_nil))) (fun _ => sc__law_garden.nd)) (fun tap12 => (sv_nil (.same (.same (.same (.same (.same (.same (.same (.same (.same (.same (.same SubG.nil)))))))))))))) (sv_nil (.same (.same (.same (.same (.same (.same (.same (.same (.same (.same (.same SubG.nil))))))))))))) (fun s13 => (sv_sub (G' := [.raw (.ref (rootB dk)), .dat (enc u.1), .dat (enc u.2.1), .dat (enc can1), .dat (enc wide2), .dat (enc places3), .dat (enc top5), .dat (enc s10), .un, .dat (enc s13), .un]) (.same (.same (.same (.same (.same (.same (.same (.frz (.same (.same (.same SubG.nil))))))))))) (sv_one (ss_ret (ev_tup3 (ev_var (k := 9) (y := s13)) (ev_var (k := 3) (y := can1)) (ev_tupleL (fun _ => T.z_tuple) (ev_var (k := 7) (y := s10)))))))))))))))))))))))
abbrev st__law_beyond : Stmt := topS 22
abbrev N__law_beyond : List Str := ["_law_garden_here", "_law_tap", "_law_can", "_law_beds", "_law_marks", "_law_found", "_law_low", "_law_high", "_law_behind", "_law_place", "_law_litres"]
theorem sc__law_beyond : FnScope N__law_beyond ["_law_garden_here"] (defScope st__law_beyond) := ⟨rfl, rfl, rfl, by decide +kernel, rfl, by decide +kernel, by decide +kernel⟩
def m__law_beyond (u : (T3 Int Int (Tup (Int × Int))) × Unit) : M Unit (Fl Unit Empty (List (Pr Int Int))) :=
  (seqM (setS (pureM u.1)) (fun y1 : (T3 Int Int (Tup (Int × Int))) => (seqM (setS (sortUM (catM (lstM (consM (pureM y1.a) (pureM ([] : List Int)))) (compM (mapM1 unTup (pureM y1.c)) (fun x3 : (Int × Int) => (pureM true)) (fun x3 : (Int × Int) => (pureM x3.1)))))) (fun marks2 : (List Int) => (seqM (setS (pureM ([] : (List (Pr Int Int))))) (fun found4 : (List (Pr Int Int)) => (seqM (forS (zipM (pureM marks2) (cutM (pureM marks2) (mapM1 some (pureM (1 : Int))) (pureM none))) (fun (s5 : ((List (Pr Int Int)))) (x6 : (Int × Int)) => (seqM (setS (compM (mapM1 unTup (pureM y1.c)) (fun x8 : (Int × Int) => (iteM (leM (pureM x6.2) (pureM y1.a)) (leM (pureM x8.1) (pureM x6.1)) (geM (pureM x8.1) (pureM x6.2)))) (fun x8 : (Int × Int) => (pureM x8.2)))) (fun behind7 : (List Int) => (seqM (appS s5 (pr2M (mulM (pureM (2 : Int)) (subM (pureM x6.2) (pureM x6.1))) (fun1M (fun l : List Int => some l.sum) (pureM behind7)))) (fun y9 : (Pr Int Int) => (pureM (.nx ((s5 ++ [y9]))))))))) (found4)) (fun s10 : ((List (Pr Int Int))) => (retS (pureM s10))))))))))
def en__law_beyond (u : (T3 Int Int (Tup (Int × Int))) × Unit) : List PyData := [enc (u.1)]
def f__law_beyond (u : (T3 Int Int (Tup (Int × Int))) × Unit) : Option (List (Pr Int Int)) := (retM none (m__law_beyond u) ()).map (·.1)
theorem ok__law_beyond (T : Txt K mg) : DefG P w K mg base CX0 1 "_law_beyond" ["_law_garden_here"] (spP en__law_beyond f__law_beyond) := by
  obtain ⟨f, fd, F, hg, hb⟩ := T.d__law_beyond
  refine defP F sc__law_beyond hg hb (fun _ => rfl) (fun _ h => by cases h) fun cdv A outer s H E hr hgd u => ⟨fun _ => [], ?_⟩
  exact (sv_cons (ss_asg (ev_var (k := 0) (y := u.1)) (fun y1 => (bd_tup (bds_cons (bd_name (k := 1) (hN := fun _ => sc__law_beyond.nd)) (bds_cons (bd_name (k := 2) (hN := fun _ => sc__law_beyond.nd)) (bds_cons (bd_name (k := 3) (hN := fun _ => sc__law_beyond.nd)) bds_nil)))))) (fun y1 => (sv_cons (ss_set (k := 4) (ev_sortU (fun _ => T.z_sorted) (fun _ => T.z_set) (ev_catL (ev_lst (el_cons (ev_var (k := 1) (y := y1.a)) el_nil)) (ev_lc (own := [("_law_place", 9), ("_law_litres", 10)]) (iv_tup (ev_var (k := 3) (y := y1.c))) (fun _ => blkOk_by (N := N__law_beyond) (sc := defScope st__law_beyond) (by decide +kernel)) (fun _ => sc__law_beyond.nd) rfl (by decide) (fun x3 => (bd_tup (bds_cons (bd_name (k := 9) (hN := fun _ => sc__law_beyond.nd)) (bds_cons (bd_name (k := 10) (hN := fun _ => sc__law_beyond.nd)) bds_nil)))) (fun x3 => ei_nil) (fun x3 => (ev_var (k := 9) (y := x3.1)))))) (fun _ => sc__law_beyond.nd)) (fun marks2 => (sv_cons (ss_setO (k := 5) (eo_nil (A := (Pr Int Int))) (fun _ => sc__law_beyond.nd)) (fun found4 => (sv_cons (ss_for (Gs := (fun s5 : ((List (Pr Int Int))) => [.dat (enc u.1), .dat (enc y1.a), .dat (enc y1.b), .dat (enc y1.c), .dat (enc marks2), .own (enc s5), .un, .un, .un, .un, .un])) (y0 := (found4)) (iv_zip (fun _ => T.z_zip) (ev_var (k := 4) (y := marks2)) (ev_slL (ev_var (k := 4) (y := marks2)) (ep_some ev_int) ep_none)) (.same (.same (.same (.same (.same (.same (.same (.same (.same (.same (.same SubG.nil))))))))))) (fun s5 x6 => (bd_tup (bds_cons (bd_name (k := 6) (hN := fun _ => sc__law_beyond.nd)) (bds_cons (bd_name (k := 7) (hN := fun _ => sc__law_beyond.nd)) bds_nil)))) (fun s5 x6 => (sv_cons (ss_setLc (k := 8) (own := [("_law_place", 9), ("_law_litres", 10)]) (iv_tup (ev_var (k := 3) (y := y1.c))) (fun _ => blkOk_by (N := N__law_beyond) (sc := defScope st__law_beyond) (by decide +kernel)) (fun _ => sc__law_beyond.nd) rfl (by decide) (fun x8 => (bd_tup (bds_cons (bd_name (k := 9) (hN := fun _ => sc__law_beyond.nd)) (bds_cons (bd_name (k := 10) (hN := fun _ => sc__law_beyond.nd)) bds_nil)))) (fun x8 => ei_one (et_ifx (et_le (ev_var (k := 7) (y := x6.2)) (ev_var (k := 1) (y := y1.a))) (et_le (ev_var (k := 9) (y := x8.1)) (ev_var (k := 6) (y := x6.1))) (et_ge (ev_var (k := 9) (y := x8.1)) (ev_var (k := 7) (y := x6.2))))) (fun x8 => (ev_var (k := 10) (y := x8.2)))) (fun behind7 => (sv_cons (ss_append (k := 5) (l := s5) (by rfl) (ev_pr2 (ev_mul ev_int (ev_sub (ev_var (k := 7) (y := x6.2)) (ev_var (k := 6) (y := x6.1)))) (ev_sum (fun _ => T.z_sum) (ev_var (k := 8) (y := behind7))))) (fun y9 => (sv_nil (.same (.same (.same (.same (.same (.same (.un (.un (.un (.same (.same SubG.nil))))))))))))))))) (fun _ => PassesOwn.never)) (fun s10 => (sv_sub (G' := [.dat (enc u.1), .dat (enc y1.a), .dat (enc y1.b), .dat (enc y1.c), .dat (enc marks2), .dat (enc s10), .un, .un, .un, .un, .un]) (.same (.same (.same (.same (.same (.frz (.same (.same (.same (.same (.same SubG.nil))))))))))) (sv_one (ss_ret (ev_var (k := 5) (y := s10)))))))))))))
abbrev st__law_least : Stmt := topS 23
abbrev N__law_least : List Str := ["_law_garden_here", "_law_can", "_law_double", "_law_litres"]
theorem sc__law_least : FnScope N__law_least ["_law_garden_here"] (defScope st__law_least) := ⟨rfl, rfl, rfl, by decide +kernel, rfl, by decide +kernel, by decide +kernel⟩
def m__law_least (u : (T3 Int Int (Tup (Int × Int))) × Unit) : M Unit (Fl Unit Empty Int) :=
  (seqM (setS (mapM1 (fun y : (T3 Int Int (Tup (Int × Int))) => y.b) (pureM u.1))) (fun can1 : Int => (retS (fun1M (fun l : List Int => some l.sum) (compM (callF f__law_beyond (pairM (pureM u.1) (pureM ()))) (fun x2 : (Pr Int Int) => (pureM true)) (fun x2 : (Pr Int Int) => (mulM (pureM x2.a) (negM (divM (negM (pureM x2.b)) (pureM can1))))))))))
def en__law_least (u : (T3 Int Int (Tup (Int × Int))) × Unit) : List PyData := [enc (u.1)]
def f__law_least (u : (T3 Int Int (Tup (Int × Int))) × Unit) : Option Int := (retM none (m__law_least u) ()).map (·.1)
theorem ok__law_least (T : Txt K mg) : DefG P w K mg base CX0 2 "_law_least" ["_law_garden_here"] (spP en__law_least f__law_least) := by
  obtain ⟨f, fd, F, hg, hb⟩ := T.d__law_least
  refine defP F sc__law_least hg hb (fun _ => rfl) (fun _ h => by cases h) fun cdv A outer s H E hr hgd u => ⟨fun _ => [], ?_⟩
  exact (sv_cons (ss_set (k := 1) (ev_proj (k := 1) (fun y : (T3 Int Int (Tup (Int × Int))) => y.b) (fun _ => ⟨_, rfl, rfl⟩) (ev_var (k := 0) (y := u.1))) (fun _ => sc__law_least.nd)) (fun can1 => (sv_one (ss_ret (ev_sum (fun _ => T.z_sum) (ev_lc (own := [("_law_double", 2), ("_law_litres", 3)]) (iv_list (ev_call (D := fun _ => ok__law_beyond T) (fun _ => hr.mono (by decide)) (fun _ => hgd) (ea_cons (ev_var (k := 0) (y := u.1)) ea_nil))) (fun _ => blkOk_by (N := N__law_least) (sc := defScope st__law_least) (by decide +kernel)) (fun _ => sc__law_least.nd) rfl (by decide) (fun x2 => (bd_lst (bds_cons (bd_name (k := 2) (hN := fun _ => sc__law_least.nd)) (bds_cons (bd_name (k := 3) (hN := fun _ => sc__law_least.nd)) bds_nil)))) (fun x2 => ei_nil) (fun x2 => (ev_mul (ev_var (k := 2) (y := x2.a)) (ev_neg (ev_fdiv (ev_neg (ev_var (k := 3) (y := x2.b))) (ev_var (k := 1) (y := can1))))))))))))
abbrev st__law_is_trip : Stmt := topS 24
abbrev N__law_is_trip : List Str := ["_law_garden_here", "_law_value", "_law_places", "_law_before", "_law_total", "_law_row", "_law_place", "_law_litres", "_law_one_here"]
theorem sc__law_is_trip : FnScope N__law_is_trip ["_law_garden_here", "_law_value"] (defScope st__law_is_trip) := ⟨rfl, rfl, rfl, by decide +kernel, rfl, by decide +kernel, by decide +kernel⟩
def m__law_is_trip (u : (T3 Int Int (Tup (Int × Int))) × (Tup (Int × Int)) × Unit) : M Unit (Fl Unit Empty Bool) :=
  (seqM (setS (pairM (compM (mapM1 unTup (mapM1 (fun y : (T3 Int Int (Tup (Int × Int))) => y.c) (pureM u.1))) (fun x2 : (Int × Int) => (pureM true)) (fun x2 : (Int × Int) => (pureM x2.1))) (pairM (negM (powM (pureM (10 : Int)) (pureM (7 : Int)))) (pureM ())))) (fun uv1 : ((List Int) × Int × Unit) => (seqM (iteM (orM (notM (mapM1 (fun y : (Tup (Int × Int)) => (fun n => n == "tuple") (tyName (enc y))) (pureM u.2.1))) (eqDM (pureM u.2.1) (tupM (pureM ([] : List (Int × Int)))))) (retS (pureM false)) (pureM (.nx ()))) (fun s3 : Unit => (seqM (setS (pureM (0 : Int))) (fun total4 : Int => (seqM (forS (mapM1 unTup (pureM u.2.1)) (fun (s5 : (Int × Int)) (x6 : (Int × Int)) => (seqM (iteM (orM (notM (mapM1 (fun y : (Int × Int) => (fun n => n == "tuple") (tyName (enc y))) (pureM x6))) (neIM (fun1M (fun _ : (Int × Int) => some (2 : Int)) (pureM x6)) (pureM (2 : Int)))) (retS (pureM false)) (pureM (.nx ()))) (fun s7 : Unit => (seqM (iteM (neDM (compM (mapM1 unTup (mapM1 prTup (pureM x6))) (fun x8 : Int => (orM (mapM1 (fun y : Int => (fun n => n == "bool") (tyName (enc y))) (pureM x8)) (notM (mapM1 (fun y : Int => (fun n => n == "int" || n == "bool") (tyName (enc y))) (pureM x8))))) (fun x8 : Int => (pureM x8))) (lstM (pureM ([] : List Int)))) (retS (pureM false)) (pureM (.nx ()))) (fun s9 : Unit => (seqM (iteM (orM (leM (mapM1 (fun y : (Int × Int) => y.1) (pureM x6)) (pureM s5.1)) (orM (ninIM (mapM1 (fun y : (Int × Int) => y.1) (pureM x6)) (pureM uv1.1)) (ltM (mapM1 (fun y : (Int × Int) => y.2) (pureM x6)) (pureM (1 : Int))))) (retS (pureM false)) (pureM (.nx ()))) (fun s10 : Unit => (seqM (setS (pairM (mapM1 (fun y : (Int × Int) => y.1) (pureM x6)) (pairM (addM (pureM s5.2) (mapM1 (fun y : (Int × Int) => y.2) (pureM x6))) (pureM ())))) (fun uv11 : (Int × Int × Unit) => (pureM (.nx (uv11.1, uv11.2.1)))))))))))) (uv1.2.1, total4)) (fun s12 : (Int × Int) => (retS (leM (pureM s12.2) (mapM1 (fun y : (T3 Int Int (Tup (Int × Int))) => y.b) (pureM u.1))))))))))))
def en__law_is_trip (u : (T3 Int Int (Tup (Int × Int))) × (Tup (Int × Int)) × Unit) : List PyData := [enc (u.1), enc (u.2.1)]
def f__law_is_trip (u : (T3 Int Int (Tup (Int × Int))) × (Tup (Int × Int)) × Unit) : Option Bool := (retM none (m__law_is_trip u) ()).map (·.1)
theorem ok__law_is_trip (T : Txt K mg) : DefG P w K mg base CX0 1 "_law_is_trip" ["_law_garden_here", "_law_value"] (spP en__law_is_trip f__law_is_trip) := by
  obtain ⟨f, fd, F, hg, hb⟩ := T.d__law_is_trip
  refine defP F sc__law_is_trip hg hb (fun _ => rfl) (fun _ h => by cases h) fun cdv A outer s H E hr hgd u => ⟨fun _ => [], ?_⟩
  exact (sv_cons (ss_par2 (i := 2) (j := 3) (ek_d (ev_lc (own := [("_law_place", 6), ("_law_litres", 7)]) (iv_tup (ev_proj (k := 2) (fun y : (T3 Int Int (Tup (Int × Int))) => y.c) (fun _ => ⟨_, rfl, rfl⟩) (ev_var (k := 0) (y := u.1)))) (fun _ => blkOk_by (N := N__law_is_trip) (sc := defScope st__law_is_trip) (by decide +kernel)) (fun _ => sc__law_is_trip.nd) rfl (by decide) (fun x2 => (bd_tup (bds_cons (bd_name (k := 6) (hN := fun _ => sc__law_is_trip.nd)) (bds_cons (bd_name (k := 7) (hN := fun _ => sc__law_is_trip.nd)) bds_nil)))) (fun x2 => ei_nil) (fun x2 => (ev_var (k := 6) (y := x2.1)))) (ek_d (ev_neg (ev_pow ev_int ev_int)) ek_nil)) (fun _ => sc__law_is_trip.nd)) (fun uv1 => (sv_cons (ss_if (Gn := (fun s3 : Unit => [.dat (enc u.1), .dat (enc u.2.1), .dat (enc uv1.1), .dat (enc uv1.2.1), .un, .un, .un, .un, .un])) (et_bool (ew_or (et_not (et_val (ev_isi (fun n => n == "tuple") kit_tuple (fun _ => T.z_isinstance) (fun _ => T.z_tuple) bb_tuple (ev_var (k := 1) (y := u.2.1))))) (ew_one_or (et_eqD (fun _ => hr) (ev_var (k := 1) (y := u.2.1)) (ev_tup el_nil))))) (sv_one (ss_ret ev_bool)) (sv_nil (.same (.same (.same (.same (.same (.same (.same (.same (.same SubG.nil))))))))))) (fun s3 => (sv_cons (ss_set (k := 4) ev_int (fun _ => sc__law_is_trip.nd)) (fun total4 => (sv_cons (ss_for (Gs := (fun s5 : (Int × Int) => [.dat (enc u.1), .dat (enc u.2.1), .dat (enc uv1.1), .dat (enc s5.1), .dat (enc s5.2), .un, .un, .un, .un])) (y0 := (uv1.2.1, total4)) (iv_tup (ev_var (k := 1) (y := u.2.1))) (.same (.same (.same (.same (.same (.same (.same (.same (.same SubG.nil))))))))) (fun s5 x6 => (bd_name (k := 5) (hN := fun _ => sc__law_is_trip.nd))) (fun s5 x6 => (sv_cons (ss_if (Gn := (fun s7 : Unit => [.dat (enc u.1), .dat (enc u.2.1), .dat (enc uv1.1), .dat (enc s5.1), .dat (enc s5.2), .dat (enc x6), .un, .un, .un])) (et_bool (ew_or (et_not (et_val (ev_isi (fun n => n == "tuple") kit_tuple (fun _ => T.z_isinstance) (fun _ => T.z_tuple) bb_tuple (ev_var (k := 5) (y := x6))))) (ew_one_or (et_neI (ev_lenN 2 (fun _ => ⟨_, rfl, rfl⟩) (fun _ => T.z_len) (ev_var (k := 5) (y := x6))) ev_int)))) (sv_one (ss_ret ev_bool)) (sv_nil (.same (.same (.same (.same (.same (.same (.same (.same (.same SubG.nil))))))))))) (fun s7 => (sv_cons (ss_if (Gn := (fun s9 : Unit => [.dat (enc u.1), .dat (enc u.2.1), .dat (enc uv1.1), .dat (enc s5.1), .dat (enc s5.2), .dat (enc x6), .un, .un, .un])) (et_neD (fun _ => hr) (ev_lc (own := [("_law_one_here", 8)]) (iv_tup (ev_prTup (ev_var (k := 5) (y := x6)))) (fun _ => blkOk_by (N := N__law_is_trip) (sc := defScope st__law_is_trip) (by decide +kernel)) (fun _ => sc__law_is_trip.nd) rfl (by decide) (fun x8 => (bd_name (k := 8) (hN := fun _ => sc__law_is_trip.nd))) (fun x8 => ei_one (et_bool (ew_or (et_val (ev_isi (fun n => n == "bool") kit_bool (fun _ => T.z_isinstance) (fun _ => T.z_bool) bb_bool (ev_var (k := 8) (y := x8)))) (ew_one_or (et_not (et_val (ev_isi (fun n => n == "int" || n == "bool") kit_int (fun _ => T.z_isinstance) (fun _ => T.z_int) bb_int (ev_var (k := 8) (y := x8))))))))) (fun x8 => (ev_var (k := 8) (y := x8)))) (ev_lst el_nil)) (sv_one (ss_ret ev_bool)) (sv_nil (.same (.same (.same (.same (.same (.same (.same (.same (.same SubG.nil))))))))))) (fun s9 => (sv_cons (ss_if (Gn := (fun s10 : Unit => [.dat (enc u.1), .dat (enc u.2.1), .dat (enc uv1.1), .dat (enc s5.1), .dat (enc s5.2), .dat (enc x6), .un, .un, .un])) (et_bool (ew_or (et_le (ev_proj (k := 0) (fun y : (Int × Int) => y.1) (fun _ => ⟨_, rfl, rfl⟩) (ev_var (k := 5) (y := x6))) (ev_var (k := 3) (y := s5.1))) (ew_or (et_ninI (ev_proj (k := 0) (fun y : (Int × Int) => y.1) (fun _ => ⟨_, rfl, rfl⟩) (ev_var (k := 5) (y := x6))) (ev_var (k := 2) (y := uv1.1))) (ew_one_or (et_lt (ev_proj (k := 1) (fun y : (Int × Int) => y.2) (fun _ => ⟨_, rfl, rfl⟩) (ev_var (k := 5) (y := x6))) ev_int))))) (sv_one (ss_ret ev_bool)) (sv_nil (.same (.same (.same (.same (.same (.same (.same (.same (.same SubG.nil))))))))))) (fun s10 => (sv_cons (ss_par2 (i := 3) (j := 4) (ek_d (ev_proj (k := 0) (fun y : (Int × Int) => y.1) (fun _ => ⟨_, rfl, rfl⟩) (ev_var (k := 5) (y := x6))) (ek_d (ev_add (ev_var (k := 4) (y := s5.2)) (ev_proj (k := 1) (fun y : (Int × Int) => y.2) (fun _ => ⟨_, rfl, rfl⟩) (ev_var (k := 5) (y := x6)))) ek_nil)) (fun _ => sc__law_is_trip.nd)) (fun uv11 => (sv_nil (.same (.same (.same (.same (.same (.un (.same (.same (.same SubG.nil))))))))))))))))))) (fun _ => PassesOwn.never)) (fun s12 => (sv_one (ss_ret (ev_le (ev_var (k := 4) (y := s12.2)) (ev_proj (k := 1) (fun y : (T3 Int Int (Tup (Int × Int))) => y.b) (fun _ => ⟨_, rfl, rfl⟩) (ev_var (k := 0) (y := u.1))))))))))))))
abbrev st__law_trip_way : Stmt := topS 25
abbrev N__law_trip_way : List Str := ["_law_garden_here", "_law_trip", "_law_places", "_law_place", "_law_litres"]
theorem sc__law_trip_way : FnScope N__law_trip_way ["_law_garden_here", "_law_trip"] (defScope st__law_trip_way) := ⟨rfl, rfl, rfl, by decide +kernel, rfl, by decide +kernel, by decide +kernel⟩
def m__law_trip_way (u : (T3 Int Int (Tup (Int × Int))) × (Tup (Int × Int)) × Unit) : M Unit (Fl Unit Empty Int) :=
  (seqM (setS (compM (mapM1 unTup (pureM u.2.1)) (fun x2 : (Int × Int) => (pureM true)) (fun x2 : (Int × Int) => (pureM x2.1)))) (fun places1 : (List Int) => (retS (mulM (pureM (2 : Int)) (subM (fun1M maxL (catM (lstM (consM (mapM1 (fun y : (T3 Int Int (Tup (Int × Int))) => y.a) (pureM u.1)) (pureM ([] : List Int)))) (pureM places1))) (fun1M minL (catM (lstM (consM (mapM1 (fun y : (T3 Int Int (Tup (Int × Int))) => y.a) (pureM u.1)) (pureM ([] : List Int)))) (pureM places1))))))))
def en__law_trip_way (u : (T3 Int Int (Tup (Int × Int))) × (Tup (Int × Int)) × Unit) : List PyData := [enc (u.1), enc (u.2.1)]
def f__law_trip_way (u : (T3 Int Int (Tup (Int × Int))) × (Tup (Int × Int)) × Unit) : Option Int := (retM none (m__law_trip_way u) ()).map (·.1)
theorem ok__law_trip_way (T : Txt K mg) : DefG P w K mg base CX0 1 "_law_trip_way" ["_law_garden_here", "_law_trip"] (spP en__law_trip_way f__law_trip_way) := by
  obtain ⟨f, fd, F, hg, hb⟩ := T.d__law_trip_way
  refine defP F sc__law_trip_way hg hb (fun _ => rfl) (fun _ h => by cases h) fun cdv A outer s H E hr hgd u => ⟨fun _ => [], ?_⟩
  exact (sv_cons (ss_setLc (k := 2) (own := [("_law_place", 3), ("_law_litres", 4)]) (iv_tup (ev_var (k := 1) (y := u.2.1))) (fun _ => blkOk_by (N := N__law_trip_way) (sc := defScope st__law_trip_way) (by decide +kernel)) (fun _ => sc__law_trip_way.nd) rfl (by decide) (fun x2 => (bd_tup (bds_cons (bd_name (k := 3) (hN := fun _ => sc__law_trip_way.nd)) (bds_cons (bd_name (k := 4) (hN := fun _ => sc__law_trip_way.nd)) bds_nil)))) (fun x2 => ei_nil) (fun x2 => (ev_var (k := 3) (y := x2.1)))) (fun places1 => (sv_one (ss_ret (ev_mul ev_int (ev_sub (ev_maxL (fun _ => T.z_max) (ev_catL (ev_lst (el_cons (ev_proj (k := 0) (fun y : (T3 Int Int (Tup (Int × Int))) => y.a) (fun _ => ⟨_, rfl, rfl⟩) (ev_var (k := 0) (y := u.1))) el_nil)) (ev_var (k := 2) (y := places1)))) (ev_minL (fun _ => T.z_min) (ev_catL (ev_lst (el_cons (ev_proj (k := 0) (fun y : (T3 Int Int (Tup (Int × Int))) => y.a) (fun _ => ⟨_, rfl, rfl⟩) (ev_var (k := 0) (y := u.1))) el_nil)) (ev_var (k := 2) (y := places1))))))))))
abbrev st__law_plan : Stmt := topS 26
abbrev N__law_plan : List Str := ["_law_garden_here", "_law_value", "_law_way", "_law_trips", "_law_wet", "_law_before", "_law_item", "_law_place", "_law_litres"]
theorem sc__law_plan : FnScope N__law_plan ["_law_garden_here", "_law_value"] (defScope st__law_plan) := ⟨rfl, rfl, rfl, by decide +kernel, rfl, by decide +kernel, by decide +kernel⟩
def m__law_plan (u : (T3 Int Int (Tup (Int × Int))) × (Tup ((Tup (Int × Int)) × Int)) × Unit) : M Unit (Fl Unit Empty (Option (List Int))) :=
  (seqM (iteM (notM (mapM1 (fun y : (Tup ((Tup (Int × Int)) × Int)) => (fun n => n == "tuple") (tyName (enc y))) (pureM u.2.1))) (retS (pureM (none : Option (List Int)))) (pureM (.nx ()))) (fun s1 : Unit => (seqM (setS (pairM (pureM (0 : Int)) (pairM (pureM (0 : Int)) (pairM (pureM (toDic [] : (Dic Int))) (pairM (tupM (pureM ([] : List (Int × Int)))) (pureM ())))))) (fun uv2 : (Int × Int × (Dic Int) × (Tup (Int × Int)) × Unit) => (seqM (forS (mapM1 unTup (pureM u.2.1)) (fun (s3 : (Int × Int × (Dic Int) × (Tup (Int × Int)))) (x4 : ((Tup (Int × Int)) × Int)) => (seqM (iteM (orM (notM (mapM1 (fun y : ((Tup (Int × Int)) × Int) => (fun n => n == "tuple") (tyName (enc y))) (pureM x4))) (orM (neIM (fun1M (fun _ : ((Tup (Int × Int)) × Int) => some (2 : Int)) (pureM x4)) (pureM (2 : Int))) (notM (callF f__law_is_trip (pairM (pureM u.1) (pairM (mapM1 (fun y : ((Tup (Int × Int)) × Int) => y.1) (pureM x4)) (pureM ()))))))) (retS (pureM (none : Option (List Int)))) (pureM (.nx ()))) (fun s5 : Unit => (seqM (iteM (orM (mapM1 (fun y : Int => (fun n => n == "bool") (tyName (enc y))) (mapM1 (fun y : ((Tup (Int × Int)) × Int) => y.2) (pureM x4))) (orM (notM (mapM1 (fun y : Int => (fun n => n == "int" || n == "bool") (tyName (enc y))) (mapM1 (fun y : ((Tup (Int × Int)) × Int) => y.2) (pureM x4)))) (orM (ltM (mapM1 (fun y : ((Tup (Int × Int)) × Int) => y.2) (pureM x4)) (pureM (1 : Int))) (leDM (mapM1 (fun y : ((Tup (Int × Int)) × Int) => y.1) (pureM x4)) (pureM s3.2.2.2))))) (retS (pureM (none : Option (List Int)))) (pureM (.nx ()))) (fun s6 : Unit => (seqM (setS (addM (pureM s3.1) (mulM (mapM1 (fun y : ((Tup (Int × Int)) × Int) => y.2) (pureM x4)) (callF f__law_trip_way (pairM (pureM u.1) (pairM (mapM1 (fun y : ((Tup (Int × Int)) × Int) => y.1) (pureM x4)) (pureM ()))))))) (fun way7 : Int => (seqM (setS (pairM (mapM1 (fun y : ((Tup (Int × Int)) × Int) => y.1) (pureM x4)) (pairM (addM (pureM s3.2.1) (mapM1 (fun y : ((Tup (Int × Int)) × Int) => y.2) (pureM x4))) (pureM ())))) (fun uv8 : ((Tup (Int × Int)) × Int × Unit) => (seqM (forS (mapM1 unTup (mapM1 (fun y : ((Tup (Int × Int)) × Int) => y.1) (pureM x4))) (fun (s9 : ((Dic Int))) (x10 : (Int × Int)) => (seqM (putS s9 (addM (getD2M (pureM s9) (pureM x10.1) (pureM (0 : Int))) (mulM (pureM x10.2) (mapM1 (fun y : ((Tup (Int × Int)) × Int) => y.2) (pureM x4)))) (pureM x10.1)) (fun wet11 : (Dic Int) => (pureM (.nx (wet11)))))) (s3.2.2.1)) (fun s12 : ((Dic Int)) => (pureM (.nx (way7, uv8.2.1, s12, uv8.1)))))))))))))) (uv2.1, uv2.2.1, uv2.2.2.1, uv2.2.2.2.1)) (fun s13 : (Int × Int × (Dic Int) × (Tup (Int × Int))) => (seqM (iteM (neDM (compM (mapM1 unTup (mapM1 (fun y : (T3 Int Int (Tup (Int × Int))) => y.c) (pureM u.1))) (fun x14 : (Int × Int) => (neIM (getD2M (pureM s13.2.2.1) (pureM x14.1) (pureM (0 : Int))) (pureM x14.2))) (fun x14 : (Int × Int) => (pureM x14.1))) (lstM (pureM ([] : List Int)))) (retS (pureM (none : Option (List Int)))) (pureM (.nx ()))) (fun s15 : Unit => (retS (mapM1 some (lstM (consM (pureM s13.1) (consM (pureM s13.2.1) (pureM ([] : List Int)))))))))))))))
def en__law_plan (u : (T3 Int Int (Tup (Int × Int))) × (Tup ((Tup (Int × Int)) × Int)) × Unit) : List PyData := [enc (u.1), enc (u.2.1)]
def f__law_plan (u : (T3 Int Int (Tup (Int × Int))) × (Tup ((Tup (Int × Int)) × Int)) × Unit) : Option (Option (List Int)) := (retM none (m__law_plan u) ()).map (·.1)
theorem ok__law_plan (T : Txt K mg) : DefG P w K mg base CX0 2 "_law_plan" ["_law_garden_here", "_law_value"] (spP en__law_plan f__law_plan) := by
  obtain ⟨f, fd, F, hg, hb⟩ := T.d__law_plan
  refine defP F sc__law_plan hg hb (fun _ => rfl) (fun _ h => by cases h) fun cdv A outer s H E hr hgd u => ⟨fun _ => [], ?_⟩
  exact (sv_cons (ss_if (Gn := (fun s1 : Unit => [.dat (enc u.1), .dat (enc u.2.1), .un, .un, .un, .un, .un, .un, .un])) (et_not (et_val (ev_isi (fun n => n == "tuple") kit_tuple (fun _ => T.z_isinstance) (fun _ => T.z_tuple) bb_tuple (ev_var (k := 1) (y := u.2.1))))) (sv_one (ss_ret (ev_none (y := (none : Option (List Int)))))) (sv_nil (.same (.same (.same (.same (.same (.same (.same (.same (.same SubG.nil))))))))))) (fun s1 => (sv_cons (ss_parV (ks := [2, 3, 4, 5]) (ek_d ev_int (ek_d ev_int (ek_o (eo_dnil (A := Int)) (ek_d (ev_tup el_nil) ek_nil)))) (gn_cons (k := 2) (fun _ => sc__law_plan.nd) (gn_cons (k := 3) (fun _ => sc__law_plan.nd) (gn_cons (k := 4) (fun _ => sc__law_plan.nd) (gn_cons (k := 5) (fun _ => sc__law_plan.nd) gn_nil))))) (fun uv2 => (sv_cons (ss_for (Gs := (fun s3 : (Int × Int × (Dic Int) × (Tup (Int × Int))) => [.dat (enc u.1), .dat (enc u.2.1), .dat (enc s3.1), .dat (enc s3.2.1), .own (enc s3.2.2.1), .dat (enc s3.2.2.2), .un, .un, .un])) (y0 := (uv2.1, uv2.2.1, uv2.2.2.1, uv2.2.2.2.1)) (iv_tup (ev_var (k := 1) (y := u.2.1))) (.same (.same (.same (.same (.same (.same (.same (.same (.same SubG.nil))))))))) (fun s3 x4 => (bd_name (k := 6) (hN := fun _ => sc__law_plan.nd))) (fun s3 x4 => (sv_cons (ss_if (Gn := (fun s5 : Unit => [.dat (enc u.1), .dat (enc u.2.1), .dat (enc s3.1), .dat (enc s3.2.1), .own (enc s3.2.2.1), .dat (enc s3.2.2.2), .dat (enc x4), .un, .un])) (et_bool (ew_or (et_not (et_val (ev_isi (fun n => n == "tuple") kit_tuple (fun _ => T.z_isinstance) (fun _ => T.z_tuple) bb_tuple (ev_var (k := 6) (y := x4))))) (ew_or (et_neI (ev_lenN 2 (fun _ => ⟨_, rfl, rfl⟩) (fun _ => T.z_len) (ev_var (k := 6) (y := x4))) ev_int) (ew_one_or (et_not (et_val (ev_call (D := fun _ => ok__law_is_trip T) (fun _ => hr.mono (by decide)) (fun _ => hgd) (ea_cons (ev_var (k := 0) (y := u.1)) (ea_cons (ev_proj (k := 0) (fun y : ((Tup (Int × Int)) × Int) => y.1) (fun _ => ⟨_, rfl, rfl⟩) (ev_var (k := 6) (y := x4))) ea_nil))))))))) (sv_one (ss_ret (ev_none (y := (none : Option (List Int)))))) (sv_nil (.same (.same (.same (.same (.same (.same (.same (.same (.same SubG.nil))))))))))) (fun s5 => (sv_cons (ss_if (Gn := (fun s6 : Unit => [.dat (enc u.1), .dat (enc u.2.1), .dat (enc s3.1), .dat (enc s3.2.1), .own (enc s3.2.2.1), .dat (enc s3.2.2.2), .dat (enc x4), .un, .un])) (et_bool (ew_or (et_val (ev_isi (fun n => n == "bool") kit_bool (fun _ => T.z_isinstance) (fun _ => T.z_bool) bb_bool (ev_proj (k := 1) (fun y : ((Tup (Int × Int)) × Int) => y.2) (fun _ => ⟨_, rfl, rfl⟩) (ev_var (k := 6) (y := x4))))) (ew_or (et_not (et_val (ev_isi (fun n => n == "int" || n == "bool") kit_int (fun _ => T.z_isinstance) (fun _ => T.z_int) bb_int (ev_proj (k := 1) (fun y : ((Tup (Int × Int)) × Int) => y.2) (fun _ => ⟨_, rfl, rfl⟩) (ev_var (k := 6) (y := x4)))))) (ew_or (et_lt (ev_proj (k := 1) (fun y : ((Tup (Int × Int)) × Int) => y.2) (fun _ => ⟨_, rfl, rfl⟩) (ev_var (k := 6) (y := x4))) ev_int) (ew_one_or (et_leD (fun _ => hr) NNo.nn (ev_proj (k := 0) (fun y : ((Tup (Int × Int)) × Int) => y.1) (fun _ => ⟨_, rfl, rfl⟩) (ev_var (k := 6) (y := x4))) (ev_var (k := 5) (y := s3.2.2.2)))))))) (sv_one (ss_ret (ev_none (y := (none : Option (List Int)))))) (sv_nil (.same (.same (.same (.same (.same (.same (.same (.same (.same SubG.nil))))))))))) (fun s6 => (sv_cons (ss_set (k := 2) (ev_add (ev_var (k := 2) (y := s3.1)) (ev_mul (ev_proj (k := 1) (fun y : ((Tup (Int × Int)) × Int) => y.2) (fun _ => ⟨_, rfl, rfl⟩) (ev_var (k := 6) (y := x4))) (ev_call (D := fun _ => ok__law_trip_way T) (fun _ => hr.mono (by decide)) (fun _ => hgd) (ea_cons (ev_var (k := 0) (y := u.1)) (ea_cons (ev_proj (k := 0) (fun y : ((Tup (Int × Int)) × Int) => y.1) (fun _ => ⟨_, rfl, rfl⟩) (ev_var (k := 6) (y := x4))) ea_nil))))) (fun _ => sc__law_plan.nd)) (fun way7 => (sv_cons (ss_par2 (i := 5) (j := 3) (ek_d (ev_proj (k := 0) (fun y : ((Tup (Int × Int)) × Int) => y.1) (fun _ => ⟨_, rfl, rfl⟩) (ev_var (k := 6) (y := x4))) (ek_d (ev_add (ev_var (k := 3) (y := s3.2.1)) (ev_proj (k := 1) (fun y : ((Tup (Int × Int)) × Int) => y.2) (fun _ => ⟨_, rfl, rfl⟩) (ev_var (k := 6) (y := x4)))) ek_nil)) (fun _ => sc__law_plan.nd)) (fun uv8 => (sv_cons (ss_for (Gs := (fun s9 : ((Dic Int)) => [.dat (enc u.1), .dat (enc u.2.1), .dat (enc way7), .dat (enc uv8.2.1), .own (enc s9), .dat (enc uv8.1), .dat (enc x4), .un, .un])) (y0 := (s3.2.2.1)) (iv_tup (ev_proj (k := 0) (fun y : ((Tup (Int × Int)) × Int) => y.1) (fun _ => ⟨_, rfl, rfl⟩) (ev_var (k := 6) (y := x4)))) (.same (.same (.same (.same (.same (.same (.same (.same (.same SubG.nil))))))))) (fun s9 x10 => (bd_tup (bds_cons (bd_name (k := 7) (hN := fun _ => sc__law_plan.nd)) (bds_cons (bd_name (k := 8) (hN := fun _ => sc__law_plan.nd)) bds_nil)))) (fun s9 x10 => (sv_cons (ss_dput (j := 4) (l := s9) (by rfl) (fun _ => hr) (ev_add (ev_dget2 (fun _ => hr) (ed_own (k := 4) (l := s9) (by rfl)) (ev_var (k := 7) (y := x10.1)) ev_int) (ev_mul (ev_var (k := 8) (y := x10.2)) (ev_proj (k := 1) (fun y : ((Tup (Int × Int)) × Int) => y.2) (fun _ => ⟨_, rfl, rfl⟩) (ev_var (k := 6) (y := x4))))) (ev_var (k := 7) (y := x10.1))) (fun wet11 => (sv_nil (.same (.same (.same (.same (.same (.same (.same (.un (.un SubG.nil))))))))))))) (fun _ => PassesOwn.never)) (fun s12 => (sv_nil (.same (.same (.same (.same (.same (.same (.un (.same (.same SubG.nil))))))))))))))))))))) (fun _ => PassesOwn.never)) (fun s13 => (sv_cons (ss_if (Gn := (fun s15 : Unit => [.dat (enc u.1), .dat (enc u.2.1), .dat (enc s13.1), .dat (enc s13.2.1), .own (enc s13.2.2.1), .dat (enc s13.2.2.2), .un, .un, .un])) (et_neD (fun _ => hr) (ev_lc (own := [("_law_place", 7), ("_law_litres", 8)]) (iv_tup (ev_proj (k := 2) (fun y : (T3 Int Int (Tup (Int × Int))) => y.c) (fun _ => ⟨_, rfl, rfl⟩) (ev_var (k := 0) (y := u.1)))) (fun _ => blkOk_by (N := N__law_plan) (sc := defScope st__law_plan) (by decide +kernel)) (fun _ => sc__law_plan.nd) rfl (by decide) (fun x14 => (bd_tup (bds_cons (bd_name (k := 7) (hN := fun _ => sc__law_plan.nd)) (bds_cons (bd_name (k := 8) (hN := fun _ => sc__law_plan.nd)) bds_nil)))) (fun x14 => ei_one (et_neI (ev_dget2 (fun _ => hr) (ed_own (k := 4) (l := s13.2.2.1) (by rfl)) (ev_var (k := 7) (y := x14.1)) ev_int) (ev_var (k := 8) (y := x14.2)))) (fun x14 => (ev_var (k := 7) (y := x14.1)))) (ev_lst el_nil)) (sv_one (ss_ret (ev_none (y := (none : Option (List Int)))))) (sv_nil (.same (.same (.same (.same (.same (.same (.same (.same (.same SubG.nil))))))))))) (fun s15 => (sv_one (ss_ret (ev_as some (fun _ => rfl) (ev_lst (el_cons (ev_var (k := 2) (y := s13.1)) (el_cons (ev_var (k := 3) (y := s13.2.1)) el_nil))))))))))))))
abbrev st__law_are_counts : Stmt := topS 27
abbrev N__law_are_counts : List Str := ["_law_garden_here", "_law_number", "_law_value", "_law_rows", "_law_total", "_law_double", "_law_litres", "_law_count"]
theorem sc__law_are_counts : FnScope N__law_are_counts ["_law_garden_here", "_law_number", "_law_value"] (defScope st__law_are_counts) := ⟨rfl, rfl, rfl, by decide +kernel, rfl, by decide +kernel, by decide +kernel⟩
def m__law_are_counts (u : (T3 Int Int (Tup (Int × Int))) × Int × (Tup Int) × Unit) : M Unit (Fl Unit Empty Bool) :=
  (seqM (setS (callF f__law_beyond (pairM (pureM u.1) (pureM ())))) (fun rows1 : (List (Pr Int Int)) => (seqM (iteM (orM (notM (mapM1 (fun y : (Tup Int) => (fun n => n == "tuple") (tyName (enc y))) (pureM u.2.2.1))) (neIM (fun1M (fun l : (Tup Int) => some ((unTup l).length : Int)) (pureM u.2.2.1)) (fun1M (fun l : (List (Pr Int Int)) => some (l.length : Int)) (pureM rows1)))) (retS (pureM false)) (pureM (.nx ()))) (fun s2 : Unit => (seqM (setS (pureM (0 : Int))) (fun total3 : Int => (seqM (forS (zipM (pureM rows1) (mapM1 unTup (pureM u.2.2.1))) (fun (s4 : (Int)) (x5 : ((Pr Int Int) × Int)) => (seqM (iteM (orM (mapM1 (fun y : Int => (fun n => n == "bool") (tyName (enc y))) (pureM x5.2)) (orM (notM (mapM1 (fun y : Int => (fun n => n == "int" || n == "bool") (tyName (enc y))) (pureM x5.2))) (ltM (pureM x5.2) (pureM (0 : Int))))) (retS (pureM false)) (pureM (.nx ()))) (fun s6 : Unit => (seqM (iteM (geM (mulM (mapM1 (fun y : (T3 Int Int (Tup (Int × Int))) => y.b) (pureM u.1)) (subM (pureM x5.2) (pureM (1 : Int)))) (pureM x5.1.b)) (retS (pureM false)) (pureM (.nx ()))) (fun s7 : Unit => (seqM (setS (addM (pureM s4) (mulM (pureM x5.1.a) (pureM x5.2)))) (fun total8 : Int => (pureM (.nx (total8)))))))))) (total3)) (fun s9 : (Int) => (retS (gtM (pureM s9) (pureM u.2.1)))))))))))
def en__law_are_counts (u : (T3 Int Int (Tup (Int × Int))) × Int × (Tup Int) × Unit) : List PyData := [enc (u.1), enc (u.2.1), enc (u.2.2.1)]
def f__law_are_counts (u : (T3 Int Int (Tup (Int × Int))) × Int × (Tup Int) × Unit) : Option Bool := (retM none (m__law_are_counts u) ()).map (·.1)
theorem ok__law_are_counts (T : Txt K mg) : DefG P w K mg base CX0 2 "_law_are_counts" ["_law_garden_here", "_law_number", "_law_value"] (spP en__law_are_counts f__law_are_counts) := by
  obtain ⟨f, fd, F, hg, hb⟩ := T.d__law_are_counts
  refine defP F sc__law_are_counts hg hb (fun _ => rfl) (fun _ h => by cases h) fun cdv A outer s H E hr hgd u => ⟨fun _ => [], ?_⟩
  exact (sv_cons (ss_set (k := 3) (ev_call (D := fun _ => ok__law_beyond T) (fun _ => hr.mono (by decide)) (fun _ => hgd) (ea_cons (ev_var (k := 0) (y := u.1)) ea_nil)) (fun _ => sc__law_are_counts.nd)) (fun rows1 => (sv_cons (ss_if (Gn := (fun s2 : Unit => [.dat (enc u.1), .dat (enc u.2.1), .dat (enc u.2.2.1), .dat (enc rows1), .un, .un, .un, .un])) (et_bool (ew_or (et_not (et_val (ev_isi (fun n => n == "tuple") kit_tuple (fun _ => T.z_isinstance) (fun _ => T.z_tuple) bb_tuple (ev_var (k := 2) (y := u.2.2.1))))) (ew_one_or (et_neI (ev_lenT (fun _ => T.z_len) (ev_var (k := 2) (y := u.2.2.1))) (ev_lenL (fun _ => T.z_len) (ev_var (k := 3) (y := rows1))))))) (sv_one (ss_ret ev_bool)) (sv_nil (.same (.same (.same (.same (.same (.same (.same (.same SubG.nil)))))))))) (fun s2 => (sv_cons (ss_set (k := 4) ev_int (fun _ => sc__law_are_counts.nd)) (fun total3 => (sv_cons (ss_for (Gs := (fun s4 : (Int) => [.dat (enc u.1), .dat (enc u.2.1), .dat (enc u.2.2.1), .dat (enc rows1), .dat (enc s4), .un, .un, .un])) (y0 := (total3)) (iv_zipLT (fun _ => T.z_zip) (ev_var (k := 3) (y := rows1)) (ev_var (k := 2) (y := u.2.2.1))) (.same (.same (.same (.same (.same (.same (.same (.same SubG.nil)))))))) (fun s4 x5 => (bd_tup (bds_cons (bd_lst (bds_cons (bd_name (k := 5) (hN := fun _ => sc__law_are_counts.nd)) (bds_cons (bd_name (k := 6) (hN := fun _ => sc__law_are_counts.nd)) bds_nil))) (bds_cons (bd_name (k := 7) (hN := fun _ => sc__law_are_counts.nd)) bds_nil)))) (fun s4 x5 => (sv_cons (ss_if (Gn := (fun s6 : Unit => [.dat (enc u.1), .dat (enc u.2.1), .dat (enc u.2.2.1), .dat (enc rows1), .dat (enc s4), .dat (enc x5.1.a), .dat (enc x5.1.b), .dat (enc x5.2)])) (et_bool (ew_or (et_val (ev_isi (fun n => n == "bool") kit_bool (fun _ => T.z_isinstance) (fun _ => T.z_bool) bb_bool (ev_var (k := 7) (y := x5.2)))) (ew_or (et_not (et_val (ev_isi (fun n => n == "int" || n == "bool") kit_int (fun _ => T.z_isinstance) (fun _ => T.z_int) bb_int (ev_var (k := 7) (y := x5.2))))) (ew_one_or (et_lt (ev_var (k := 7) (y := x5.2)) ev_int))))) (sv_one (ss_ret ev_bool)) (sv_nil (.same (.same (.same (.same (.same (.same (.same (.same SubG.nil)))))))))) (fun s6 => (sv_cons (ss_if (Gn := (fun s7 : Unit => [.dat (enc u.1), .dat (enc u.2.1), .dat (enc u.2.2.1), .dat (enc rows1), .dat (enc s4), .dat (enc x5.1.a), .dat (enc x5.1.b), .dat (enc x5.2)])) (et_ge (ev_mul (ev_proj (k := 1) (fun y : (T3 Int Int (Tup (Int × Int))) => y.b) (fun _ => ⟨_, rfl, rfl⟩) (ev_var (k := 0) (y := u.1))) (ev_sub (ev_var (k := 7) (y := x5.2)) ev_int)) (ev_var (k := 6) (y := x5.1.b))) (sv_one (ss_ret ev_bool)) (sv_nil (.same (.same (.same (.same (.same (.same (.same (.same SubG.nil)))))))))) (fun s7 => (sv_cons (ss_set (k := 4) (ev_add (ev_var (k := 4) (y := s4)) (ev_mul (ev_var (k := 5) (y := x5.1.a)) (ev_var (k := 7) (y := x5.2)))) (fun _ => sc__law_are_counts.nd)) (fun total8 => (sv_nil (.same (.same (.same (.same (.same (.un (.un (.un SubG.nil)))))))))))))))) (fun _ => PassesOwn.never)) (fun s9 => (sv_one (ss_ret (ev_gt (ev_var (k := 4) (y := s9)) (ev_var (k := 1) (y := u.2.1)))))))))))))
abbrev st__law_is_certificate : Stmt := topS 28
abbrev N__law_is_certificate : List Str := ["_law_garden_here", "_law_number", "_law_value", "_law_told"]
theorem sc__law_is_certificate : FnScope N__law_is_certificate ["_law_garden_here", "_law_number", "_law_value"] (defScope st__law_is_certificate) := ⟨rfl, rfl, rfl, by decide +kernel, rfl, by decide +kernel, by decide +kernel⟩
def m__law_is_certificate (u : (T3 Int Int (Tup (Int × Int))) × Int × Cert × Unit) : M Unit (Fl Unit Empty Bool) :=
  (seqM (iteM (orM (notM (mapM1 (fun y : Cert => (fun n => n == "tuple") (tyName (enc y))) (pureM u.2.2.1))) (orM (neIM (fun1M (fun _ : Cert => some (2 : Int)) (pureM u.2.2.1)) (pureM (2 : Int))) (notM (mapM1 (fun y : Str => (fun n => n == "str") (tyName (enc y))) (mapM1 Cert.word (pureM u.2.2.1)))))) (retS (pureM false)) (pureM (.nx ()))) (fun s1 : Unit => (seqM (iteM (eqSM (mapM1 Cert.word (pureM u.2.2.1)) (pureM ("plan" : Str))) (seqM (setS (callF f__law_plan (pairM (pureM u.1) (pairM (fun1M Cert.asPlan (pureM u.2.2.1)) (pureM ()))))) (fun told2 : (Option (List Int)) => (retS (andM (mapM1 Option.isSome (pureM told2)) (leM (ixM (bindM (pureM told2) fun y => ofO y) (pureM (0 : Int))) (pureM u.2.1)))))) (pureM (.nx ()))) (fun s3 : Unit => (retS (andM (eqSM (mapM1 Cert.word (pureM u.2.2.1)) (pureM ("counts" : Str))) (callF f__law_are_counts (pairM (pureM u.1) (pairM (pureM u.2.1) (pairM (fun1M Cert.asCounts (pureM u.2.2.1)) (pureM ())))))))))))
def en__law_is_certificate (u : (T3 Int Int (Tup (Int × Int))) × Int × Cert × Unit) : List PyData := [enc (u.1), enc (u.2.1), enc (u.2.2.1)]
def f__law_is_certificate (u : (T3 Int Int (Tup (Int × Int))) × Int × Cert × Unit) : Option Bool := (retM none (m__law_is_certificate u) ()).map (·.1)
theorem ok__law_is_certificate (T : Txt K mg) : DefG P w K mg base CX0 3 "_law_is_certificate" ["_law_garden_here", "_law_number", "_law_value"] (spP en__law_is_certificate f__law_is_certificate) := by
  obtain ⟨f, fd, F, hg, hb⟩ := T.d__law_is_certificate
  refine defP F sc__law_is_certificate hg hb (fun _ => rfl) (fun _ h => by cases h) fun cdv A outer s H E hr hgd u => ⟨fun _ => [], ?_⟩
  exact (sv_cons (ss_if (Gn := (fun s1 : Unit => [.dat (enc u.1), .dat (enc u.2.1), .dat (enc u.2.2.1), .un])) (et_bool (ew_or (et_not (et_val (ev_isi (fun n => n == "tuple") kit_tuple (fun _ => T.z_isinstance) (fun _ => T.z_tuple) bb_tuple (ev_var (k := 2) (y := u.2.2.1))))) (ew_or (et_neI (ev_lenN 2 cert_len (fun _ => T.z_len) (ev_var (k := 2) (y := u.2.2.1))) ev_int) (ew_one_or (et_not (et_val (ev_isi (fun n => n == "str") kit_str (fun _ => T.z_isinstance) (fun _ => T.z_str) bb_str (ev_proj (k := 0) Cert.word word_at (ev_var (k := 2) (y := u.2.2.1)))))))))) (sv_one (ss_ret ev_bool)) (sv_nil (.same (.same (.same (.same SubG.nil)))))) (fun s1 => (sv_cons (ss_if (Gn := (fun s3 : Unit => [.dat (enc u.1), .dat (enc u.2.1), .dat (enc u.2.2.1), .un])) (et_eqS (ev_proj (k := 0) Cert.word word_at (ev_var (k := 2) (y := u.2.2.1))) ev_str) (sv_cons (ss_set (k := 3) (ev_call (D := fun _ => ok__law_plan T) (fun _ => hr.mono (by decide)) (fun _ => hgd) (ea_cons (ev_var (k := 0) (y := u.1)) (ea_cons (ev_projO (k := 1) Cert.asPlan plan_at (ev_var (k := 2) (y := u.2.2.1))) ea_nil))) (fun _ => sc__law_is_certificate.nd)) (fun told2 => (sv_one (ss_ret (ev_and (ev_notNone NNo.nn (ev_var (k := 3) (y := told2))) (ev_one (ev_le (ev_ixL (ev_un (ev_var (k := 3) (y := told2))) ev_int) (ev_var (k := 1) (y := u.2.1))))))))) (sv_nil (.same (.same (.same (.same SubG.nil)))))) (fun s3 => (sv_one (ss_ret (ev_and (ev_eqS (ev_proj (k := 0) Cert.word word_at (ev_var (k := 2) (y := u.2.2.1))) ev_str) (ev_one (ev_call (D := fun _ => ok__law_are_counts T) (fun _ => hr.mono (by decide)) (fun _ => hgd) (ea_cons (ev_var (k := 0) (y := u.1)) (ea_cons (ev_var (k := 1) (y := u.2.1)) (ea_cons (ev_projO (k := 1) Cert.asCounts counts_at (ev_var (k := 2) (y := u.2.2.1))) ea_nil))))))))))))
abbrev st_law : Stmt := topS 29
abbrev N_law : List Str := ["_law_script", "_law_state", "_law_turn", "_law_garden_here", "_law_shown", "_law_least_here", "_law_number", "_law_told"]
theorem sc_law : FnScope N_law ["_law_script"] (defScope st_law) := ⟨rfl, rfl, rfl, by decide +kernel, rfl, by decide +kernel, by decide +kernel⟩
def m_law : M DkB (Fl Unit Empty Bool) :=
  (seqM (forS (rng1M (pureM (18 : Int))) (fun (s1 : Unit) (x2 : Int) => (seqM (setS (bindM (pairM (ixM (lstM (consM (pureM (12 : Int)) (consM (pureM (3 : Int)) (consM (pureM (6 : Int)) (consM (pureM (12 : Int)) (pureM ([] : List Int))))))) (modM (pureM x2) (pureM (4 : Int)))) (pairM (pureM x2) (pureM ()))) d__law_garden)) (fun garden_here3 : (T3 Int Int (Tup (Int × Int))) => (seqM (setS (pairM (fun1M repF (pureM garden_here3)) (pairM (callF f__law_least (pairM (pureM garden_here3) (pureM ()))) (pureM ())))) (fun uv4 : (Str × Int × Unit) => (seqM (forS (lstM (consM (pureM (0 : Int)) (consM (fun2M (fun i j : Int => some (maxI i j)) (pureM (0 : Int)) (subM (pureM uv4.2.1) (pureM (1 : Int)))) (consM (pureM uv4.2.1) (consM (addM (pureM uv4.2.1) (pureM (1 : Int))) (consM (pureM (1000000000000000000 : Int)) (consM (bindM (pairM (addM (mulM (pureM (2 : Int)) (pureM uv4.2.1)) (pureM (2 : Int))) (pureM ())) d__law_next) (pureM ([] : List Int))))))))) (fun (s5 : Unit) (x6 : Int) => (seqM (setS (callF f_certificate (pairM (pureM garden_here3) (pairM (pureM x6) (pureM ()))))) (fun told7 : Cert => (seqM (iteM (orM (neSM (mapM1 Cert.word (pureM told7)) (ixM (lstM (consM (pureM ("counts" : Str)) (consM (pureM ("plan" : Str)) (pureM ([] : List Str))))) (fun1M (fun n : Bool => some (b2I n)) (leM (pureM uv4.2.1) (pureM x6))))) (notM (callF f__law_is_certificate (pairM (pureM garden_here3) (pairM (pureM x6) (pairM (pureM told7) (pureM ()))))))) (retS (pureM false)) (pureM (.nx ()))) (fun s8 : Unit => (seqM (iteM (orM (neSM (fun1M repF (callF f_certificate (pairM (pureM garden_here3) (pairM (pureM x6) (pureM ()))))) (fun1M repF (pureM told7))) (neSM (fun1M repF (pureM garden_here3)) (pureM uv4.1))) (retS (pureM false)) (pureM (.nx ()))) (fun s9 : Unit => (seqM (iteM (andM (eqSM (mapM1 Cert.word (pureM told7)) (pureM ("plan" : Str))) (gtM (fun1M (fun l : (Tup ((Tup (Int × Int)) × Int)) => some ((unTup l).length : Int)) (fun1M Cert.asPlan (pureM told7))) (pureM (100 : Int)))) (retS (pureM false)) (pureM (.nx ()))) (fun s10 : Unit => (pureM (.nx ()))))))))))) ()) (fun s11 : Unit => (pureM (.nx ()))))))))) ()) (fun s12 : Unit => (retS (andM (eqDM (callF f_certificate (pairM (tup3M (pureM (0 : Int)) (pureM (2 : Int)) (tupM (consM (tup2M (pureM (1 : Int)) (pureM (1 : Int))) (consM (tup2M (pureM (3 : Int)) (pureM (2 : Int))) (pureM ([] : List (Int × Int))))))) (pairM (pureM (7 : Int)) (pureM ())))) (fun1M toCountsC (tup2M (pureM ("counts" : Str)) (tupM (consM (pureM (2 : Int)) (consM (pureM (1 : Int)) (pureM ([] : List Int)))))))) (eqDM (callF f_certificate (pairM (tup3M (pureM (0 : Int)) (pureM (1 : Int)) (tupM (pureM ([] : List (Int × Int))))) (pairM (pureM (0 : Int)) (pureM ())))) (fun1M toPlanC (tup2M (pureM ("plan" : Str)) (tupM (pureM ([] : List ((Tup (Int × Int)) × Int)))))))))))
theorem ok_law {f : Addr} {fd : FuncData} {P0 : List Int → DkB → Prop} (T : Txt K mg) (F : Fun K "law" "law" st_law f fd) (hmk : ∀ (ns : List Int), ns.length ≤ 63 → Wd ns → ∀ (Z : Addr → Prop) (H' : Hp) (v : V) (d : PyData), f__law_draws ns = some d → Rp Z H' v d → ∃ (t : DkBA) (s0 : DkB), v = .ref (rootB t) ∧ P0 ns s0 ∧ (fmB t).at_ s0 H') (hmk2 : ∀ ns : List Int, ns.length ≤ 63 → Wd ns → ∃ d, f__law_draws ns = some d) (hm : ∀ (ns : List Int) (s0 : DkB), ns.length ≤ 63 → Wd ns → P0 ns s0 → ∃ s', retM none m_law s0 = some (true, s')) : FnG P w K mg base CX0 6 f fd ["_law_script"] (spLawB K) :=
  defLawB (m := m_law) (Fm_ := fmB) (root := rootB) (j := 1) (P0 := P0) F sc_law (DefG.mono (ok__law_draws T) (by decide)) rfl (hmk := hmk) (hmk2 := hmk2) rfl (by decide) rfl
    (fun cdv A outer s H E => fun h => ps_set (i := 1) sc_law.nd rfl (.inl rfl) h) (fun cdv A outer s H E => pa_cons (pv 0) pa_nil) (fun cdv A outer s H E => rfl) (by decide)
    (fun cdv A outer s H E hr hgd dk => ⟨fun _ => [], (sv_cons (ss_for (Gs := (fun s1 : Unit => [.un, .raw (.ref (rootB dk)), .un, .un, .un, .un, .un, .un])) (y0 := ()) (iv_range1 (fun _ => T.z_range) ev_int) (.same (.same (.same (.same (.same (.same (.same (.same SubG.nil)))))))) (fun s1 x2 => (bd_name (k := 2) (hN := fun _ => sc_law.nd))) (fun s1 x2 => (sv_cons (ss_set (k := 3) (ev_callD (Fm_ := fmB) (root := rootB) dk (j := 1) (D := fun _ => ok__law_garden T) (fun _ => hr.mono (by decide)) (fun _ => hgd) (by rfl) rfl (ea_cons (ev_ixL (ev_lst (el_cons ev_int (el_cons ev_int (el_cons ev_int (el_cons ev_int el_nil))))) (ev_mod (ev_var (k := 2) (y := x2)) ev_int)) (ea_cons (ev_var (k := 2) (y := x2)) ea_nil))) (fun _ => sc_law.nd)) (fun garden_here3 => (sv_cons (ss_par2 (i := 4) (j := 5) (ek_d (ev_repr (fun _ => hr) (fun _ => hgd) (fun _ => T.z_repr) (ev_var (k := 3) (y := garden_here3))) (ek_d (ev_call (D := fun _ => ok__law_least T) (fun _ => hr.mono (by decide)) (fun _ => hgd) (ea_cons (ev_var (k := 3) (y := garden_here3)) ea_nil)) ek_nil)) (fun _ => sc_law.nd)) (fun uv4 => (sv_cons (ss_for (Gs := (fun s5 : Unit => [.un, .raw (.ref (rootB dk)), .dat (enc x2), .dat (enc garden_here3), .dat (enc uv4.1), .dat (enc uv4.2.1), .un, .un])) (y0 := ()) (iv_list (ev_lst (el_cons ev_int (el_cons (ev_max2 (fun _ => T.z_max) ev_int (ev_sub (ev_var (k := 5) (y := uv4.2.1)) ev_int)) (el_cons (ev_var (k := 5) (y := uv4.2.1)) (el_cons (ev_add (ev_var (k := 5) (y := uv4.2.1)) ev_int) (el_cons (ev_glob (n := 1000000000000000000) (fun _ => T.g_LIMIT)) (el_cons (ev_callD (Fm_ := fmB) (root := rootB) dk (j := 1) (D := fun _ => ok__law_next T) (fun _ => hr.mono (by decide)) (fun _ => hgd) (by rfl) rfl (ea_cons (ev_add (ev_mul ev_int (ev_var (k := 5) (y := uv4.2.1))) ev_int) ea_nil)) el_nil)))))))) (.same (.same (.same (.same (.same (.same (.same (.same SubG.nil)))))))) (fun s5 x6 => (bd_name (k := 6) (hN := fun _ => sc_law.nd))) (fun s5 x6 => (sv_cons (ss_set (k := 7) (ev_call (D := fun _ => ok_certificate T) (fun _ => hr.mono (by decide)) (fun _ => hgd) (ea_cons (ev_var (k := 3) (y := garden_here3)) (ea_cons (ev_var (k := 6) (y := x6)) ea_nil))) (fun _ => sc_law.nd)) (fun told7 => (sv_cons (ss_if (Gn := (fun s8 : Unit => [.un, .raw (.ref (rootB dk)), .dat (enc x2), .dat (enc garden_here3), .dat (enc uv4.1), .dat (enc uv4.2.1), .dat (enc x6), .dat (enc told7)])) (et_bool (ew_or (et_neS (ev_proj (k := 0) Cert.word word_at (ev_var (k := 7) (y := told7))) (ev_ixL (ev_lst (el_cons ev_str (el_cons ev_str el_nil))) (ev_intB (fun _ => T.z_int) (ev_le (ev_var (k := 5) (y := uv4.2.1)) (ev_var (k := 6) (y := x6)))))) (ew_one_or (et_not (et_val (ev_call (D := fun _ => ok__law_is_certificate T) (fun _ => hr.mono (by decide)) (fun _ => hgd) (ea_cons (ev_var (k := 3) (y := garden_here3)) (ea_cons (ev_var (k := 6) (y := x6)) (ea_cons (ev_var (k := 7) (y := told7)) ea_nil))))))))) (sv_one (ss_ret ev_bool)) (sv_nil (.same (.same (.same (.same (.same (.same (.same (.same SubG.nil)))))))))) (fun s8 => (sv_cons (ss_if (Gn := (fun s9 : Unit => [.un, .raw (.ref (rootB dk)), .dat (enc x2), .dat (enc garden_here3), .dat (enc uv4.1), .dat (enc uv4.2.1), .dat (enc x6), .dat (enc told7)])) (et_bool (ew_or (et_neS (ev_repr (fun _ => hr) (fun _ => hgd) (fun _ => T.z_repr) (ev_call (D := fun _ => ok_certificate T) (fun _ => hr.mono (by decide)) (fun _ => hgd) (ea_cons (ev_var (k := 3) (y := garden_here3)) (ea_cons (ev_var (k := 6) (y := x6)) ea_nil)))) (ev_repr (fun _ => hr) (fun _ => hgd) (fun _ => T.z_repr) (ev_var (k := 7) (y := told7)))) (ew_one_or (et_neS (ev_repr (fun _ => hr) (fun _ => hgd) (fun _ => T.z_repr) (ev_var (k := 3) (y := garden_here3))) (ev_var (k := 4) (y := uv4.1)))))) (sv_one (ss_ret ev_bool)) (sv_nil (.same (.same (.same (.same (.same (.same (.same (.same SubG.nil)))))))))) (fun s9 => (sv_cons (ss_if (Gn := (fun s10 : Unit => [.un, .raw (.ref (rootB dk)), .dat (enc x2), .dat (enc garden_here3), .dat (enc uv4.1), .dat (enc uv4.2.1), .dat (enc x6), .dat (enc told7)])) (et_bool (ew_and (et_eqS (ev_proj (k := 0) Cert.word word_at (ev_var (k := 7) (y := told7))) ev_str) (ew_one_and (et_gt (ev_lenT (fun _ => T.z_len) (ev_projO (k := 1) Cert.asPlan plan_at (ev_var (k := 7) (y := told7)))) ev_int)))) (sv_one (ss_ret ev_bool)) (sv_nil (.same (.same (.same (.same (.same (.same (.same (.same SubG.nil)))))))))) (fun s10 => (sv_nil (.same (.same (.same (.same (.same (.same (.un (.un SubG.nil)))))))))))))))))) (fun _ => PassesOwn.never)) (fun s11 => (sv_nil (.same (.same (.un (.un (.un (.un (.same (.same SubG.nil)))))))))))))))) (fun _ => PassesOwn.never)) (fun s12 => (sv_one (ss_ret (ev_and (ev_eqD (fun _ => hr) (ev_call (D := fun _ => ok_certificate T) (fun _ => hr.mono (by decide)) (fun _ => hgd) (ea_cons (ev_tup3 ev_int ev_int (ev_tup (el_cons (ev_tup2 ev_int ev_int) (el_cons (ev_tup2 ev_int ev_int) el_nil)))) (ea_cons ev_int ea_nil))) (ev_toCountsC (ev_tup2 ev_str (ev_tup (el_cons ev_int (el_cons ev_int el_nil)))))) (ev_one (ev_eqD (fun _ => hr) (ev_call (D := fun _ => ok_certificate T) (fun _ => hr.mono (by decide)) (fun _ => hgd) (ea_cons (ev_tup3 ev_int ev_int (ev_tup el_nil)) (ea_cons ev_int ea_nil))) (ev_toPlanC (ev_tup2 ev_str (ev_tup el_nil))))))))))⟩) hm
end
end K10

namespace PL
open PySem L2 Enc
def sumN (f : Int → Int) (a : Int) : Nat → Int
  | 0 => 0
  | n + 1 => f a + sumN f (a + 1) n
def isum (f : Int → Int) (a b : Int) : Int := sumN f a (b - a).toNat
theorem sumN_add (f : Int → Int) : ∀ (n m : Nat) (a : Int), sumN f a (n + m) = sumN f a n + sumN f (a + n) m
  | 0, m, a => by
    rw [Nat.zero_add, show a + ((0 : Nat) : Int) = a by omega]
    show _ = 0 + _
    omega
  | n + 1, m, a => by
    rw [show n + 1 + m = (n + m) + 1 by omega]
    show f a + sumN f (a + 1) (n + m) = f a + sumN f (a + 1) n + _
    rw [sumN_add f n m (a + 1), show a + 1 + (n : Int) = a + ((n + 1 : Nat) : Int) by omega]
    omega
theorem isum_add {f : Int → Int} {a b c : Int} (h1 : a ≤ b) (h2 : b ≤ c) : isum f a c = isum f a b + isum f b c := by
  unfold isum
  rw [show (c - a).toNat = (b - a).toNat + (c - b).toNat by omega, sumN_add, show a + ((b - a).toNat : Int) = b by omega]
theorem sumN_congr {f g : Int → Int} : ∀ (n : Nat) (a : Int), (∀ x, a ≤ x → x < a + n → f x = g x) → sumN f a n = sumN g a n
  | 0, _, _ => rfl
  | n + 1, a, h => by
    show f a + _ = g a + _
    rw [h a (by omega) (by omega), sumN_congr n (a + 1) fun x h1 h2 => h x (by omega) (by omega)]
theorem isum_congr {f g : Int → Int} {a b : Int} (h : ∀ x, a ≤ x → x < b → f x = g x) : isum f a b = isum g a b := sumN_congr _ _ fun x h1 h2 => h x h1 (by omega)
theorem sumN_const (c : Int) : ∀ (n : Nat) (a : Int), sumN (fun _ => c) a n = n * c
  | 0, _ => by
    show (0 : Int) = _
    simp
  | n + 1, a => by
    show c + sumN (fun _ => c) (a + 1) n = _
    rw [sumN_const c n, Int.natCast_add, Int.add_mul]
    omega
theorem isum_const {c a b : Int} (h : a ≤ b) : isum (fun _ => c) a b = (b - a) * c := by
  unfold isum
  rw [sumN_const, show ((b - a).toNat : Int) = b - a by omega]
theorem isum_self (f : Int → Int) (a : Int) : isum f a a = 0 := by
  unfold isum
  rw [Int.sub_self]
  rfl
theorem isum_const' {f : Int → Int} {c a b : Int} (h : a ≤ b) (hf : ∀ x, a ≤ x → x < b → f x = c) : isum f a b = (b - a) * c := (isum_congr hf).trans (isum_const h)
theorem isum_zero {f : Int → Int} {a b : Int} (hf : ∀ x, a ≤ x → x < b → f x = 0) : isum f a b = 0 := by
  by_cases h : a ≤ b
  · rw [isum_const' h hf, Int.mul_zero]
  · unfold isum
    rw [show (b - a).toNat = 0 by omega]
    rfl
theorem sumN_le {f g : Int → Int} : ∀ (n : Nat) (a : Int), (∀ x, a ≤ x → x < a + n → f x ≤ g x) → sumN f a n ≤ sumN g a n
  | 0, _, _ => Int.le_refl _
  | n + 1, a, h => by
    have h1 := h a (by omega) (by omega)
    have h2 := sumN_le n (a + 1) fun x h1 h2 => h x (by omega) (by omega)
    show f a + _ ≤ g a + _
    omega
theorem isum_le {f g : Int → Int} {a b : Int} (h : ∀ x, a ≤ x → x < b → f x ≤ g x) : isum f a b ≤ isum g a b := sumN_le _ _ fun x h1 h2 => h x h1 (by omega)
theorem sumN_plus (f g : Int → Int) : ∀ (n : Nat) (a : Int), sumN (fun x => f x + g x) a n = sumN f a n + sumN g a n
  | 0, _ => rfl
  | n + 1, a => by
    show f a + g a + _ = f a + _ + (g a + _)
    rw [sumN_plus f g n]
    omega
theorem isum_plus (f g : Int → Int) (a b : Int) : isum (fun x => f x + g x) a b = isum f a b + isum g a b := sumN_plus f g _ _
theorem sumN_mul (c : Int) (f : Int → Int) : ∀ (n : Nat) (a : Int), sumN (fun x => c * f x) a n = c * sumN f a n
  | 0, _ => by
    show (0 : Int) = c * 0
    rw [Int.mul_zero]
  | n + 1, a => by
    show c * f a + _ = c * (f a + _)
    rw [sumN_mul c f n, Int.mul_add]
theorem isum_mul (c : Int) (f : Int → Int) (a b : Int) : isum (fun x => c * f x) a b = c * isum f a b := sumN_mul c f _ _
theorem sumN_shift (f : Int → Int) (s : Int) : ∀ (n : Nat) (a : Int), sumN (fun x => f (x + s)) a n = sumN f (a + s) n
  | 0, _ => rfl
  | n + 1, a => by
    show f (a + s) + _ = f (a + s) + _
    rw [sumN_shift f s n, show a + 1 + s = a + s + 1 by omega]
theorem isum_shift (f : Int → Int) (s a b : Int) : isum (fun x => f (x + s)) a b = isum f (a + s) (b + s) := by
  unfold isum
  rw [sumN_shift, show b + s - (a + s) = b - a by omega]
theorem sumN_last (f : Int → Int) (n : Nat) (a : Int) : sumN f a (n + 1) = sumN f a n + f (a + n) := by
  rw [sumN_add]
  show _ + (f (a + n) + 0) = _
  omega
theorem sumN_rev (f : Int → Int) : ∀ (n : Nat) (a : Int), sumN (fun x => f (-x)) a n = sumN f (1 - a - n) n
  | 0, _ => rfl
  | n + 1, a => by
    rw [sumN_last f n]
    show f (-a) + sumN (fun x => f (-x)) (a + 1) n = _
    rw [sumN_rev f n, show 1 - a - ((n + 1 : Nat) : Int) + (n : Int) = -a by omega, show 1 - (a + 1) - (n : Int) = 1 - a - ((n + 1 : Nat) : Int) by omega]
    omega
theorem isum_rev (f : Int → Int) {a b : Int} (h : a ≤ b) : isum (fun x => f (-x)) a b = isum f (1 - b) (1 - a) := by
  unfold isum
  rw [sumN_rev, show 1 - a - ((b - a).toNat : Int) = 1 - b by omega, show (1 - a - (1 - b)) = b - a by omega]
theorem isum_nn {f : Int → Int} {a b : Int} (h : ∀ x, a ≤ x → x < b → 0 ≤ f x) : 0 ≤ isum f a b := by
  have := isum_le (f := fun _ => 0) h
  rw [isum_zero fun _ _ _ => rfl] at this
  exact this
/-- one summand more -/
theorem isum_lt {f g : Int → Int} {a b y : Int} (h : ∀ x, a ≤ x → x < b → f x ≤ g x) (h1 : a ≤ y) (h2 : y < b) (h3 : f y < g y) : isum f a b < isum g a b := by
  rw [isum_add (f := f) h1 (by omega : y ≤ b), isum_add (f := g) h1 (by omega : y ≤ b), isum_add (f := f) (show y ≤ y + 1 by omega) (by omega : y + 1 ≤ b), isum_add (f := g) (show y ≤ y + 1 by omega) (by omega : y + 1 ≤ b)]
  have q1 := isum_le (f := f) (g := g) (a := a) (b := y) fun x h4 h5 => h x h4 (by omega)
  have q2 := isum_le (f := f) (g := g) (a := y + 1) (b := b) fun x h4 h5 => h x (by omega) h5
  have q3 : isum f y (y + 1) = f y := by
    unfold isum
    rw [show (y + 1 - y).toNat = 1 by omega]
    show f y + 0 = _
    omega
  have q4 : isum g y (y + 1) = g y := by
    unfold isum
    rw [show (y + 1 - y).toNat = 1 by omega]
    show g y + 0 = _
    omega
  omega
theorem isum_one (f : Int → Int) (y : Int) : isum f y (y + 1) = f y := by
  unfold isum
  rw [show (y + 1 - y).toNat = 1 by omega]
  show f y + 0 = _
  omega
/-- a sum over neighbours in a rising list -/
theorem zip_sum {f : Int → Int} {F : Int × Int → Int} : ∀ (l : List Int) (a : Int), (a :: l).Pairwise (· < ·) → (∀ p ∈ (a :: l).zip l, F p = isum f p.1 p.2) → (((a :: l).zip l).map F).sum = isum f a ((a :: l).getLast (by simp))
  | [], a, _, _ => by
    show (0 : Int) = isum f a a
    rw [isum_self]
  | b :: l, a, hp, h => by
    have hab : a < b := (List.pairwise_cons.mp hp).1 b List.mem_cons_self
    have ih := zip_sum l b (List.pairwise_cons.mp hp).2 fun p hp => h p (by rw [List.zip_cons_cons]; exact List.mem_cons_of_mem _ hp)
    have ne : (b :: l) ≠ [] := List.cons_ne_nil _ _
    rw [List.zip_cons_cons, List.map_cons, List.sum_cons, ih, h (a, b) (by rw [List.zip_cons_cons]; exact List.mem_cons_self), List.getLast_cons ne]
    refine (isum_add (f := f) (Int.le_of_lt hab) ?_).symm
    have q := List.getLast_mem (l := b :: l) ne
    rcases List.mem_cons.mp q with q | q
    · rw [q]
      exact Int.le_refl _
    · exact Int.le_of_lt ((List.pairwise_cons.mp (List.pairwise_cons.mp hp).2).1 _ q)
theorem mem_zip_tl {l : List Int} {a b : Int} (h : (a, b) ∈ l.zip (l.drop 1)) : ∃ k : Nat, l[k]? = some a ∧ l[k + 1]? = some b := by
  obtain ⟨k, hk, e⟩ := List.getElem_of_mem h
  refine ⟨k, ?_⟩
  have e2 : (l.zip (l.drop 1))[k]? = some (a, b) := by rw [List.getElem?_eq_getElem hk, e]
  rw [List.getElem?_zip_eq_some] at e2
  obtain ⟨h1, h2⟩ := e2
  rw [List.getElem?_drop] at h2
  exact ⟨h1, by rw [Nat.add_comm]; exact h2⟩
abbrev Gdn := T3 Int Int (Tup (Int × Int))
def litP (p : Int → Bool) (l : List (Int × Int)) : Int := ((l.filter fun x => p x.1).map (·.2)).sum
theorem litP_congr {p q : Int → Bool} {l : List (Int × Int)} (h : ∀ x ∈ l, p x.1 = q x.1) : litP p l = litP q l := by
  unfold litP
  rw [List.filter_congr h]
theorem litP_none {p : Int → Bool} {l : List (Int × Int)} (h : ∀ x ∈ l, p x.1 = false) : litP p l = 0 := by
  unfold litP
  rw [List.filter_eq_nil_iff.mpr fun x hx => by rw [h x hx]; exact Bool.false_ne_true]
  rfl
theorem litP_cons (p : Int → Bool) (x : Int × Int) (l : List (Int × Int)) : litP p (x :: l) = (if p x.1 = true then x.2 else 0) + litP p l := by
  unfold litP
  by_cases h : p x.1 = true
  · rw [List.filter_cons_of_pos (p := fun x : Int × Int => p x.1) h, if_pos h]
    rfl
  · rw [List.filter_cons_of_neg (p := fun x : Int × Int => p x.1) h, if_neg h, Int.zero_add]
theorem litP_nn {p : Int → Bool} {b : Int} : ∀ {l : List (Int × Int)}, (∀ x ∈ l, 0 ≤ x.2 ∧ x.2 ≤ b) → 0 ≤ litP p l ∧ litP p l ≤ l.length * b
  | [], _ => by
    show (0 : Int) ≤ 0 ∧ (0 : Int) ≤ ((0 : Nat) : Int) * b
    simp
  | x :: l, h => by
    have h1 := h x List.mem_cons_self
    have h2 := litP_nn (p := p) (l := l) fun y hy => h y (List.mem_cons_of_mem _ hy)
    rw [litP_cons, List.length_cons, Int.natCast_add, Int.add_mul]
    split <;> omega
theorem litP_le {p q : Int → Bool} : ∀ {l : List (Int × Int)}, (∀ x ∈ l, 0 ≤ x.2) → (∀ x ∈ l, p x.1 = true → q x.1 = true) → litP p l ≤ litP q l
  | [], _, _ => Int.le_refl _
  | x :: l, h, hq => by
    have h1 := h x List.mem_cons_self
    have h2 := litP_le (l := l) (fun y hy => h y (List.mem_cons_of_mem _ hy)) fun y hy => hq y (List.mem_cons_of_mem _ hy)
    have h3 := hq x List.mem_cons_self
    rw [litP_cons, litP_cons]
    by_cases e : p x.1 = true
    · rw [if_pos e, if_pos (h3 e)]
      omega
    · rw [if_neg e]
      split <;> omega
theorem litP_all {l : List (Int × Int)} {p : Int → Bool} (h : ∀ x ∈ l, p x.1 = true) : litP p l = (l.map (·.2)).sum := by
  unfold litP
  rw [List.filter_eq_self.mpr h]
theorem perm_sum {l m : List Int} (h : l.Perm m) : l.sum = m.sum := by
  induction h with
  | nil => rfl
  | cons x _ ih => rw [List.sum_cons, List.sum_cons, ih]
  | swap x y l =>
    rw [List.sum_cons, List.sum_cons, List.sum_cons, List.sum_cons]
    omega
  | trans _ _ h1 h2 => rw [h1, h2]
theorem litP_perm {l m : List (Int × Int)} {p : Int → Bool} (h : l.Perm m) : litP p l = litP p m := by
  unfold litP
  exact perm_sum ((h.filter _).map _)
theorem litP_app (p : Int → Bool) (l m : List (Int × Int)) : litP p (l ++ m) = litP p l + litP p m := by
  unfold litP
  rw [List.filter_append, List.map_append, List.sum_append]
/-- the litres beyond the step from x to x + 1, seen from the tap -/
def byd (g : Gdn) (x : Int) : Int := if g.a ≤ x then litP (fun p => decide (x < p)) (unTup g.c) else litP (fun p => decide (p ≤ x)) (unTup g.c)
def cdiv (n c : Int) : Int := (n + c - 1) / c
theorem cdiv_zero {c : Int} (h : 1 ≤ c) : cdiv 0 c = 0 := Int.ediv_eq_zero_of_lt (by omega) (by omega)
theorem cdiv_iff {n c k : Int} (h : 1 ≤ c) : cdiv n c ≤ k ↔ n ≤ k * c := by
  unfold cdiv
  constructor
  · intro hk
    have h1 := Int.lt_ediv_add_one_mul_self (n + c - 1) (show 0 < c by omega)
    have h2 : ((n + c - 1) / c + 1) * c ≤ (k + 1) * c := Int.mul_le_mul_of_nonneg_right (by omega) (by omega)
    rw [Int.add_mul] at h2
    rw [Int.add_mul, Int.one_mul] at h1 h2
    omega
  · intro hk
    refine Int.lt_add_one_iff.mp (Int.ediv_lt_of_lt_mul (by omega) ?_)
    rw [Int.add_mul, Int.one_mul]
    omega
theorem cdiv_mono {n m c : Int} (h : 1 ≤ c) (hn : n ≤ m) : cdiv n c ≤ cdiv m c := (cdiv_iff h).mpr (Int.le_trans hn ((cdiv_iff h).mp (Int.le_refl _)))
theorem cdiv_nn {n c : Int} (h : 1 ≤ c) (hn : 0 ≤ n) : 0 ≤ cdiv n c := by
  have := cdiv_mono h hn
  rw [cdiv_zero h] at this
  exact this
theorem cdiv_le {n c : Int} (h : 1 ≤ c) (hn : 0 ≤ n) : cdiv n c ≤ n := (cdiv_iff h).mpr (by
  have := Int.mul_le_mul_of_nonneg_left h hn
  omega)
/-- the way: each step out and back as often as the litres beyond it fill cans -/
def wayR (R : Int) (g : Gdn) : Int := isum (fun x => 2 * cdiv (byd g x) g.b) (-R) R
structure Gok (g : Gdn) : Prop where
  len : (unTup g.c).length ≤ 40
  tap : -4000000 ≤ g.a ∧ g.a ≤ 4000000
  can : 1 ≤ g.b ∧ g.b ≤ 1000000000000
  pl : ∀ x ∈ unTup g.c, -1000000 ≤ x.1 ∧ x.1 ≤ 1000000 ∧ 0 ≤ x.2 ∧ x.2 ≤ 1000000000000
theorem Gok.lit {g : Gdn} (h : Gok g) (p : Int → Bool) : 0 ≤ litP p (unTup g.c) ∧ litP p (unTup g.c) ≤ 40000000000000 := by
  have h1 := litP_nn (p := p) (b := 1000000000000) fun x hx => (h.pl x hx).2.2
  have h2 := h.len
  refine ⟨h1.1, Int.le_trans h1.2 ?_⟩
  omega
theorem Gok.byd {g : Gdn} (h : Gok g) (x : Int) : 0 ≤ byd g x ∧ byd g x ≤ 40000000000000 := by
  unfold PL.byd
  split
  · exact h.lit _
  · exact h.lit _
def marksG (g : Gdn) : List Int := sortU (g.a :: (unTup g.c).map (·.1))
theorem mem_marksG {g : Gdn} {x : Int} : x ∈ marksG g ↔ x = g.a ∨ ∃ b ∈ unTup g.c, b.1 = x := by
  unfold marksG
  rw [mem_sortU, List.mem_cons, List.mem_map]
theorem Gok.marks {g : Gdn} (h : Gok g) : (∀ x ∈ marksG g, -4000000 ≤ x ∧ x ≤ 4000000) ∧ (marksG g).length ≤ 41 := by
  refine ⟨fun x hx => ?_, Nat.le_trans (sortU_len _) ?_⟩
  · rcases mem_marksG.mp hx with e | ⟨b, hb, e⟩
    · rw [e]
      exact h.tap
    · have := h.pl b hb
      omega
  · have := h.len
    rw [List.length_cons, List.length_map]
    omega
def stepG (g : Gdn) (x : Int × Int) : T3 Int Int Int := ⟨x.1, x.2, byd g x.1⟩
/-- each stretch with the litres beyond it -/
def strG (g : Gdn) : List (T3 Int Int Int) := ((marksG g).zip ((marksG g).drop 1)).map (stepG g)
/-- two marks side by side -/
structure Nb (g : Gdn) (lo hi : Int) : Prop where
  lt : lo < hi
  tap : g.a ≤ lo ∨ hi ≤ g.a
  pl : ∀ x ∈ unTup g.c, x.1 ≤ lo ∨ hi ≤ x.1
theorem nb_of {g : Gdn} {p : Int × Int} (h : p ∈ (marksG g).zip ((marksG g).drop 1)) : Nb g p.1 p.2 := by
  obtain ⟨k, h1, h2⟩ := mem_zip_tl (a := p.1) (b := p.2) h
  obtain ⟨g1, g2⟩ := gap (sortU_lt _) h1 h2
  exact ⟨g1, g2 g.a (mem_marksG.mpr (.inl rfl)), fun x hx => g2 x.1 (mem_marksG.mpr (.inr ⟨x, hx, rfl⟩))⟩
theorem Nb.byd {g : Gdn} {lo hi x : Int} (h : Nb g lo hi) (h1 : lo ≤ x) (h2 : x < hi) : byd g x = byd g lo := by
  unfold PL.byd
  have ht := h.tap
  by_cases c : g.a ≤ lo
  · rw [if_pos c, if_pos (by omega)]
    refine litP_congr fun b hb => ?_
    have := h.pl b hb
    rw [decide_eq_decide]
    omega
  · rw [if_neg c, if_neg (by omega)]
    refine litP_congr fun b hb => ?_
    have := h.pl b hb
    rw [decide_eq_decide]
    omega
theorem mem_strG {g : Gdn} {t : T3 Int Int Int} (h : t ∈ strG g) : Nb g t.a t.b ∧ t.c = byd g t.a ∧ t.a ∈ marksG g ∧ t.b ∈ marksG g := by
  obtain ⟨p, hp, rfl⟩ := List.mem_map.mp h
  exact ⟨nb_of hp, rfl, (List.of_mem_zip hp).1, List.mem_of_mem_drop (List.of_mem_zip hp).2⟩
theorem Gok.str {g : Gdn} (h : Gok g) : (strG g).length ≤ 40 ∧ ∀ t ∈ strG g, -4000000 ≤ t.a ∧ t.a < t.b ∧ t.b ≤ 4000000 ∧ 0 ≤ t.c ∧ t.c ≤ 40000000000000 := by
  refine ⟨?_, fun t ht => ?_⟩
  · unfold strG
    have := h.marks.2
    rw [List.length_map, List.length_zip, List.length_drop]
    omega
  · obtain ⟨n, e, m1, m2⟩ := mem_strG ht
    have q1 := h.marks.1 _ m1
    have q2 := h.marks.1 _ m2
    have q3 := h.byd t.a
    have q4 := n.lt
    rw [e]
    omega
/-- beyond all marks nothing is wanted -/
theorem byd_out {g : Gdn} {x : Int} (h : (∀ m ∈ marksG g, x < m) ∨ ∀ m ∈ marksG g, m ≤ x) : byd g x = 0 := by
  have ha := mem_marksG (g := g) (x := g.a).mpr (.inl rfl)
  have hb := fun b (hb : b ∈ unTup g.c) => mem_marksG (g := g) (x := b.1).mpr (.inr ⟨b, hb, rfl⟩)
  unfold byd
  rcases h with h | h
  · rw [if_neg (by have := h _ ha; omega)]
    exact litP_none fun b h1 => by
      have := h _ (hb b h1)
      rw [decide_eq_false_iff_not]
      omega
  · rw [if_pos (h _ ha)]
    exact litP_none fun b h1 => by
      have := h _ (hb b h1)
      rw [decide_eq_false_iff_not]
      omega
/-- a sum over the stretches is a sum over all steps -/
theorem str_sum {g : Gdn} {R : Int} (hR : ∀ m ∈ marksG g, -R ≤ m ∧ m ≤ R) (c : Int → Int) (hc : c 0 = 0) : ((strG g).map fun t => (t.b - t.a) * c t.c).sum = isum (fun x => c (byd g x)) (-R) R := by
  have hs := sortU_lt (g.a :: (unTup g.c).map (·.1))
  obtain ⟨m0, ms, e⟩ : ∃ m0 ms, marksG g = m0 :: ms := by
    cases e : marksG g with
    | nil =>
      have := mem_marksG (g := g) (x := g.a).mpr (.inl rfl)
      rw [e] at this
      cases this
    | cons m0 ms => exact ⟨m0, ms, rfl⟩
  have hz : (marksG g).zip ((marksG g).drop 1) = (m0 :: ms).zip ms := by rw [e]; rfl
  have h1 : ((strG g).map fun t => (t.b - t.a) * c t.c).sum = (((m0 :: ms).zip ms).map fun p => (p.2 - p.1) * c (byd g p.1)).sum := by
    unfold strG
    rw [hz, List.map_map]
    rfl
  have hs' : (m0 :: ms).Pairwise (· < ·) := by
    rw [← e]
    exact hs
  rw [h1, zip_sum (f := fun x => c (byd g x)) ms m0 hs' fun p hp => ?_]
  · have q0 := hR m0 (by rw [e]; exact List.mem_cons_self)
    have ql := hR _ (by rw [e]; exact List.getLast_mem (l := m0 :: ms) (by simp))
    have le : m0 ≤ (m0 :: ms).getLast (by simp) := by
      have q := List.getLast_mem (l := m0 :: ms) (by simp)
      rcases List.mem_cons.mp q with q | q
      · rw [q]
        exact Int.le_refl _
      · exact Int.le_of_lt ((List.pairwise_cons.mp hs').1 _ q)
    rw [isum_add (a := -R) (b := m0) (c := R) (by omega) (by omega), isum_add (a := m0) (b := (m0 :: ms).getLast (by simp)) (c := R) le ql.2]
    rw [isum_zero (a := -R) (b := m0) fun x h1 h2 => ?_, isum_zero (a := (m0 :: ms).getLast (by simp)) (b := R) fun x h1 h2 => ?_]
    · omega
    · rw [byd_out (.inr fun m hm => ?_), hc]
      rw [e] at hm
      have : ∀ (l : List Int) (hl : l ≠ []), l.Pairwise (· < ·) → ∀ m ∈ l, m ≤ l.getLast hl := fun l hl => by
        induction l with
        | nil => exact absurd rfl hl
        | cons a l ih =>
          intro hp m hm
          cases l with
          | nil =>
            rw [List.mem_singleton] at hm
            rw [hm]
            exact Int.le_refl _
          | cons b l =>
            rw [List.getLast_cons (by simp)]
            rcases List.mem_cons.mp hm with rfl | hm
            · exact Int.le_of_lt ((List.pairwise_cons.mp hp).1 _ (List.getLast_mem _))
            · exact ih (by simp) (List.pairwise_cons.mp hp).2 m hm
      exact Int.le_trans (this _ (by simp) hs' m hm) h1
    · rw [byd_out (.inl fun m hm => ?_), hc]
      rw [e] at hm
      rcases List.mem_cons.mp hm with rfl | hm
      · exact h2
      · have := (List.pairwise_cons.mp hs').1 m hm
        omega
  · rw [← hz] at hp
    have n := nb_of hp
    rw [isum_const' (c := c (byd g p.1)) (Int.le_of_lt n.lt) fun x h1 h2 => by rw [n.byd h1 h2]]
def KU : Cnt Unit := ⟨fun _ => 0, 0⟩
theorem f_ok {A : Type} {o : Option A} {m : M Unit (Fl Unit Empty A)} {v : A} (h : OkM KU 0 (retM o m) fun r => r = v) : (retM o m ()).map (·.1) = some v := by
  obtain ⟨a, s', e, ha, _⟩ := h () (Nat.le_refl _)
  rw [e, ← ha]
  rfl
end PL

namespace PL
open PySem L2 Enc
theorem filt_sum {A : Type} (q : A → Bool) (f : A → Int) : ∀ l : List A, ((l.filter q).map f).sum = (l.map fun x => if q x = true then f x else 0).sum
  | [] => rfl
  | x :: l => by
    rw [List.map_cons, List.sum_cons, ← filt_sum q f l]
    by_cases h : q x = true
    · rw [List.filter_cons_of_pos h, List.map_cons, List.sum_cons, if_pos h]
    · rw [List.filter_cons_of_neg h, if_neg h, Int.zero_add]
/-- a place between neighbours -/
theorem zip_cover : ∀ (l : List Int) (a y : Int), (a :: l).Pairwise (· < ·) → a ≤ y → y < (a :: l).getLast (List.cons_ne_nil _ _) → ∃ p ∈ (a :: l).zip l, p.1 ≤ y ∧ y < p.2
  | [], a, y, _, h1, h2 => by
    rw [List.getLast_singleton] at h2
    omega
  | b :: l, a, y, hp, h1, h2 => by
    rw [List.getLast_cons (List.cons_ne_nil b l)] at h2
    by_cases h : y < b
    · exact ⟨(a, b), by rw [List.zip_cons_cons]; exact List.mem_cons_self, h1, h⟩
    · obtain ⟨p, hp1, hp2⟩ := zip_cover l b y (List.pairwise_cons.mp hp).2 (by omega) h2
      exact ⟨p, by rw [List.zip_cons_cons]; exact List.mem_cons_of_mem _ hp1, hp2⟩
theorem last_top : ∀ (l : List Int) (hl : l ≠ []), l.Pairwise (· < ·) → ∀ m ∈ l, m ≤ l.getLast hl := fun l hl => by
  induction l with
  | nil => exact absurd rfl hl
  | cons a l ih =>
    intro hp m hm
    cases l with
    | nil =>
      rw [List.mem_singleton] at hm
      rw [hm]
      exact Int.le_refl _
    | cons b l =>
      rw [List.getLast_cons (List.cons_ne_nil b l)]
      rcases List.mem_cons.mp hm with rfl | hm
      · exact Int.le_of_lt ((List.pairwise_cons.mp hp).1 _ (List.getLast_mem _))
      · exact ih (List.cons_ne_nil b l) (List.pairwise_cons.mp hp).2 m hm
def loP (g : Gdn) (p : Int) : Int := if p < g.a then p else g.a
def hiP (g : Gdn) (p : Int) : Int := if g.a < p then p else g.a
theorem lohi (g : Gdn) (p : Int) : (loP g p = p ∧ hiP g p = g.a ∧ p < g.a) ∨ (loP g p = g.a ∧ hiP g p = p ∧ g.a < p) ∨ (loP g p = g.a ∧ hiP g p = g.a ∧ p = g.a) := by
  unfold loP hiP
  by_cases h : p < g.a
  · rw [if_pos h, if_neg (by omega)]
    exact .inl ⟨rfl, rfl, h⟩
  · by_cases h2 : g.a < p
    · rw [if_neg h, if_pos h2]
      exact .inr (.inl ⟨rfl, rfl, h2⟩)
    · rw [if_neg h, if_neg h2]
      exact .inr (.inr ⟨rfl, rfl, by omega⟩)
theorem lo_hi (g : Gdn) (p : Int) : loP g p ≤ hiP g p := by
  rcases lohi g p with h | h | h <;> omega
def marksP (g : Gdn) (p : Int) : List Int := sortU (loP g p :: hiP g p :: ((unTup g.c).filter fun x => decide (loP g p < x.1) && decide (x.1 < hiP g p)).map (·.1))
theorem mem_marksP {g : Gdn} {p x : Int} : x ∈ marksP g p ↔ x = loP g p ∨ x = hiP g p ∨ ∃ b ∈ unTup g.c, b.1 = x ∧ loP g p < x ∧ x < hiP g p := by
  unfold marksP
  rw [mem_sortU, List.mem_cons, List.mem_cons, List.mem_map]
  constructor
  · rintro (h | h | ⟨b, hb, rfl⟩)
    · exact .inl h
    · exact .inr (.inl h)
    · have q := List.mem_filter.mp hb
      have q2 := q.2
      rw [Bool.and_eq_true, decide_eq_true_eq, decide_eq_true_eq] at q2
      exact .inr (.inr ⟨b, q.1, rfl, q2⟩)
  · rintro (h | h | ⟨b, hb, rfl, h⟩)
    · exact .inl h
    · exact .inr (.inl h)
    · exact .inr (.inr ⟨b, List.mem_filter.mpr ⟨hb, by rw [Bool.and_eq_true, decide_eq_true_eq, decide_eq_true_eq]; exact h⟩, rfl⟩)
theorem marksP_in {g : Gdn} {p x : Int} (h : x ∈ marksP g p) : loP g p ≤ x ∧ x ≤ hiP g p := by
  have := lo_hi g p
  rcases mem_marksP.mp h with h | h | ⟨b, _, _, h⟩ <;> omega
/-- two marks side by side on the way to a place -/
structure NbP (g : Gdn) (p lo hi : Int) : Prop where
  lt : lo < hi
  le : loP g p ≤ lo ∧ hi ≤ hiP g p
  pl : ∀ x ∈ unTup g.c, x.1 ≤ lo ∨ hi ≤ x.1
theorem nbP_of {g : Gdn} {p : Int} {x : Int × Int} (h : x ∈ (marksP g p).zip ((marksP g p).drop 1)) : NbP g p x.1 x.2 := by
  obtain ⟨k, h1, h2⟩ := mem_zip_tl (a := x.1) (b := x.2) h
  obtain ⟨g1, g2⟩ := gap (sortU_lt _) h1 h2
  have m1 := marksP_in (List.mem_of_getElem? h1)
  have m2 := marksP_in (List.mem_of_getElem? h2)
  refine ⟨g1, ⟨m1.1, m2.2⟩, fun b hb => ?_⟩
  by_cases c : loP g p < b.1 ∧ b.1 < hiP g p
  · exact g2 b.1 (mem_marksP.mpr (.inr (.inr ⟨b, hb, rfl, c⟩)))
  · omega
theorem NbP.byd {g : Gdn} {p lo hi x : Int} (h : NbP g p lo hi) (h1 : lo ≤ x) (h2 : x < hi) : PL.byd g x = PL.byd g lo := by
  unfold PL.byd
  have hl := h.le
  have hh := lohi g p
  by_cases c : g.a ≤ lo
  · rw [if_pos c, if_pos (by omega)]
    refine litP_congr fun b hb => ?_
    have := h.pl b hb
    rw [decide_eq_decide]
    omega
  · rw [if_neg c, if_neg (by omega)]
    refine litP_congr fun b hb => ?_
    have := h.pl b hb
    rw [decide_eq_decide]
    omega
/-- each part of the path to a place with the litres beyond it -/
def partsG (g : Gdn) (p : Int) : List (Int × Int) := ((marksP g p).zip ((marksP g p).drop 1)).map fun x => (x.2 - x.1, byd g x.1)
theorem marksP_cons (g : Gdn) (p : Int) : ∃ ms, marksP g p = loP g p :: ms ∧ (loP g p :: ms).Pairwise (· < ·) ∧ (loP g p :: ms).getLast (List.cons_ne_nil _ _) = hiP g p := by
  have hs : (marksP g p).Pairwise (· < ·) := sortU_lt _
  have h1 := mem_marksP (g := g) (p := p) (x := loP g p).mpr (.inl rfl)
  have h2 := mem_marksP (g := g) (p := p) (x := hiP g p).mpr (.inr (.inl rfl))
  cases e : marksP g p with
  | nil =>
    rw [e] at h1
    cases h1
  | cons m ms =>
    have q := marksP_in (g := g) (p := p) (x := m) (by rw [e]; exact List.mem_cons_self)
    rw [e] at hs h1 h2
    have hm : m = loP g p := by
      rcases List.mem_cons.mp h1 with h | h
      · exact h.symm
      · have := (List.pairwise_cons.mp hs).1 _ h
        omega
    subst hm
    refine ⟨ms, rfl, hs, ?_⟩
    have q1 := last_top _ (List.cons_ne_nil _ _) hs _ h2
    have q2 := marksP_in (g := g) (p := p) (x := (loP g p :: ms).getLast (List.cons_ne_nil _ _)) (by rw [e]; exact List.getLast_mem _)
    omega
theorem parts_sum (g : Gdn) (p : Int) (c : Int → Int) : ((partsG g p).map fun x => x.1 * c x.2).sum = isum (fun x => c (byd g x)) (loP g p) (hiP g p) := by
  obtain ⟨ms, e, hs, hl⟩ := marksP_cons g p
  have hz : (marksP g p).zip ((marksP g p).drop 1) = (loP g p :: ms).zip ms := by rw [e]; rfl
  unfold partsG
  rw [hz, List.map_map]
  have := zip_sum (f := fun x => c (byd g x)) (F := (fun x => x.1 * c x.2) ∘ fun x : Int × Int => (x.2 - x.1, byd g x.1)) ms (loP g p) hs fun q hq => by
    rw [← hz] at hq
    have n := nbP_of hq
    rw [isum_const' (c := c (byd g q.1)) (Int.le_of_lt n.lt) fun x h1 h2 => by rw [n.byd h1 h2]]
    rfl
  rw [this]
  rw [hl]
theorem parts_mem {g : Gdn} {p : Int} {x : Int × Int} (h : x ∈ partsG g p) : ∃ y, loP g p ≤ y ∧ y < hiP g p ∧ x.2 = byd g y ∧ 0 < x.1 ∧ x.1 ≤ hiP g p - loP g p := by
  obtain ⟨q, hq, rfl⟩ := List.mem_map.mp h
  have n := nbP_of hq
  have h1 := n.lt
  have h2 := n.le
  refine ⟨q.1, h2.1, by omega, rfl, ?_, ?_⟩
  · show 0 < q.2 - q.1
    omega
  · show q.2 - q.1 ≤ _
    omega
theorem parts_at {g : Gdn} {p y : Int} (h1 : loP g p ≤ y) (h2 : y < hiP g p) : ∃ x ∈ partsG g p, x.2 = byd g y := by
  obtain ⟨ms, e, hs, hl⟩ := marksP_cons g p
  obtain ⟨q, hq, q1, q2⟩ := zip_cover ms (loP g p) y hs h1 (by rw [hl]; exact h2)
  have hz : (marksP g p).zip ((marksP g p).drop 1) = (loP g p :: ms).zip ms := by rw [e]; rfl
  rw [← hz] at hq
  exact ⟨_, List.mem_map.mpr ⟨q, hq, rfl⟩, ((nbP_of hq).byd q1 q2).symm⟩
theorem parts_len (g : Gdn) (p : Int) : (partsG g p).length ≤ (unTup g.c).length + 1 := by
  unfold partsG
  have h := sortU_len (loP g p :: hiP g p :: ((unTup g.c).filter fun x => decide (loP g p < x.1) && decide (x.1 < hiP g p)).map (·.1))
  have h2 := List.length_filter_le (fun x : Int × Int => decide (loP g p < x.1) && decide (x.1 < hiP g p)) (unTup g.c)
  rw [List.length_cons, List.length_cons, List.length_map] at h
  rw [List.length_map, List.length_zip, List.length_drop]
  have e : (marksP g p).length = (sortU (loP g p :: hiP g p :: ((unTup g.c).filter fun x => decide (loP g p < x.1) && decide (x.1 < hiP g p)).map (·.1))).length := rfl
  omega
theorem parts_nil (g : Gdn) (p : Int) : partsG g p = [] ↔ p = g.a := by
  constructor
  · intro h
    rcases lohi g p with q | q | q
    · obtain ⟨x, hx, _⟩ := parts_at (g := g) (p := p) (y := loP g p) (Int.le_refl _) (by omega)
      rw [h] at hx
      cases hx
    · obtain ⟨x, hx, _⟩ := parts_at (g := g) (p := p) (y := loP g p) (Int.le_refl _) (by omega)
      rw [h] at hx
      cases hx
    · exact q.2.2
  · intro h
    cases e : partsG g p with
    | nil => rfl
    | cons x l =>
      obtain ⟨y, h1, h2, _⟩ := parts_mem (g := g) (p := p) (x := x) (by rw [e]; exact List.mem_cons_self)
      rcases lohi g p with q | q | q <;> omega
theorem cdiv_succ {n c : Int} (h : 1 ≤ c) : cdiv (n + 1) c = cdiv n c + if n % c = 0 then 1 else 0 := by
  have e := Int.mul_ediv_add_emod n c
  have r0 := Int.emod_nonneg n (show c ≠ 0 by omega)
  have r1 := Int.emod_lt_of_pos n (show 0 < c by omega)
  unfold cdiv
  have e1 : n + 1 + c - 1 = n % c + c * (n / c + 1) := by
    rw [Int.mul_add]
    omega
  rw [e1, Int.add_mul_ediv_left _ _ (show c ≠ 0 by omega), Int.ediv_eq_zero_of_lt r0 r1]
  by_cases z : n % c = 0
  · rw [if_pos z]
    have e2 : n + c - 1 = (c - 1) + c * (n / c) := by omega
    rw [e2, Int.add_mul_ediv_left _ _ (show c ≠ 0 by omega), show (c - 1) / c = 0 from Int.ediv_eq_zero_of_lt (by omega) (by omega)]
    omega
  · rw [if_neg z]
    have e2 : n + c - 1 = (n % c - 1) + c * (n / c + 1) := by
      rw [Int.mul_add]
      omega
    rw [e2, Int.add_mul_ediv_left _ _ (show c ≠ 0 by omega), show (n % c - 1) / c = 0 from Int.ediv_eq_zero_of_lt (by omega) (by omega)]
    omega
/-- what still fits -/
theorem room_eq {n c : Int} (h : 1 ≤ c) : (-n) % c = cdiv n c * c - n := by
  have h1 : n ≤ cdiv n c * c := (cdiv_iff h).mp (Int.le_refl _)
  have h2 : cdiv n c * c < n + c := by
    have := Int.ediv_mul_le (n + c - 1) (show c ≠ 0 by omega)
    unfold cdiv
    omega
  have e : -n = (cdiv n c * c - n) + c * (-(cdiv n c)) := by
    rw [Int.mul_neg, Int.mul_comm c]
    omega
  rw [e, Int.add_mul_emod_self_left]
  exact Int.emod_eq_of_lt (by omega) (by omega)
theorem cdiv_room {n k c : Int} (h : 1 ≤ c) (hk : 0 ≤ k) : cdiv (n + k) c = cdiv n c ↔ k ≤ (-n) % c := by
  rw [room_eq h]
  constructor
  · intro e
    have := (cdiv_iff (n := n + k) h).mp (Int.le_of_eq e)
    omega
  · intro e
    have h1 := (cdiv_iff (n := n + k) (k := cdiv n c) h).mpr (by omega)
    have h2 := cdiv_mono h (show n ≤ n + k by omega)
    omega
theorem cdiv_neg {n c : Int} (h : 1 ≤ c) : -(-n / c) = cdiv n c := by
  have h1 := room_eq (n := n) h
  have h2 := Int.mul_ediv_add_emod (-n) c
  have e : c * (-n / c) = c * (-(cdiv n c)) := by
    rw [Int.mul_neg, Int.mul_comm c (cdiv n c)]
    omega
  have := Int.eq_of_mul_eq_mul_left (show c ≠ 0 by omega) e
  omega
theorem cdiv_anti {n c d : Int} (h : 1 ≤ c) (hd : c ≤ d) (hn : 0 ≤ n) : cdiv n d ≤ cdiv n c := by
  refine (cdiv_iff (by omega)).mpr ?_
  have h1 := (cdiv_iff (n := n) h).mp (Int.le_refl _)
  have h2 := Int.mul_le_mul_of_nonneg_left hd (cdiv_nn h hn)
  omega
theorem cdiv_big {n c : Int} (h : 1 ≤ c) (hn : 0 ≤ n) (hc : n ≤ c) : cdiv n c = if n = 0 then 0 else 1 := by
  by_cases z : n = 0
  · rw [if_pos z, z, cdiv_zero h]
  · rw [if_neg z]
    have h1 := (cdiv_iff (n := n) (k := 1) h).mpr (by omega)
    have h2 : ¬ cdiv n c ≤ 0 := fun q => by
      have := (cdiv_iff (n := n) (k := 0) h).mp q
      omega
    omega
/-- beds with so many litres more at a place -/
def MoreAt (l m : List (Int × Int)) (p k : Int) : Prop := ∀ q : Int → Bool, litP q m = litP q l + if q p = true then k else 0
theorem byd_more {g g' : Gdn} {p k : Int} (ha : g'.a = g.a) (h : MoreAt (unTup g.c) (unTup g'.c) p k) (x : Int) : byd g' x = byd g x + if loP g p ≤ x ∧ x < hiP g p then k else 0 := by
  unfold byd
  rw [ha]
  have hh := lohi g p
  by_cases c : g.a ≤ x
  · rw [if_pos c, if_pos c, h]
    by_cases d : x < p
    · rw [if_pos (decide_eq_true d), if_pos (by omega)]
    · rw [if_neg (by rw [decide_eq_false d]; exact Bool.false_ne_true), if_neg (by omega)]
  · rw [if_neg c, if_neg c, h]
    by_cases d : p ≤ x
    · rw [if_pos (decide_eq_true d), if_pos (by omega)]
    · rw [if_neg (by rw [decide_eq_false d]; exact Bool.false_ne_true), if_neg (by omega)]
/-- what the way grows by is seen on the way to the place -/
theorem way_more {g g' : Gdn} {p k R : Int} (ha : g'.a = g.a) (hb : g'.b = g.b) (h : MoreAt (unTup g.c) (unTup g'.c) p k) (h1 : -R ≤ loP g p) (h2 : hiP g p ≤ R) :
    wayR R g' = wayR R g + isum (fun x => 2 * (cdiv (byd g x + k) g.b - cdiv (byd g x) g.b)) (loP g p) (hiP g p) := by
  have hl := lo_hi g p
  have e : wayR R g' = isum (fun x => 2 * cdiv (byd g x) g.b + (if loP g p ≤ x ∧ x < hiP g p then 2 * (cdiv (byd g x + k) g.b - cdiv (byd g x) g.b) else 0)) (-R) R := by
    unfold wayR
    refine isum_congr fun x _ _ => ?_
    rw [byd_more ha h, hb]
    by_cases c : loP g p ≤ x ∧ x < hiP g p
    · rw [if_pos c, if_pos c]
      omega
    · rw [if_neg c, if_neg c, Int.add_zero, Int.add_zero]
  rw [e, isum_plus, isum_add (f := fun x => if loP g p ≤ x ∧ x < hiP g p then 2 * (cdiv (byd g x + k) g.b - cdiv (byd g x) g.b) else 0) (a := -R) (b := loP g p) (c := R) h1 (by omega), isum_add (f := fun x => if loP g p ≤ x ∧ x < hiP g p then 2 * (cdiv (byd g x + k) g.b - cdiv (byd g x) g.b) else 0) (a := loP g p) (b := hiP g p) (c := R) hl h2,
    isum_zero (a := -R) fun x q1 q2 => if_neg (by omega), isum_zero (b := R) fun x q1 q2 => if_neg (by omega), isum_congr (a := loP g p) (b := hiP g p) (g := fun x => 2 * (cdiv (byd g x + k) g.b - cdiv (byd g x) g.b)) fun x q1 q2 => if_pos ⟨q1, q2⟩]
  unfold wayR
  omega
end PL

local macro_rules | `(tactic| walk_at "side") => `(tactic| first | with_reducible exact PL.shp_two | omega | decide | exact Nat.le_of_ble_eq_true rfl | exact PL.wide_of (by omega) (by omega) | exact ⟨by omega, PL.wide_of (by omega) (by omega)⟩ | exact ⟨PL.wide_of (by omega) (by omega), PL.wide_of (by omega) (by omega)⟩ | exact ⟨by omega, by omega⟩ | (unfold PL.modOk; omega) | (unfold PL.lenOk; omega) | ((try unfold PL.lenOk); simp only [List.length_append, List.length_cons, List.length_nil, List.length_map, List.length_replicate, List.length_dropLast, PL.len_rangeL]; omega))
local macro_rules | `(tactic| walk_at "step") => `(tactic| first | ((with_reducible refine PL.ob_guard ?hg ?_); case hg => (walk_at "side")) | ((with_reducible refine PL.ob_draw ?h1 ?h2 (by omega) fun _ _ _ => ?_); (case h1 => (walk_at "side")); (case h2 => (walk_at "side"))) | ((with_reducible refine PL.ob_draw1 ?h1 ?h2 (by omega) fun _ _ _ => ?_); (case h1 => (walk_at "side")); (case h2 => (walk_at "side"))) | ((with_reducible refine PL.ob_ix ?h0 ?h1 fun _ hx => ?_); (case h0 => omega); (case h1 => (simp only [List.length_append, List.length_cons, List.length_nil, List.length_map] at *; omega)); simp only [List.mem_append, List.mem_cons, List.not_mem_nil, or_false] at hx))
namespace PP
open PySem L2 PL PL.Enc
def m_litres_from (u : (Tup (Int × Int)) × Int × Int × Unit) : M Unit (Fl Unit Empty Int) :=
  (retS (fun1M (fun l : List Int => some l.sum) (compM (mapM1 unTup (pureM u.1)) (fun x1 : (Int × Int) => (chainM (fun i j => decide (i ≤ j)) (fun i j => decide (i ≤ j)) (pureM u.2.1) (pureM x1.1) (pureM u.2.2.1))) (fun x1 : (Int × Int) => (pureM x1.2)))))
def f_litres_from (u : (Tup (Int × Int)) × Int × Int × Unit) : Option Int := (retM none (m_litres_from u) ()).map (·.1)
def m_stretches_of (u : (T3 Int Int (Tup (Int × Int))) × Unit) : M Unit (Fl Unit Empty (Tup (T3 Int Int Int))) :=
  (seqM (setS (pureM u.1)) (fun y1 : (T3 Int Int (Tup (Int × Int))) => (seqM (setS (sortUM (lstM (consM (pureM y1.a) (appM (compM (mapM1 unTup (pureM y1.c)) (fun x3 : (Int × Int) => (pureM true)) (fun x3 : (Int × Int) => (pureM x3.1))) (pureM ([] : List Int))))))) (fun marks2 : (List Int) => (seqM (setS (pureM ([] : (List (T3 Int Int Int))))) (fun found4 : (List (T3 Int Int Int)) => (seqM (forS (zipM (pureM marks2) (cutM (pureM marks2) (mapM1 some (pureM (1 : Int))) (pureM none))) (fun (s5 : ((List (T3 Int Int Int)))) (x6 : (Int × Int)) => (seqM (setS (iteM (geM (pureM x6.1) (pureM y1.a)) (callF f_litres_from (pairM (pureM y1.c) (pairM (pureM x6.2) (pairM (pureM (1000000 : Int)) (pureM ()))))) (callF f_litres_from (pairM (pureM y1.c) (pairM (subM (pureM (0 : Int)) (pureM (1000000 : Int))) (pairM (pureM x6.1) (pureM ()))))))) (fun litres7 : Int => (seqM (appS s5 (tup3M (pureM x6.1) (pureM x6.2) (pureM litres7))) (fun y8 : (T3 Int Int Int) => (pureM (.nx ((s5 ++ [y8]))))))))) (found4)) (fun s9 : ((List (T3 Int Int Int))) => (retS (fun1M (fun l : (List (T3 Int Int Int)) => some (toTup l)) (pureM s9)))))))))))
def f_stretches_of (u : (T3 Int Int (Tup (Int × Int))) × Unit) : Option (Tup (T3 Int Int Int)) := (retM none (m_stretches_of u) ()).map (·.1)
def m_cans_for (u : Int × Int × Unit) : M Unit (Fl Unit Empty Int) :=
  (retS (divM (subM (addM (pureM u.1) (pureM u.2.1)) (pureM (1 : Int))) (pureM u.2.1)))
def f_cans_for (u : Int × Int × Unit) : Option Int := (retM none (m_cans_for u) ()).map (·.1)
def m_counts_of (u : (T3 Int Int (Tup (Int × Int))) × Unit) : M Unit (Fl Unit Empty (Tup Int)) :=
  (seqM (setS (pureM u.1)) (fun y1 : (T3 Int Int (Tup (Int × Int))) => (retS (fun1M (fun l : (List Int) => some (toTup l)) (compM (mapM1 unTup (callF f_stretches_of (pairM (pureM u.1) (pureM ())))) (fun x2 : (T3 Int Int Int) => (pureM true)) (fun x2 : (T3 Int Int Int) => (callF f_cans_for (pairM (pureM x2.c) (pairM (pureM y1.b) (pureM ()))))))))))
def f_counts_of (u : (T3 Int Int (Tup (Int × Int))) × Unit) : Option (Tup Int) := (retM none (m_counts_of u) ()).map (·.1)
def m_way_by (u : (T3 Int Int (Tup (Int × Int))) × (Tup Int) × Unit) : M Unit (Fl Unit Empty Int) :=
  (retS (fun1M (fun l : List Int => some l.sum) (compM (zipM (mapM1 unTup (callF f_stretches_of (pairM (pureM u.1) (pureM ())))) (mapM1 unTup (pureM u.2.1))) (fun x1 : ((T3 Int Int Int) × Int) => (pureM true)) (fun x1 : ((T3 Int Int Int) × Int) => (mulM (mulM (pureM (2 : Int)) (subM (pureM x1.1.b) (pureM x1.1.a))) (pureM x1.2))))))
def f_way_by (u : (T3 Int Int (Tup (Int × Int))) × (Tup Int) × Unit) : Option Int := (retM none (m_way_by u) ()).map (·.1)
def m_least_way (u : (T3 Int Int (Tup (Int × Int))) × Unit) : M Unit (Fl Unit Empty Int) :=
  (retS (callF f_way_by (pairM (pureM u.1) (pairM (callF f_counts_of (pairM (pureM u.1) (pureM ()))) (pureM ())))))
def f_least_way (u : (T3 Int Int (Tup (Int × Int))) × Unit) : Option Int := (retM none (m_least_way u) ()).map (·.1)
def m_way_at (u : (T3 Int Int (Tup (Int × Int))) × Int × Unit) : M Unit (Fl Unit Empty Int) :=
  (seqM (setS (pureM u.1)) (fun y1 : (T3 Int Int (Tup (Int × Int))) => (retS (callF f_least_way (pairM (tup3M (pureM u.2.1) (pureM y1.b) (pureM y1.c)) (pureM ()))))))
def f_way_at (u : (T3 Int Int (Tup (Int × Int))) × Int × Unit) : Option Int := (retM none (m_way_at u) ()).map (·.1)
theorem litres_ok (beds : Tup (Int × Int)) (lo hi : Int) (h : (unTup beds).length ≤ 100) : f_litres_from (beds, lo, hi, ()) = some (litP (fun p => decide (lo ≤ p) && decide (p ≤ hi)) (unTup beds)) := by
  refine f_of ?_
  simp only [m_litres_from, nf1, nf2, nf3, nf4]
  rw [guard_true (show lenOk _ from Nat.le_trans h (by decide))]
  rfl
theorem stretches_ok {g : Gdn} (h : Gok g) : f_stretches_of (g, ()) = some (toTup (strG g)) := by
  refine f_of ?_
  simp only [m_stretches_of, nf1, nf2, nf3, nf4, cutL_tail]
  have hl := h.len
  have hm := h.marks.2
  rw [guard_true (lenOk_le (by omega)), guard_true (lenOk_le (by rw [List.length_cons, List.length_map]; omega)), guard_true (by rw [List.length_cons, List.length_map]; omega), lp_app (stepG g) (by
    rw [List.length_zip]
    show min (marksG g).length _ ≤ _
    omega)]
  · rfl
  · intro y x hx
    have n : Nb g x.1 x.2 := nb_of hx
    have e1 : byd g x.1 = if g.a ≤ x.1 then litP (fun p => decide (x.2 ≤ p) && decide (p ≤ 1000000)) (unTup g.c) else litP (fun p => decide (0 - 1000000 ≤ p) && decide (p ≤ x.1)) (unTup g.c) := by
      unfold byd
      have a0 := n.lt
      split
      · refine litP_congr fun b hb => ?_
        have a1 := n.pl b hb
        have a2 := h.pl b hb
        rw [Bool.eq_iff_iff]
        simp only [Bool.and_eq_true, decide_eq_true_eq]
        omega
      · refine litP_congr fun b hb => ?_
        have a1 := n.pl b hb
        have a2 := h.pl b hb
        rw [Bool.eq_iff_iff]
        simp only [Bool.and_eq_true, decide_eq_true_eq]
        omega
    have e2 : stepG g x = ⟨x.1, x.2, if g.a ≤ x.1 then litP (fun p => decide (x.2 ≤ p) && decide (p ≤ 1000000)) (unTup g.c) else litP (fun p => decide (0 - 1000000 ≤ p) && decide (p ≤ x.1)) (unTup g.c)⟩ := by rw [← e1]; rfl
    rw [e2]
    by_cases hc : g.a ≤ x.1
    · simp only [hc, decide_true, if_true, litres_ok _ _ _ (show (unTup g.c).length ≤ 100 by omega), nf1]
    · simp only [hc, decide_false, Bool.false_eq_true, if_false, litres_ok _ _ _ (show (unTup g.c).length ≤ 100 by omega), nf1]
theorem cans_ok {n c : Int} (h : 1 ≤ c) (h2 : c ≤ 1000000000000) : f_cans_for (n, c, ()) = some (cdiv n c) := by
  refine f_of ?_
  simp only [m_cans_for, nf1, nf2, nf3, nf4]
  rw [guard_true (show divOk _ _ from ⟨by omega, wide_of (by omega) (by omega)⟩)]
  rfl
theorem counts_ok {g : Gdn} (h : Gok g) : f_counts_of (g, ()) = some (toTup ((strG g).map fun t => cdiv t.c g.b)) := by
  refine f_of ?_
  have hc := h.can
  have hs := h.str
  simp only [m_counts_of, nf1, nf2, nf3, nf4, stretches_ok h]
  rw [guard_true (lenOk_le (show (strG g).length ≤ _ by omega)), lcM_pure (q := fun _ => true) (g := fun t : T3 Int Int Int => cdiv t.c g.b) (fun _ _ => rfl) fun x hx _ => by rw [cans_ok hc.1 hc.2]; rfl, List.filter_eq_self.mpr fun _ _ => rfl]
  rfl
theorem zip_map_self {A B : Type} (f : A → B) : ∀ l : List A, l.zip (l.map f) = l.map fun x => (x, f x)
  | [] => rfl
  | x :: l => by rw [List.map_cons, List.zip_cons_cons, zip_map_self f l, List.map_cons]
/-- the way with counts that belong to the stretches -/
theorem way_by_ok {g : Gdn} (h : Gok g) (cs : List Int) (hw : ∀ x ∈ (strG g).zip cs, -(2 ^ 199) ≤ x.2 ∧ x.2 ≤ 2 ^ 199) : f_way_by (g, toTup cs, ()) = some (((strG g).zip cs).map fun x => 2 * (x.1.b - x.1.a) * x.2).sum := by
  refine f_of ?_
  have hs := h.str
  simp only [m_way_by, nf1, nf2, nf3, nf4, stretches_ok h]
  rw [guard_true (lenOk_le (by
    rw [List.length_zip]
    show min (strG g).length _ ≤ _
    omega)), lcM_pure (q := fun _ => true) (g := fun x : T3 Int Int Int × Int => 2 * (x.1.b - x.1.a) * x.2) (fun _ _ => rfl) fun x hx _ => ?_, List.filter_eq_self.mpr fun _ _ => rfl]
  · rfl
  · have q1 := hs.2 x.1 (List.of_mem_zip hx).1
    have q2 := hw x hx
    rw [guard_true (show mulOk _ _ from ⟨by decide, wide_of (by omega) (by omega)⟩), guard_true (show mulOk _ _ from ⟨wide_of (by omega) (by omega), wide_of (by omega) (by omega)⟩)]
theorem least_ok {g : Gdn} (h : Gok g) {R : Int} (hR : 4000000 ≤ R) : f_least_way (g, ()) = some (wayR R g) := by
  refine f_of ?_
  have hc := h.can
  have hs := h.str
  have hm := h.marks
  simp only [m_least_way, nf1, nf2, nf3, nf4, counts_ok h]
  rw [way_by_ok h _ fun x hx => ?_, zip_map_self, List.map_map]
  · unfold wayR
    rw [← str_sum (g := g) (R := R) (fun m hm' => by have := hm.1 m hm'; omega) (fun n => 2 * cdiv n g.b) (by rw [cdiv_zero hc.1]; rfl)]
    refine congrArg (fun l : List Int => (pureM (List.sum l) : M Unit Int)) (List.map_congr_left fun t ht => ?_)
    show 2 * (t.b - t.a) * cdiv t.c g.b = (t.b - t.a) * (2 * cdiv t.c g.b)
    rw [Int.mul_comm 2, Int.mul_assoc]
  · rw [zip_map_self] at hx
    obtain ⟨t, ht, rfl⟩ := List.mem_map.mp hx
    have q := hs.2 t ht
    have q1 := cdiv_nn hc.1 q.2.2.2.1
    have q2 := cdiv_le hc.1 q.2.2.2.1
    show -(2 ^ 199) ≤ cdiv t.c g.b ∧ cdiv t.c g.b ≤ 2 ^ 199
    omega
theorem way_at_ok {g : Gdn} {p : Int} (h : Gok ⟨p, g.b, g.c⟩) {R : Int} (hR : 4000000 ≤ R) : f_way_at (g, p, ()) = some (wayR R ⟨p, g.b, g.c⟩) := by
  refine f_of ?_
  simp only [m_way_at, nf1, nf2, nf3, nf4, least_ok h hR]
end PP

local macro_rules | `(tactic| walk_at "side") => `(tactic| first | with_reducible exact PL.shp_two | omega | decide | exact Nat.le_of_ble_eq_true rfl | exact PL.wide_of (by omega) (by omega) | exact ⟨by omega, PL.wide_of (by omega) (by omega)⟩ | exact ⟨PL.wide_of (by omega) (by omega), PL.wide_of (by omega) (by omega)⟩ | exact ⟨by omega, by omega⟩ | (unfold PL.modOk; omega) | (unfold PL.lenOk; omega) | ((try unfold PL.lenOk); simp only [List.length_append, List.length_cons, List.length_nil, List.length_map, List.length_replicate, List.length_dropLast, PL.len_rangeL]; omega))
local macro_rules | `(tactic| walk_at "step") => `(tactic| first | ((with_reducible refine PL.ob_guard ?hg ?_); case hg => (walk_at "side")) | ((with_reducible refine PL.ob_next ?h1 ?h2 (by omega) fun _ _ _ => ?_); (case h1 => (walk_at "side")); (case h2 => (walk_at "side"))) | ((with_reducible refine PL.ob_next1 ?h1 ?h2 (by omega) fun _ _ _ => ?_); (case h1 => (walk_at "side")); (case h2 => (walk_at "side"))) | ((with_reducible refine PL.ob_ix ?h0 ?h1 fun _ hx => ?_); (case h0 => omega); (case h1 => (simp only [List.length_append, List.length_cons, List.length_nil, List.length_map] at *; omega)); simp only [List.mem_append, List.mem_cons, List.not_mem_nil, or_false] at hx))
namespace PL
open PySem L2 Enc
def m_c_draws (ns : List Int) : M Unit (Fl Unit Empty PyData) :=
  (seqM (setS (catM (fun1M (fun l : (List Int) => some l) (pureM (ns.take 63))) (repM (lstM (consM (pureM (0 : Int)) (pureM ([] : List Int)))) (fun1M (fun n : Bool => some (b2I n)) (eqIM (pureM (ns.length : Int)) (pureM (0 : Int))))))) (fun cells1 : (List Int) => (retS (mapM1 enc (lstM (consM (mapM1 enc (pureM cells1)) (consM (mapM1 enc (pureM (0 : Int))) (consM (mapM1 enc (compM (pureM cells1) (fun x2 : Int => (pureM true)) (fun x2 : Int => (mulWM (pureM x2) (fun1M (fun n : Bool => some (b2I n)) (geM (pureM x2) (powM (pureM (10 : Int)) (pureM (18 : Int))))))))) (pureM ([] : List PyData))))))))))
def f_c_draws (ns : List Int) : Option PyData := (retM none (m_c_draws ns) ()).map (·.1)
def m_c_next (u : Int × Unit) : M DkB (Fl Unit Empty Int) :=
  (seqM (bindM dkbN fun y => pureM (.nx y)) (fun nth1 : Int => (seqM (setS (modM (pureM nth1) (rdLen cellsB))) (fun spot2 : Int => (seqM (bindM (addM (pureM nth1) (pureM (1 : Int))) fun y => bindM (dkbSetN y) fun _ => pureM (.nx ())) (fun _ : Unit => (seqM (iteM (gtM (bindM (pureM spot2) (rdAt restsB)) (pureM (0 : Int))) (seqM (setS (modM (bindM (pureM spot2) (rdAt restsB)) (pureM u.1))) (fun digit3 : Int => (seqM (bindM (divM (bindM (pureM spot2) (rdAt restsB)) (pureM u.1)) fun y => bindM (pureM spot2) fun i => bindM (dkbSet i y) fun _ => pureM (.nx ())) (fun _ : Unit => (retS (pureM digit3)))))) (pureM (.nx ()))) (fun s4 : Unit => (seqM (setS (modM (powM (addM (addM (modM (bindM (pureM spot2) (rdAt cellsB)) (pureM (2147483647 : Int))) (mulM (pureM (69621 : Int)) (pureM nth1))) (pureM (30269 : Int))) (pureM (3 : Int))) (pureM (2147483629 : Int)))) (fun mixed5 : Int => (seqM (setS (modM (powM (addM (addM (pureM mixed5) (mulM (mulM (pureM (6007 : Int)) (pureM nth1)) (pureM nth1))) (pureM (17 : Int))) (pureM (3 : Int))) (pureM (2147483587 : Int)))) (fun more6 : Int => (retS (modM (modM (addM (mulM (pureM more6) (pureM (2147483423 : Int))) (pureM mixed5)) (pureM (4611686018427387847 : Int))) (pureM u.1)))))))))))))))
def d_c_next (u : Int × Unit) : M DkB Int := retM none (m_c_next u)
def m_c_one (u : (List Int) × Unit) : M DkB (Fl Unit Empty Int) :=
  (retS (ixM (pureM u.1) (bindM (pairM (fun1M (fun l : (List Int) => some (l.length : Int)) (pureM u.1)) (pureM ())) d_c_next)))
def d_c_one (u : (List Int) × Unit) : M DkB Int := retM none (m_c_one u)
def m_c_places (u : Int × Int × Unit) : M DkB (Fl Unit Empty (List Int)) :=
  (seqM (setS (pureM (toDic [] : (Dic Bool)))) (fun found1 : (Dic Bool) => (seqM (forS (rng1M (bindM (pairM (addM (pureM u.2.1) (pureM (1 : Int))) (pureM ())) d_c_next)) (fun (s2 : ((Dic Bool))) (x3 : Int) => (seqM (putS s2 (pureM true) (subM (bindM (pairM (addM (mulM (pureM (2 : Int)) (pureM u.1)) (pureM (1 : Int))) (pureM ())) d_c_next) (pureM u.1))) (fun found4 : (Dic Bool) => (pureM (.nx (found4)))))) (found1)) (fun s5 : ((Dic Bool)) => (retS (sortDM (pureM s5)))))))
def d_c_places (u : Int × Int × Unit) : M DkB (List Int) := retM none (m_c_places u)
def m_c_litres (u : Int × Unit) : M DkB (Fl Unit Empty Int) :=
  (seqM (setS (pairM (mulM (pureM u.1) (addM (pureM (1 : Int)) (bindM (pairM (pureM (3 : Int)) (pureM ())) d_c_next))) (pairM (bindM (pairM (pureM (5 : Int)) (pureM ())) d_c_next) (pureM ())))) (fun uv1 : (Int × Int × Unit) => (retS (fun2M (fun i j : Int => some (maxI i j)) (pureM (1 : Int)) (ixM (lstM (consM (addM (pureM (1 : Int)) (bindM (pairM (pureM (6 : Int)) (pureM ())) d_c_next)) (consM (pureM uv1.1) (consM (addM (pureM uv1.1) (pureM (1 : Int))) (consM (subM (pureM uv1.1) (pureM (1 : Int))) (consM (addM (pureM (1 : Int)) (bindM (pairM (powM (pureM (10 : Int)) (pureM (9 : Int))) (pureM ())) d_c_next)) (pureM ([] : List Int)))))))) (pureM uv1.2.1))))))
def d_c_litres (u : Int × Unit) : M DkB Int := retM none (m_c_litres u)
def m_c_garden (u : Int × Int × Unit) : M DkB (Fl Unit Empty (T3 Int Int (Tup (Int × Int)))) :=
  (seqM (setS (pairM (addM (pureM (1 : Int)) (bindM (pairM (bindM (pairM (lstM (consM (pureM (3 : Int)) (consM (pureM (12 : Int)) (consM (powM (pureM (10 : Int)) (pureM (6 : Int))) (pureM ([] : List Int)))))) (pureM ())) d_c_one) (pureM ())) d_c_next)) (pairM (tupM (pureM ([] : List (Int × Int)))) (pureM ())))) (fun uv1 : (Int × (Tup (Int × Int)) × Unit) => (seqM (forS (bindM (pairM (pureM u.1) (pairM (pureM u.2.1) (pureM ()))) d_c_places) (fun (s2 : ((Tup (Int × Int)))) (x3 : Int) => (seqM (setS (catTM (pureM s2) (tupM (consM (tup2M (pureM x3) (bindM (pairM (pureM uv1.1) (pureM ())) d_c_litres)) (pureM ([] : List (Int × Int))))))) (fun beds4 : (Tup (Int × Int)) => (pureM (.nx (beds4)))))) (uv1.2.1)) (fun s5 : ((Tup (Int × Int))) => (seqM (setS (bindM (pairM (catM (lstM (consM (subM (bindM (pairM (addM (mulM (pureM (2 : Int)) (pureM u.1)) (pureM (1 : Int))) (pureM ())) d_c_next) (pureM u.1)) (consM (pureM u.1) (consM (subM (pureM (0 : Int)) (pureM u.1)) (pureM ([] : List Int)))))) (compM (mapM1 unTup (pureM s5)) (fun x7 : (Int × Int) => (pureM true)) (fun x7 : (Int × Int) => (pureM x7.1)))) (pureM ())) d_c_one)) (fun tap6 : Int => (retS (tup3M (pureM tap6) (pureM uv1.1) (pureM s5)))))))))
def d_c_garden (u : Int × Int × Unit) : M DkB (T3 Int Int (Tup (Int × Int))) := retM none (m_c_garden u)
def m_c_way (u : (T3 Int Int (Tup (Int × Int))) × Unit) : M Unit (Fl Unit Empty Int) :=
  (seqM (setS (pureM u.1)) (fun y1 : (T3 Int Int (Tup (Int × Int))) => (seqM (setS (pairM (sortUM (catM (lstM (consM (pureM y1.a) (pureM ([] : List Int)))) (compM (mapM1 unTup (pureM y1.c)) (fun x3 : (Int × Int) => (pureM true)) (fun x3 : (Int × Int) => (pureM x3.1))))) (pairM (pureM (0 : Int)) (pureM ())))) (fun uv2 : ((List Int) × Int × Unit) => (seqM (forS (zipM (pureM uv2.1) (cutM (pureM uv2.1) (mapM1 some (pureM (1 : Int))) (pureM none))) (fun (s4 : (Int)) (x5 : (Int × Int)) => (seqM (setS (pairM (compM (mapM1 unTup (pureM y1.c)) (fun x7 : (Int × Int) => (geM (pureM x7.1) (pureM x5.2))) (fun x7 : (Int × Int) => (pureM x7.2))) (pairM (compM (mapM1 unTup (pureM y1.c)) (fun x8 : (Int × Int) => (leM (pureM x8.1) (pureM x5.1))) (fun x8 : (Int × Int) => (pureM x8.2))) (pureM ())))) (fun uv6 : ((List Int) × (List Int) × Unit) => (seqM (setS (fun1M (fun l : List Int => some l.sum) (iteM (geM (pureM x5.1) (pureM y1.a)) (pureM uv6.1) (pureM uv6.2.1)))) (fun litres_here9 : Int => (seqM (setS (addM (pureM s4) (mulM (mulM (pureM (2 : Int)) (subM (pureM x5.2) (pureM x5.1))) (divM (subM (addM (pureM litres_here9) (pureM y1.b)) (pureM (1 : Int))) (pureM y1.b))))) (fun total10 : Int => (pureM (.nx (total10)))))))))) (uv2.2.1)) (fun s11 : (Int) => (retS (pureM s11))))))))
def f_c_way (u : (T3 Int Int (Tup (Int × Int))) × Unit) : Option Int := (retM none (m_c_way u) ()).map (·.1)
def m_c_spots (u : (T3 Int Int (Tup (Int × Int))) × Int × Unit) : M DkB (Fl Unit Empty (List Int)) :=
  (seqM (setS (pureM u.1)) (fun y1 : (T3 Int Int (Tup (Int × Int))) => (seqM (setS (catM (lstM (consM (pureM y1.a) (consM (pureM u.2.1) (consM (subM (pureM (0 : Int)) (pureM u.2.1)) (pureM ([] : List Int)))))) (compM (rng1M (pureM (3 : Int))) (fun x3 : Int => (pureM true)) (fun x3 : Int => (subM (bindM (pairM (addM (mulM (pureM (2 : Int)) (pureM u.2.1)) (pureM (1 : Int))) (pureM ())) d_c_next) (pureM u.2.1)))))) (fun found2 : (List Int) => (seqM (forS (catM (lstM (consM (pureM y1.a) (pureM ([] : List Int)))) (compM (mapM1 unTup (pureM y1.c)) (fun x4 : (Int × Int) => (pureM true)) (fun x4 : (Int × Int) => (pureM x4.1)))) (fun (s5 : ((List Int))) (x6 : Int) => (seqM (extS s5 (lstM (consM (subM (pureM x6) (pureM (1 : Int))) (consM (pureM x6) (consM (addM (pureM x6) (pureM (1 : Int))) (pureM ([] : List Int))))))) (fun y7 : (List Int) => (pureM (.nx ((s5 ++ y7))))))) (found2)) (fun s8 : ((List Int)) => (retS (sortUM (compM (pureM s8) (fun x9 : Int => (leM (fun1M (fun n : Int => some (absI n)) (pureM x9)) (powM (pureM (10 : Int)) (pureM (6 : Int))))) (fun x9 : Int => (pureM x9)))))))))))
def d_c_spots (u : (T3 Int Int (Tup (Int × Int))) × Int × Unit) : M DkB (List Int) := retM none (m_c_spots u)

def KB : Cnt DkB := ⟨fun s => if 0 ≤ s.n ∧ 0 < s.cells.length ∧ s.rests.length = s.cells.length then s.n.toNat else 2 ^ 20 + 1, 2 ^ 20⟩
theorem KB_n {s : DkB} {c : Nat} (h : KB.cnt s + c ≤ KB.most) : 0 ≤ s.n ∧ s.n + c ≤ 2 ^ 20 ∧ 0 < s.cells.length ∧ s.rests.length = s.cells.length := by
  have h' : (if 0 ≤ s.n ∧ 0 < s.cells.length ∧ s.rests.length = s.cells.length then s.n.toNat else 2 ^ 20 + 1) + c ≤ 2 ^ 20 := h
  split at h'
  · rename_i q
    refine ⟨q.1, ?_, q.2⟩
    omega
  · omega
theorem KB_of {s t : DkB} {c : Nat} (h : 0 ≤ s.n) (hc : 0 < t.cells.length) (hr : t.rests.length = t.cells.length) (h3 : 0 < s.cells.length) (h4 : s.rests.length = s.cells.length) (e : t.n = s.n + c) : KB.cnt t ≤ KB.cnt s + c := by
  show (if 0 ≤ t.n ∧ 0 < t.cells.length ∧ t.rests.length = t.cells.length then t.n.toNat else 2 ^ 20 + 1) ≤ (if 0 ≤ s.n ∧ 0 < s.cells.length ∧ s.rests.length = s.cells.length then s.n.toNat else 2 ^ 20 + 1) + c
  rw [if_pos ⟨by omega, hc, hr⟩, if_pos ⟨h, h3, h4⟩]
  omega
theorem run_dN {A : Type} (k : Int → M DkB A) (s : DkB) : bindM dkbN k s = k s.n s := rfl
theorem run_rdLen {A : Type} (get : DkB → List Int) (k : Int → M DkB A) (s : DkB) : bindM (rdLen get) k s = k ((get s).length : Int) s := rfl
theorem run_rdAt {A : Type} {get : DkB → List Int} {i x : Int} {s : DkB} (h : atI (get s) i = some x) (k : Int → M DkB A) : bindM (rdAt get i) k s = k x s := by
  unfold bindM rdAt
  rw [h]
  rfl
theorem run_dSetN {A : Type} (x : Int) (k : Unit → M DkB A) (s : DkB) : bindM (dkbSetN x) k s = k () { s with n := x } := rfl
theorem run_dSet {A : Type} {i x : Int} {j : Nat} {s : DkB} (h : ixN s.rests.length i = some j) (k : Unit → M DkB A) : bindM (dkbSet i x) k s = k () { s with rests := s.rests.set j x, cells := if s.al = true then s.cells.set j x else s.cells } := by
  unfold bindM dkbSet
  rw [h]
  rfl
theorem rg_guard {S A : Type} {p : Prop} [Decidable p] (h : p) (m : M S A) (s : S) : guardM p m s = m s := by rw [guard_true h]
theorem rg_if {S A : Type} {p : Prop} [Decidable p] (h : p) (m n : M S A) (s : S) : (if p then m else n) s = m s := by rw [if_pos h]
theorem rg_else {S A : Type} {p : Prop} [Decidable p] (h : ¬ p) (m n : M S A) (s : S) : (if p then m else n) s = n s := by rw [if_neg h]
theorem at_in {l : List Int} {i : Int} (h0 : 0 ≤ i) (h1 : i < (l.length : Int)) : ixN l.length i = some i.toNat ∧ ∃ x, atI l i = some x := by
  have hj : ixN l.length i = some i.toNat := by
    unfold ixN
    rw [if_pos h0, if_pos h1]
  refine ⟨hj, l[i.toNat]'(by omega), ?_⟩
  unfold atI
  rw [hj]
  exact List.getElem?_eq_getElem _
theorem ok_next {n : Int} (hn : 0 < n) (hw : n ≤ 2 ^ 199) : OkM KB 1 (d_c_next (n, ())) fun r => 0 ≤ r ∧ r < n := by
  intro s hs
  obtain ⟨h0, h1, hl, hr⟩ := KB_n hs
  have hwn : ∀ x : Int, divOk x n := fun _ => ⟨hn, wide_of (by omega) hw⟩
  have hmn : ∀ x : Int, modOk x n := fun _ => hn
  have hl' : (cellsB s).length = s.cells.length := rfl
  have e1 := Int.emod_nonneg s.n (b := ((cellsB s).length : Int)) (by omega)
  have e2 := Int.emod_lt_of_pos s.n (show (0 : Int) < ((cellsB s).length : Int) by omega)
  have hmc : modOk s.n ((cellsB s).length : Int) := show (0 : Int) < ((cellsB s).length : Int) by omega
  obtain ⟨j1, x1, a1⟩ := at_in (l := s.rests) (i := s.n % ((cellsB s).length : Int)) e1 (by rw [hr]; exact e2)
  obtain ⟨j2, x2, a2⟩ := at_in (l := s.cells) (i := s.n % ((cellsB s).length : Int)) e1 e2
  have m1 : ∀ x : Int, modOk x 2147483647 := fun _ => (by decide : (0 : Int) < 2147483647)
  have m2 : ∀ x : Int, modOk x 2147483629 := fun _ => (by decide : (0 : Int) < 2147483629)
  have m3 : ∀ x : Int, modOk x 2147483587 := fun _ => (by decide : (0 : Int) < 2147483587)
  have m4 : ∀ x : Int, modOk x 4611686018427387847 := fun _ => (by decide : (0 : Int) < 4611686018427387847)
  have w1 : mulOk 69621 s.n := ⟨by decide, wide_of (by omega) (by omega)⟩
  have w2 : mulOk 6007 s.n := ⟨by decide, wide_of (by omega) (by omega)⟩
  have w3 : mulOk (6007 * s.n) s.n := ⟨wide_of (by omega) (by omega), wide_of (by omega) (by omega)⟩
  have p1 : ∀ c : Int, powOk (c % 2147483647 + 69621 * s.n + 30269) 3 := fun c => by
    have q1 : 0 ≤ c % 2147483647 := Int.emod_nonneg _ (by decide)
    have q2 : c % 2147483647 < 2147483647 := Int.emod_lt_of_pos _ (by decide)
    exact ⟨by decide, by decide, by omega⟩
  have sq : 0 ≤ 6007 * s.n * s.n ∧ 6007 * s.n * s.n ≤ 6007 * 2 ^ 20 * 2 ^ 20 := ⟨Int.mul_nonneg (by omega) h0, Int.mul_le_mul (by omega) (by omega) h0 (by decide)⟩
  have p2 : ∀ c : Int, powOk (c % 2147483629 + 6007 * s.n * s.n + 17) 3 := fun c => by
    have q1 : 0 ≤ c % 2147483629 := Int.emod_nonneg _ (by decide)
    have q2 : c % 2147483629 < 2147483629 := Int.emod_lt_of_pos _ (by decide)
    exact ⟨by decide, by decide, by omega⟩
  have w4 : ∀ c : Int, mulOk (c % 2147483587) 2147483423 := fun c => by
    have q1 : 0 ≤ c % 2147483587 := Int.emod_nonneg _ (by decide)
    have q2 : c % 2147483587 < 2147483587 := Int.emod_lt_of_pos _ (by decide)
    exact ⟨wide_of (by omega) (by omega), by decide⟩
  have f1 : ∀ (cs rs : List Int) (b : Bool), 0 < cs.length → rs.length = cs.length → KB.cnt ⟨cs, s.n + 1, rs, b⟩ ≤ KB.cnt s + 1 := fun cs rs b q1 q2 => KB_of h0 q1 q2 hl hr rfl
  simp only [d_c_next, m_c_next, nf1, nf2, nf3, run_dN, run_rdLen]
  rw [rg_guard hmc, run_dSetN, run_rdAt (s := { s with n := s.n + 1 }) (get := restsB) a1]
  by_cases hc : 0 < x1
  · rw [rg_if (decide_eq_true hc), run_rdAt (s := { s with n := s.n + 1 }) (get := restsB) a1, rg_guard (hmn _), run_rdAt (s := { s with n := s.n + 1 }) (get := restsB) a1, rg_guard (hwn _), run_dSet (s := { s with n := s.n + 1 }) j1]
    refine ⟨_, _, rfl, ⟨Int.emod_nonneg _ (by omega), Int.emod_lt_of_pos _ hn⟩, f1 _ _ _ ?_ ?_⟩
    · split
      · rw [List.length_set]
        exact hl
      · exact hl
    · rw [List.length_set]
      split
      · rw [List.length_set]
        exact hr
      · exact hr
  · rw [rg_else (by rw [decide_eq_false hc]; exact Bool.false_ne_true), run_rdAt (s := { s with n := s.n + 1 }) (get := cellsB) a2, rg_guard (m1 _), rg_guard w1, rg_guard (p1 _), rg_guard (m2 _), rg_guard w2, rg_guard w3, rg_guard (p2 _), rg_guard (m3 _), rg_guard (w4 _), rg_guard (m4 _), rg_guard (hmn _)]
    exact ⟨_, _, rfl, ⟨Int.emod_nonneg _ (by omega), Int.emod_lt_of_pos _ hn⟩, f1 _ _ _ hl hr⟩
section
variable {B : Type} {T : B → Prop} {c : Nat}
theorem ob_next {n : Int} {k : Int → M DkB B} (hn : 0 < n) (hw : n ≤ 2 ^ 199) (hc : 1 ≤ c) (hk : ∀ r, 0 ≤ r → r < n → OkM KB (c - 1) (k r) T) : OkM KB c (bindM (d_c_next (n, ())) k) T :=
  ob_bind (ok_next hn hw) (by omega) fun r hr => hk r hr.1 hr.2
theorem ob_next1 {n : Int} {Q : Int → Prop} (hn : 0 < n) (hw : n ≤ 2 ^ 199) (hc : 1 ≤ c) (hk : ∀ r, 0 ≤ r → r < n → Q r) : OkM KB c (d_c_next (n, ())) Q :=
  OkM.mono (ok_next hn hw) hc fun r hr => hk r hr.1 hr.2
end
theorem law_ofB {m : M DkB (Fl Unit Empty Bool)} {c : Nat} {cells : List Int → List Int} (hcl : ∀ ns, 0 < (cells ns).length) (hc : c ≤ 2 ^ 20) (h : OkM KB c m fun r => r = .rt true) (ns : List Int) (s0 : DkB) (h0 : P0B cells ns s0) : ∃ s', retM none m s0 = some (true, s') := by
  obtain ⟨e1, e2, e3⟩ := h0
  obtain ⟨a, s', e, ha, _⟩ := h s0 (by
    show (if 0 ≤ s0.n ∧ 0 < s0.cells.length ∧ s0.rests.length = s0.cells.length then s0.n.toNat else 2 ^ 20 + 1) + c ≤ 2 ^ 20
    rw [if_pos ⟨by omega, by rw [e2]; exact hcl ns, by rw [e2, e3]⟩]
    omega)
  subst ha
  refine ⟨s', ?_⟩
  show bindM m _ _ = _
  unfold bindM
  rw [e]
  rfl
def cellsC (ns : List Int) : List Int := ns.take 63 ++ (List.replicate (b2I (decide ((ns.length : Int) = 0))).toNat [0]).flatten
def restsC (ns : List Int) : List Int := (cellsC ns).map fun x => x * b2I (decide (10 ^ (18 : Int).toNat ≤ x))
theorem b2I_01 (b : Bool) : 0 ≤ b2I b ∧ b2I b ≤ 1 := by
  cases b <;> decide
theorem cellsC_len (ns : List Int) : 0 < (cellsC ns).length ∧ (cellsC ns).length ≤ 64 := by
  unfold cellsC
  have h := List.length_take_le 63 ns
  rw [List.length_append, List.length_flatten, List.map_replicate, List.sum_replicate_nat]
  cases ns with
  | nil =>
    decide
  | cons x l =>
    have : decide ((((x :: l).length : Nat) : Int) = 0) = false := by
      rw [decide_eq_false_iff_not, List.length_cons]
      omega
    rw [this, List.length_take, List.length_cons]
    show 0 < _ + 0 * _ ∧ _ + 0 * _ ≤ 64
    omega
theorem bits_b (b : Bool) : Builtin.Int.intBits (b2I b) ≤ 2 := by
  cases b <;> decide
theorem draws_eq {ns : List Int} (hl : ns.length ≤ 63) (hw : Wd ns) : f_c_draws ns = some (deckDB (cellsC ns) (restsC ns)) := by
  have h := List.length_take_le 63 ns
  have hb := b2I_01 (decide ((ns.length : Int) = 0))
  have hcl := cellsC_len ns
  have hbits : ∀ x ∈ cellsC ns, Builtin.Int.intBits x ≤ 1048576 := fun x hx => by
    unfold cellsC at hx
    rcases List.mem_append.mp hx with q | q
    · exact hw x (List.mem_of_mem_take q)
    · obtain ⟨l, h1, h2⟩ := List.mem_flatten.mp q
      obtain rfl := List.eq_of_mem_replicate h1
      rw [List.mem_singleton.mp h2]
      decide
  refine f_of ?_
  simp only [m_c_draws, nf1, nf2, nf3, mulWM_nf]
  rw [guard_true (lenOk_le (by decide)), guard_true ⟨by omega, by omega, by
    refine lenOk_le ?_
    show 1 * _ ≤ _
    omega⟩, guard_true (lenOk_le (by
      have := hcl.2
      unfold cellsC at this
      rw [List.length_append] at this
      omega)), guard_true (lenOk_le (by
      show (cellsC ns).length ≤ _
      omega)), lcM_pure (q := fun _ => true) (g := fun x : Int => x * b2I (decide (10 ^ (18 : Int).toNat ≤ x))) (fun _ _ => rfl) fun x hx _ => ?_, List.filter_eq_self.mpr fun _ _ => rfl]
  · rfl
  · have q1 := hbits x hx
    have q2 := bits_b (decide (10 ^ (18 : Int).toNat ≤ x))
    rw [guard_true (show powOk 10 18 by decide), guard_true (show mulWOk _ _ from (by
      unfold mulWOk
      omega))]
theorem mk_atC (ns : List Int) (hl : ns.length ≤ 63) (hw : Wd ns) (Z : Addr → Prop) (H : Hp) (v : V) (d : PyData) (h : f_c_draws ns = some d) (r : Rp Z H v d) : ∃ (t : DkBA) (s0 : DkB), v = .ref (rootB t) ∧ P0B cellsC ns s0 ∧ (fmB t).at_ s0 H :=
  mk_B (rests := restsC) ns (draws_eq hl hw) (by unfold restsC; rw [List.length_map]) Z H v d h r
end PL

local macro_rules | `(tactic| walk_at "side") => `(tactic| first | with_reducible exact PL.shp_two | omega | decide | exact Nat.le_of_ble_eq_true rfl | exact PL.wide_of (by omega) (by omega) | exact ⟨by omega, PL.wide_of (by omega) (by omega)⟩ | exact ⟨PL.wide_of (by omega) (by omega), PL.wide_of (by omega) (by omega)⟩ | exact ⟨by omega, by omega⟩ | (unfold PL.modOk; omega) | (unfold PL.lenOk; omega) | ((try unfold PL.lenOk); simp only [List.length_append, List.length_cons, List.length_nil, List.length_map, List.length_replicate, List.length_dropLast, PL.len_rangeL]; omega))
local macro_rules | `(tactic| walk_at "step") => `(tactic| first | ((with_reducible refine PL.ob_guard ?hg ?_); case hg => (walk_at "side")) | ((with_reducible refine PL.ob_next ?h1 ?h2 (by omega) fun _ _ _ => ?_); (case h1 => (walk_at "side")); (case h2 => (walk_at "side"))) | ((with_reducible refine PL.ob_next1 ?h1 ?h2 (by omega) fun _ _ _ => ?_); (case h1 => (walk_at "side")); (case h2 => (walk_at "side"))) | ((with_reducible refine PL.ob_ix ?h0 ?h1 fun _ hx => ?_); (case h0 => omega); (case h1 => (simp only [List.length_append, List.length_cons, List.length_nil, List.length_map] at *; omega)); simp only [List.mem_append, List.mem_cons, List.not_mem_nil, or_false] at hx))
namespace PL
open PySem L2 Enc
theorem nf6 : (∀ {S A L R : Type} (l : List A) (m : M S (List A)), (extS l m : M S (Fl (List A) L R)) = bindM m fun y => guardM (lenOk (l.length + y.length)) (pureM (.nx y))) ∧
    (∀ {S : Type} (m n : M S Int), mulWM m n = bindM m fun x => bindM n fun y => guardM (mulWOk x y) (pureM (x * y))) := ⟨fun _ _ => rfl, mulWM_nf⟩
theorem ok_one {l : List Int} (h : 0 < l.length) (h2 : l.length ≤ 1000000) : OkM KB 1 (d_c_one (l, ())) fun r => r ∈ l := by
  show OkM KB 1 (retM none (m_c_one (l, ()))) _
  simp only [m_c_one, nf1, nf2, nf3, nf4]
  refine ob_next (by omega) (by omega) (by omega) fun r h0 h1 => ?_
  refine ob_ix h0 h1 fun x hx => ob_pure hx
theorem keys_put {A : Type} (l : Dic A) (k : Int) (x : A) : keysD (putD l k x) = if k ∈ keysD l then keysD l else keysD l ++ [k] := by
  unfold keysD putD
  by_cases h : ((unDic l).any fun p => decide (p.1 = k)) = true
  · rw [if_pos h, if_pos (by
      obtain ⟨p, hp, e⟩ := List.any_eq_true.mp h
      exact List.mem_map.mpr ⟨p, hp, by simpa using e⟩)]
    have e : unDic (toDic ((unDic l).map fun p : Int × A => if p.1 = k then (p.1, x) else p)) = (unDic l).map fun p : Int × A => if p.1 = k then (p.1, x) else p := rfl
    rw [e, List.map_map]
    refine List.map_congr_left fun p _ => ?_
    show (if p.1 = k then (p.1, x) else p).1 = p.1
    split <;> rfl
  · rw [if_neg h, if_neg (fun z => h (by
      obtain ⟨p, hp, e⟩ := List.mem_map.mp z
      exact List.any_eq_true.mpr ⟨p, hp, by simpa using e⟩))]
    show ((unDic l ++ [(k, x)]).map (·.1)) = _
    rw [List.map_append]
    rfl
theorem sortI_lt {l : List Int} (h : l.Nodup) : (sortI l).Pairwise (· < ·) := by
  have h1 := sortI_le l
  have h2 : (sortI l).Nodup := (sortI_perm l).nodup_iff.mpr h
  exact (List.pairwise_and_iff.mpr ⟨h1, h2⟩).imp fun {a b} q => by
    have := q.1
    have := q.2
    omega
/-- rising places, none farther than far -/
structure Plc (far : Int) (most : Nat) (l : List Int) : Prop where
  len : l.length ≤ most
  asc : l.Pairwise (· < ·)
  pl : ∀ x ∈ l, -far ≤ x ∧ x ≤ far
theorem ok_places {far most : Int} (hf : 0 ≤ far ∧ far ≤ 1000000) (hm : 0 ≤ most ∧ most ≤ 12) : OkM KB 20 (d_c_places (far, most, ())) (Plc far most.toNat) := by
  show OkM KB 20 (retM none (m_c_places (far, most, ()))) _
  simp only [m_c_places, nf1, nf2, nf3, nf4, nf5]
  refine ob_next (by omega) (by omega) (by omega) fun n h0 h1 => ?_
  refine ob_guard ⟨by omega, by omega⟩ ?_
  have hl : (rangeL 0 n).length = n.toNat := by rw [len_rangeL, Int.sub_zero]
  refine ob_lp 12 1 0 (fun pre s => (keysD s).Nodup ∧ (keysD s).length ≤ pre.length ∧ ∀ x ∈ keysD s, -far ≤ x ∧ x ≤ far) (by omega) (by omega) ⟨List.nodup_nil, Nat.le_refl _, fun x hx => by cases hx⟩ (fun pre x post s e hs => ?_) fun s hs => ?_
  · have hpl : pre.length < (rangeL 0 n).length := by rw [e]; simp
    have hkl : (keysD s).length = (unDic s).length := by unfold keysD; rw [List.length_map]
    refine ob_guard ⟨by decide, wide_of (by omega) (by omega)⟩ (ob_next (by omega) (by omega) (by omega) fun r q0 q1 => ob_guard (lenOk_le (by omega)) (ob_pure ?_))
    show (keysD (putD s (r - far) true)).Nodup ∧ _ ∧ _
    rw [keys_put]
    split
    · exact ⟨hs.1, by rw [List.length_append]; omega, hs.2.2⟩
    · rename_i hn
      refine ⟨List.nodup_append.mpr ⟨hs.1, by simp, fun a ha b hb => by
        rw [List.mem_singleton.mp hb]
        intro z
        rw [z] at ha
        exact hn ha⟩, by rw [List.length_append, List.length_append, List.length_singleton, List.length_singleton]; omega, fun x hx => ?_⟩
      rcases List.mem_append.mp hx with hx | hx
      · exact hs.2.2 x hx
      · rw [List.mem_singleton.mp hx]
        omega
  · have hkl : (keysD s).length = (unDic s).length := by unfold keysD; rw [List.length_map]
    have hsl := hs.2.1
    refine ob_guard (by omega) (ob_pure ⟨?_, sortI_lt hs.1, fun x hx => hs.2.2 x ((sortI_perm _).mem_iff.mp hx)⟩)
    rw [(sortI_perm _).length_eq]
    omega
theorem ok_litres {can : Int} (h : 1 ≤ can ∧ can ≤ 1000000) : OkM KB 5 (d_c_litres (can, ())) fun r => 1 ≤ r ∧ r ≤ 1000000000 := by
  show OkM KB 5 (retM none (m_c_litres (can, ()))) _
  simp only [m_c_litres, nf1, nf2, nf3, nf4, p10_9]
  refine ob_next (by omega) (by omega) (by omega) fun a a0 a1 => ?_
  have hm : can * 1 ≤ can * (1 + a) ∧ can * (1 + a) ≤ can * 3 := ⟨Int.mul_le_mul_of_nonneg_left (by omega) (by omega), Int.mul_le_mul_of_nonneg_left (by omega) (by omega)⟩
  refine ob_guard ⟨wide_of (by omega) (by omega), wide_of (by omega) (by omega)⟩ ?_
  refine ob_next (by omega) (by omega) (by omega) fun b b0 b1 => ?_
  refine ob_next (by omega) (by omega) (by omega) fun d d0 d1 => ?_
  refine ob_guard (by decide) ?_
  refine ob_next (by omega) (by omega) (by omega) fun e e0 e1 => ?_
  refine ob_guard (lenOk_le (by simp)) ?_
  refine ob_ix b0 (by simp only [List.length_cons, List.length_nil]; omega) fun x hx => ?_
  simp only [List.mem_cons, List.not_mem_nil, or_false] at hx
  refine ob_pure ?_
  show 1 ≤ maxI 1 x ∧ maxI 1 x ≤ _
  unfold maxI
  split <;> omega
/-- a garden as drawn -/
structure GarC (far : Int) (most : Nat) (g : Gdn) : Prop where
  len : (unTup g.c).length ≤ most
  tap : -far ≤ g.a ∧ g.a ≤ far
  can : 1 ≤ g.b ∧ g.b ≤ 1000000
  asc : ((unTup g.c).map (·.1)).Pairwise (· < ·)
  pl : ∀ x ∈ unTup g.c, -far ≤ x.1 ∧ x.1 ≤ far ∧ 1 ≤ x.2 ∧ x.2 ≤ 1000000000
theorem ok_garden {far most : Int} (hf : 0 ≤ far ∧ far ≤ 1000000) (hm : 0 ≤ most ∧ most ≤ 12) : OkM KB 100 (d_c_garden (far, most, ())) (GarC far most.toNat) := by
  show OkM KB 100 (retM none (m_c_garden (far, most, ()))) _
  simp only [m_c_garden, nf1, nf2, nf3, nf4, p10_6]
  refine ob_guard (by decide) (ob_guard (lenOk_le (by simp)) ?_)
  refine ob_bind (d := 1) (e := 99) (ok_one (by simp) (by simp)) (by omega) fun top ht => ?_
  simp only [List.mem_cons, List.not_mem_nil, or_false] at ht
  refine ob_next (by omega) (by omega) (by omega) fun cn c0 c1 => ?_
  refine ob_guard (lenOk_le (by simp)) ?_
  refine ob_bind (d := 20) (e := 70) (ok_places hf hm) (by omega) fun ps hp => ?_
  have hpl := hp.len
  refine ob_lp 12 5 10 (fun pre (s : Tup (Int × Int)) => (unTup s).map (·.1) = pre ∧ ∀ x ∈ unTup s, 1 ≤ x.2 ∧ x.2 ≤ 1000000000) (by omega) (by omega) ⟨rfl, fun x hx => by cases hx⟩ (fun pre x post s e hs => ?_) fun s hs => ?_
  · have hpl : pre.length < ps.length := by rw [e]; simp
    have hsl : (unTup s).length = pre.length := by rw [← hs.1, List.length_map]
    refine ob_bind (d := 5) (e := 0) (ok_litres ⟨by omega, by omega⟩) (by omega) fun li hli => ?_
    refine ob_guard (lenOk_le (by simp)) (ob_guard (lenOk_le ?_) (ob_pure ⟨?_, fun y hy => ?_⟩))
    · show (unTup s).length + 1 ≤ _
      omega
    · show (unTup s ++ [(x, li)]).map (·.1) = pre ++ [x]
      rw [List.map_append, hs.1]
      rfl
    · rcases List.mem_append.mp (show y ∈ unTup s ++ [(x, li)] from hy) with hy | hy
      · exact hs.2 y hy
      · rw [List.mem_singleton.mp hy]
        exact hli
  · have hsl : (unTup s).length = ps.length := by rw [← hs.1, List.length_map]
    refine ob_guard ⟨by decide, wide_of (by omega) (by omega)⟩ (ob_next (by omega) (by omega) (by omega) fun r r0 r1 => ?_)
    refine ob_guard (lenOk_le (by simp)) (ob_guard (lenOk_le (by omega)) ?_)
    refine ob_guard (lenOk_le (by rw [List.length_map, hsl]; simp only [List.length_cons, List.length_nil]; omega)) ?_
    refine ob_bind (d := 1) (e := 0) (ok_one (by simp) (by rw [List.length_append, List.length_map, hsl]; simp only [List.length_cons, List.length_nil]; omega)) (by omega) fun tap ht => ?_
    have hx : ∀ x ∈ unTup s, -far ≤ x.1 ∧ x.1 ≤ far := fun x hx => hp.pl x.1 (by rw [← hs.1]; exact List.mem_map.mpr ⟨x, hx, rfl⟩)
    refine ob_pure ⟨by show (unTup s).length ≤ _; omega, ?_, ⟨by show 1 ≤ 1 + cn; omega, by show 1 + cn ≤ _; omega⟩, by show ((unTup s).map (·.1)).Pairwise _; rw [hs.1]; exact hp.asc, fun x q => ⟨(hx x q).1, (hx x q).2, hs.2 x q⟩⟩
    show -far ≤ tap ∧ tap ≤ far
    rcases List.mem_append.mp ht with h | h
    · simp only [List.mem_cons, List.not_mem_nil, or_false] at h
      omega
    · obtain ⟨x, q, rfl⟩ := List.mem_map.mp h
      exact hx x q
theorem GarC.gok {far : Int} {most : Nat} {g : Gdn} (h : GarC far most g) (hf : far ≤ 1000000) (hm : most ≤ 12) : Gok g := by
  have h1 := h.len
  have h2 := h.tap
  have h3 := h.can
  exact ⟨by omega, by omega, by omega, fun x hx => by have := h.pl x hx; omega⟩
theorem GarC.at_ {far : Int} {most : Nat} {g : Gdn} (h : GarC far most g) (hf : far ≤ 1000000) (hm : most ≤ 12) {p : Int} (hp : -1000000 ≤ p ∧ p ≤ 1000000) : Gok ⟨p, g.b, g.c⟩ := by
  have h1 := h.len
  have h3 := h.can
  exact ⟨Nat.le_trans h1 (by omega), by show -4000000 ≤ p ∧ p ≤ 4000000; omega, by show 1 ≤ g.b ∧ g.b ≤ _; omega, fun x hx => by have := h.pl x hx; omega⟩
/-- the law's own way -/
theorem c_way_ok {g : Gdn} (h : Gok g) {R : Int} (hR : 4000000 ≤ R) : f_c_way (g, ()) = some (wayR R g) := by
  refine f_of ?_
  have hl := h.len
  have hm := h.marks
  have hc := h.can
  simp only [m_c_way, nf1, nf2, nf3, nf4, cutL_tail]
  rw [guard_true (lenOk_le (by simp)), guard_true (lenOk_le (by omega)), guard_true (lenOk_le (by rw [List.length_map]; simp only [List.length_cons, List.length_nil]; omega)), guard_true (by rw [List.length_cons, List.length_map]; omega)]
  have em : sortU (g.a :: (unTup g.c).map (fun x : Int × Int => x.1)) = marksG g := rfl
  rw [em, lp_fold (g := fun s x => s + 2 * (x.2 - x.1) * cdiv (byd g x.1) g.b) (fun _ => True) trivial fun y x hx => ?_, foldl_add, Int.zero_add]
  · unfold wayR
    rw [← str_sum (g := g) (R := R) (fun m hm' => by have := hm.1 m hm'; omega) (fun n => 2 * cdiv n g.b) (by rw [cdiv_zero hc.1]; rfl)]
    unfold strG
    rw [List.map_map]
    refine congrArg (fun l : List Int => (pureM (List.sum l) : M Unit Int)) (List.map_congr_left fun t ht => ?_)
    show 2 * (t.2 - t.1) * cdiv (byd g t.1) g.b = (t.2 - t.1) * (2 * cdiv (byd g t.1) g.b)
    rw [Int.mul_comm 2, Int.mul_assoc]
  · have n : Nb g x.1 x.2 := nb_of hx
    have q := h.byd x.1
    have q1 := cdiv_nn hc.1 q.1
    have q2 := cdiv_le hc.1 q.1
    have k1 := hm.1 _ (List.of_mem_zip hx).1
    have k2 := hm.1 _ (List.mem_of_mem_drop (List.of_mem_zip hx).2)
    refine fun _ => ⟨?_, trivial⟩
    rw [guard_true (lenOk_le (by omega)), guard_true (lenOk_le (by omega))]
    have e1 : byd g x.1 = if g.a ≤ x.1 then litP (fun p => decide (x.2 ≤ p)) (unTup g.c) else litP (fun p => decide (p ≤ x.1)) (unTup g.c) := by
      unfold byd
      have a0 := n.lt
      split
      · refine litP_congr fun b hb => ?_
        have a1 := n.pl b hb
        rw [decide_eq_decide]
        omega
      · rfl
    have fin : ∀ L : Int, L = byd g x.1 → (guardM (mulOk 2 (x.2 - x.1)) (guardM (divOk (L + g.b - 1) g.b) (guardM (mulOk (2 * (x.2 - x.1)) ((L + g.b - 1) / g.b)) (pureM (.nx (y + 2 * (x.2 - x.1) * ((L + g.b - 1) / g.b)))))) : M Unit (Fl Int Int Int)) = pureM (.nx (y + 2 * (x.2 - x.1) * cdiv (byd g x.1) g.b)) := fun L e => by
      subst e
      rw [guard_true ⟨by decide, wide_of (by omega) (by omega)⟩, guard_true ⟨by omega, wide_of (by omega) (by omega)⟩, guard_true (show mulOk (2 * (x.2 - x.1)) ((byd g x.1 + g.b - 1) / g.b) from (show mulOk (2 * (x.2 - x.1)) (cdiv (byd g x.1) g.b) from ⟨wide_of (by omega) (by omega), wide_of (by omega) (by omega)⟩))]
      rfl
    by_cases hcx : g.a ≤ x.1
    · rw [if_pos hcx] at e1
      simp only [hcx, decide_true, if_true, bind_pure, nf1]
      exact fin _ e1.symm
    · rw [if_neg hcx] at e1
      simp only [hcx, decide_false, Bool.false_eq_true, if_false, bind_pure, nf1]
      exact fin _ e1.symm
theorem ok_spots {g : Gdn} {far : Int} (hf : 0 ≤ far ∧ far ≤ 1000000) (h : (unTup g.c).length ≤ 12) : OkM KB 3 (d_c_spots (g, far, ())) fun r => r.length ≤ 50 ∧ ∀ x ∈ r, -1000000 ≤ x ∧ x ≤ 1000000 := by
  show OkM KB 3 (retM none (m_c_spots (g, far, ()))) _
  simp only [m_c_spots, nf1, nf2, nf3, nf4, nf6, p10_6]
  refine ob_guard (lenOk_le (by simp)) (ob_guard ⟨by decide, by decide⟩ (ob_guard (lenOk_le (by decide)) ?_))
  refine ob_lc (P := fun _ => True) 3 1 0 (by decide) (by omega) (fun x _ => ?_) fun rs _ lr => ?_
  · refine ob_guard ⟨by decide, wide_of (by omega) (by omega)⟩ (ob_next (by omega) (by omega) (by omega) fun r _ _ => ob_pure trivial)
  have lr' : rs.length = 3 := by rw [lr]; rfl
  refine ob_guard (lenOk_le (by rw [lr']; simp)) (ob_guard (lenOk_le (by simp)) (ob_guard (lenOk_le (by omega)) ?_))
  refine ob_guard (lenOk_le (by rw [List.length_map]; simp only [List.length_cons, List.length_nil]; omega)) ?_
  refine ob_lp 13 0 0 (fun pre (s : List Int) => s.length = 6 + 3 * pre.length) (by rw [List.length_cons, List.length_map]; omega) (by omega) (by rw [List.length_append, lr']; rfl) (fun pre x post s e hs => ?_) fun s hs => ?_
  · have hpl : pre.length < 13 := by
      have := congrArg List.length e
      simp only [List.length_append, List.length_cons, List.length_nil, List.length_map] at this
      omega
    refine ob_guard (lenOk_le (by simp)) (ob_guard (lenOk_le (by simp only [List.length_cons, List.length_nil]; omega)) (ob_pure ?_))
    show (s ++ _).length = _
    rw [List.length_append, List.length_append]
    simp only [List.length_cons, List.length_nil]
    omega
  · have hsl : s.length ≤ 45 := by
      rw [hs, List.length_cons, List.length_map]
      omega
    refine ob_guard (lenOk_le (by omega)) ?_
    refine ob_filter (q := fun x => decide (absI x ≤ 1000000)) (g := fun x => x) (fun x _ => ?_) (fun _ _ _ => rfl) ?_
    · rw [guard_true (by decide)]
    · have fl := List.length_filter_le (fun x => decide (absI x ≤ 1000000)) s
      refine ob_guard (by rw [List.length_map]; omega) (ob_pure ⟨?_, fun x hx => ?_⟩)
      · have := sortU_len ((s.filter fun x => decide (absI x ≤ 1000000)).map fun x => x)
        rw [List.length_map] at this
        omega
      · have := mem_sortU.mp hx
        obtain ⟨y, hy, rfl⟩ := List.mem_map.mp this
        have q := of_decide_eq_true (List.mem_filter.mp hy).2
        unfold absI at q
        split at q <;> omega
end PL

namespace PL
open PySem L2 Enc
def m_c_more (u : (T3 Int Int (Tup (Int × Int))) × Int × Int × Unit) : M Unit (Fl Unit Empty (T3 Int Int (Tup (Int × Int)))) :=
  (seqM (setS (pureM u.1)) (fun y1 : (T3 Int Int (Tup (Int × Int))) => (seqM (setS (dictM (pureM y1.c))) (fun rows2 : (Dic Int) => (seqM (putS rows2 (addM (getD2M (pureM rows2) (pureM u.2.1) (pureM (0 : Int))) (pureM u.2.2.1)) (pureM u.2.1)) (fun rows3 : (Dic Int) => (retS (tup3M (pureM y1.a) (pureM y1.b) (fun1M (fun l : (List (Int × Int)) => some (toTup l)) (sortM (compM (pureM (keysD rows3)) (fun x4 : Int => (pureM true)) (fun x4 : Int => (tup2M (pureM x4) (getDM (pureM rows3) (pureM x4)))))))))))))))
def f_c_more (u : (T3 Int Int (Tup (Int × Int))) × Int × Int × Unit) : Option (T3 Int Int (Tup (Int × Int))) := (retM none (m_c_more u) ()).map (·.1)

theorem valD_cons {A : Type} (b : Int × A) (r : List (Int × A)) (p : Int) : valD (toDic (b :: r)) p = if b.1 = p then some b.2 else valD (toDic r) p := by
  unfold valD
  show ((b :: r).find? _).map _ = _
  by_cases h : b.1 = p
  · rw [List.find?_cons_of_pos (by simpa using h), if_pos h]
    rfl
  · rw [List.find?_cons_of_neg (by simpa using h), if_neg h]
    rfl
theorem valD_none {A : Type} : ∀ {l : List (Int × A)} {p : Int}, p ∉ l.map (·.1) → valD (toDic l) p = none
  | [], _, _ => rfl
  | b :: r, p, h => by
    rw [List.map_cons, List.mem_cons, not_or] at h
    rw [valD_cons, if_neg fun z => h.1 z.symm, valD_none h.2]
theorem valD_self {A : Type} : ∀ {l : List (Int × A)}, (l.map (·.1)).Nodup → ∀ b ∈ l, valD (toDic l) b.1 = some b.2
  | c :: r, h, b, hb => by
    rw [List.map_cons, List.nodup_cons] at h
    rw [valD_cons]
    rcases List.mem_cons.mp hb with rfl | hb
    · rw [if_pos rfl]
    · rw [if_neg (fun z => h.1 (by rw [z]; exact List.mem_map.mpr ⟨b, hb, rfl⟩)), valD_self h.2 b hb]
theorem map_repl {l : List (Int × Int)} {p x : Int} (h : p ∉ l.map (·.1)) : (l.map fun b : Int × Int => if b.1 = p then (b.1, x) else b) = l := by
  refine (List.map_congr_left fun b hb => ?_).trans (List.map_id l)
  exact if_neg fun z => h (List.mem_map.mpr ⟨b, hb, z⟩)
theorem litP_repl {q : Int → Bool} {p k : Int} : ∀ {l : List (Int × Int)}, (l.map (·.1)).Nodup → p ∈ l.map (·.1) →
    litP q (l.map fun b : Int × Int => if b.1 = p then (b.1, (valD (toDic l) p).getD 0 + k) else b) = litP q l + if q p = true then k else 0
  | b :: r, hn, hm => by
    have hn' := hn
    rw [List.map_cons, List.nodup_cons] at hn'
    rw [List.map_cons, litP_cons, litP_cons]
    by_cases h : b.1 = p
    · rw [if_pos h, map_repl (by rw [← h]; exact hn'.1)]
      show (if q b.1 = true then (valD (toDic (b :: r)) p).getD 0 + k else 0) + litP q r = _
      rw [valD_cons, if_pos h, h]
      show (if q p = true then b.2 + k else 0) + litP q r = _
      split <;> omega
    · rw [if_neg h]
      rw [List.map_cons, List.mem_cons] at hm
      have hm' : p ∈ r.map (·.1) := hm.resolve_left fun z => h z.symm
      rw [valD_cons, if_neg h, litP_repl hn'.2 hm']
      omega
theorem put_more {l : List (Int × Int)} {p k : Int} (h : (l.map (·.1)).Nodup) : MoreAt l (unDic (putD (toDic l) p ((valD (toDic l) p).getD 0 + k))) p k := fun q => by
  unfold putD
  by_cases c : (l.any fun b => decide (b.1 = p)) = true
  · rw [if_pos (show ((unDic (toDic l)).any _) = true from c)]
    have hm : p ∈ l.map (·.1) := by
      obtain ⟨b, hb, e⟩ := List.any_eq_true.mp c
      exact List.mem_map.mpr ⟨b, hb, of_decide_eq_true e⟩
    exact litP_repl h hm
  · rw [if_neg (show ¬ ((unDic (toDic l)).any _) = true from c)]
    have hm : p ∉ l.map (·.1) := fun z => c (by
      obtain ⟨b, hb, e⟩ := List.mem_map.mp z
      exact List.any_eq_true.mpr ⟨b, hb, decide_eq_true e⟩)
    show litP q (l ++ [(p, (valD (toDic l) p).getD 0 + k)]) = _
    rw [litP_app, valD_none hm, litP_cons]
    show _ + ((if q p = true then 0 + k else 0) + 0) = _
    rw [Int.zero_add, Int.add_zero]
theorem put_nodup {A : Type} {l : Dic A} {p : Int} {x : A} (h : (keysD l).Nodup) : (keysD (putD l p x)).Nodup := by
  rw [keys_put]
  split
  · exact h
  · rename_i hn
    exact List.nodup_append.mpr ⟨h, by simp, fun a ha b hb => by
      rw [List.mem_singleton.mp hb]
      intro z
      rw [z] at ha
      exact hn ha⟩
theorem put_mem {l : List (Int × Int)} {p x : Int} {b : Int × Int} (h : b ∈ unDic (putD (toDic l) p x)) : b ∈ l ∨ b = (p, x) := by
  unfold putD at h
  split at h
  · obtain ⟨c, hc, e⟩ := List.mem_map.mp h
    by_cases q : c.1 = p
    · rw [if_pos q] at e
      right
      rw [← e, q]
    · rw [if_neg q] at e
      left
      rw [← e]
      exact hc
  · rcases List.mem_append.mp h with h | h
    · exact .inl h
    · exact .inr (List.mem_singleton.mp h)
/-- walking a dict's keys and reading their values gives its pairs -/
theorem walk_pairs {d : Dic Int} (h : (keysD d).Nodup) : (lcM (fun _ : Int => (pureM true : M Unit Bool)) (fun x4 : Int => bindM (ofO (valD d x4)) fun w => pureM (x4, w)) (keysD d)) = pureM (unDic d) := by
  have e : ∀ l : List (Int × Int), (∀ b ∈ l, valD d b.1 = some b.2) → (lcM (fun _ : Int => (pureM true : M Unit Bool)) (fun x4 : Int => bindM (ofO (valD d x4)) fun w => pureM (x4, w)) (l.map (·.1))) = pureM l := fun l => by
    induction l with
    | nil => exact fun _ => rfl
    | cons b l ih =>
      intro hb
      rw [List.map_cons]
      show bindM (pureM true) _ = _
      rw [bind_pure, if_pos rfl]
      show bindM (bindM (ofO (valD d b.1)) fun w => pureM (b.1, w)) _ = _
      rw [hb b List.mem_cons_self, ofO_some, bind_pure, bind_pure, ih fun c hc => hb c (List.mem_cons_of_mem _ hc)]
      rfl
  exact e (unDic d) fun b hb => valD_self (l := unDic d) h b hb
theorem asc_nodup {l : List Int} (h : l.Pairwise (· < ·)) : l.Nodup := h.imp fun h z => by omega
theorem more_ok {g : Gdn} {p k : Int} (hn : ((unTup g.c).map (·.1)).Nodup) (hl : (unTup g.c).length ≤ 39) (hp : ∀ x ∈ unTup g.c, -1000000 ≤ x.1 ∧ x.1 ≤ 1000000 ∧ 0 ≤ x.2 ∧ x.2 ≤ 100000000000) (hpp : -1000000 ≤ p ∧ p ≤ 1000000) (hk : 0 ≤ k ∧ k ≤ 100000000000)
    (hg : Gok g) : ∃ g', f_c_more (g, p, k, ()) = some g' ∧ g'.a = g.a ∧ g'.b = g.b ∧ MoreAt (unTup g.c) (unTup g'.c) p k ∧ Gok g' := by
  have e0 : mkD (unTup g.c) = toDic (unTup g.c) := mkD_nd hn
  have nd : (keysD (putD (toDic (unTup g.c)) p ((valD (toDic (unTup g.c)) p).getD 0 + k))).Nodup := put_nodup (l := toDic (unTup g.c)) hn
  have pl := putD_len (toDic (unTup g.c)) p ((valD (toDic (unTup g.c)) p).getD 0 + k)
  have pl' : (unDic (putD (toDic (unTup g.c)) p ((valD (toDic (unTup g.c)) p).getD 0 + k))).length ≤ (unTup g.c).length + 1 := pl
  have hv : 0 ≤ (valD (toDic (unTup g.c)) p).getD 0 ∧ (valD (toDic (unTup g.c)) p).getD 0 ≤ 100000000000 := by
    cases e : valD (toDic (unTup g.c)) p with
    | none => exact ⟨Int.le_refl _, by decide⟩
    | some w =>
      obtain ⟨x, hx, _, rfl⟩ := valD_mem e
      exact (hp x hx).2.2
  refine ⟨⟨g.a, g.b, toTup (sortD (unDic (putD (toDic (unTup g.c)) p ((valD (toDic (unTup g.c)) p).getD 0 + k))))⟩, f_of ?_, rfl, rfl, fun q => ?_, ?_⟩
  · simp only [m_c_more, nf1, nf2, nf3, nf4, nf5, sortM]
    rw [e0, guard_true (show lenOk ((unDic (toDic (unTup g.c))).length + 1) from lenOk_le (by
      show (unTup g.c).length + 1 ≤ _
      omega)), guard_true (lenOk_le (by
      unfold keysD
      rw [List.length_map]
      omega)), walk_pairs nd]
    rfl
  · show litP q (sortD _) = _
    rw [litP_perm (sortD_perm _)]
    exact put_more hn q
  · refine ⟨?_, hg.tap, hg.can, fun x hx => ?_⟩
    · show (sortD _).length ≤ 40
      rw [(sortD_perm _).length_eq]
      omega
    · have hx' : x ∈ sortD (unDic (putD (toDic (unTup g.c)) p ((valD (toDic (unTup g.c)) p).getD 0 + k))) := hx
      rcases put_mem ((sortD_perm _).mem_iff.mp hx') with h | h
      · have := hp x h
        omega
      · rw [h]
        show -1000000 ≤ p ∧ p ≤ 1000000 ∧ 0 ≤ (valD (toDic (unTup g.c)) p).getD 0 + k ∧ _ ≤ _
        omega
theorem more_ok2 {g : Gdn} {p k : Int} (hn : ((unTup g.c).map (·.1)).Nodup) (hl : (unTup g.c).length ≤ 39) (hp : ∀ x ∈ unTup g.c, -1000000 ≤ x.1 ∧ x.1 ≤ 1000000 ∧ 0 ≤ x.2 ∧ x.2 ≤ 100000000000) (hpp : -1000000 ≤ p ∧ p ≤ 1000000) (hk : 0 ≤ k ∧ k ≤ 100000000000)
    (hg : Gok g) : ∃ g', f_c_more (g, p, k, ()) = some g' ∧ g'.a = g.a ∧ g'.b = g.b ∧ MoreAt (unTup g.c) (unTup g'.c) p k ∧ Gok g' ∧ ((unTup g'.c).map (·.1)).Nodup ∧ (unTup g'.c).length ≤ (unTup g.c).length + 1 ∧ ∀ B, 0 ≤ B → (∀ x ∈ unTup g.c, x.2 ≤ B) → ∀ x ∈ unTup g'.c, x.2 ≤ B + k := by
  have e0 : mkD (unTup g.c) = toDic (unTup g.c) := mkD_nd hn
  have nd : (keysD (putD (toDic (unTup g.c)) p ((valD (toDic (unTup g.c)) p).getD 0 + k))).Nodup := put_nodup (l := toDic (unTup g.c)) hn
  have pl := putD_len (toDic (unTup g.c)) p ((valD (toDic (unTup g.c)) p).getD 0 + k)
  have pl' : (unDic (putD (toDic (unTup g.c)) p ((valD (toDic (unTup g.c)) p).getD 0 + k))).length ≤ (unTup g.c).length + 1 := pl
  have hv : 0 ≤ (valD (toDic (unTup g.c)) p).getD 0 ∧ (valD (toDic (unTup g.c)) p).getD 0 ≤ 100000000000 := by
    cases e : valD (toDic (unTup g.c)) p with
    | none => exact ⟨Int.le_refl _, by decide⟩
    | some w =>
      obtain ⟨x, hx, _, rfl⟩ := valD_mem e
      exact (hp x hx).2.2
  refine ⟨⟨g.a, g.b, toTup (sortD (unDic (putD (toDic (unTup g.c)) p ((valD (toDic (unTup g.c)) p).getD 0 + k))))⟩, f_of ?_, rfl, rfl, fun q => ?_, ?_, ?_, ?_, fun B hB hb x hx => ?_⟩
  · simp only [m_c_more, nf1, nf2, nf3, nf4, nf5, sortM]
    rw [e0, guard_true (show lenOk ((unDic (toDic (unTup g.c))).length + 1) from lenOk_le (by
      show (unTup g.c).length + 1 ≤ _
      omega)), guard_true (lenOk_le (by
      unfold keysD
      rw [List.length_map]
      omega)), walk_pairs nd]
    rfl
  · show litP q (sortD _) = _
    rw [litP_perm (sortD_perm _)]
    exact put_more hn q
  · refine ⟨?_, hg.tap, hg.can, fun x hx => ?_⟩
    · show (sortD _).length ≤ 40
      rw [(sortD_perm _).length_eq]
      omega
    · have hx' : x ∈ sortD (unDic (putD (toDic (unTup g.c)) p ((valD (toDic (unTup g.c)) p).getD 0 + k))) := hx
      rcases put_mem ((sortD_perm _).mem_iff.mp hx') with h | h
      · have := hp x h
        omega
      · rw [h]
        show -1000000 ≤ p ∧ p ≤ 1000000 ∧ 0 ≤ (valD (toDic (unTup g.c)) p).getD 0 + k ∧ _ ≤ _
        omega
  · have pm : ((sortD (unDic (putD (toDic (unTup g.c)) p ((valD (toDic (unTup g.c)) p).getD 0 + k)))).map (·.1)).Perm ((unDic (putD (toDic (unTup g.c)) p ((valD (toDic (unTup g.c)) p).getD 0 + k))).map (·.1)) := (sortD_perm _).map _
    exact pm.nodup_iff.mpr nd
  · show (sortD _).length ≤ _
    rw [(sortD_perm _).length_eq]
    exact pl'
  · have hx' : x ∈ sortD (unDic (putD (toDic (unTup g.c)) p ((valD (toDic (unTup g.c)) p).getD 0 + k))) := hx
    rcases put_mem ((sortD_perm _).mem_iff.mp hx') with h | h
    · have := hb x h
      omega
    · rw [h]
      show (valD (toDic (unTup g.c)) p).getD 0 + k ≤ B + k
      cases e : valD (toDic (unTup g.c)) p with
      | none =>
        show (0 : Int) + k ≤ _
        omega
      | some w =>
        obtain ⟨y, hy, _, rfl⟩ := valD_mem e
        have := hb y hy
        show y.2 + k ≤ _
        omega
end PL

namespace PL
open PySem L2 Enc
def litL (g : Gdn) (x : Int) : Int := litP (fun p => decide (p ≤ x)) (unTup g.c)
def litR (g : Gdn) (x : Int) : Int := litP (fun p => decide (x < p)) (unTup g.c)
/-- by how many cans more go to the left of x than to the right -/
def dT (g : Gdn) (x : Int) : Int := cdiv (litL g x) g.b - cdiv (litR g x) g.b
def wayT (R : Int) (g : Gdn) (t : Int) : Int := wayR R ⟨t, g.b, g.c⟩
theorem wayT_step {g : Gdn} {R s t : Int} (h1 : -R ≤ s) (h2 : s ≤ t) (h3 : t ≤ R) : wayT R g t = wayT R g s + isum (fun x => 2 * dT g x) s t := by
  unfold wayT wayR
  rw [isum_add (f := fun x => 2 * cdiv (byd (⟨t, g.b, g.c⟩ : Gdn) x) g.b) h1 (by omega : s ≤ R), isum_add (f := fun x => 2 * cdiv (byd (⟨t, g.b, g.c⟩ : Gdn) x) g.b) h2 h3,
    isum_add (f := fun x => 2 * cdiv (byd (⟨s, g.b, g.c⟩ : Gdn) x) g.b) h1 (by omega : s ≤ R), isum_add (f := fun x => 2 * cdiv (byd (⟨s, g.b, g.c⟩ : Gdn) x) g.b) h2 h3]
  have e1 : isum (fun x => 2 * cdiv (byd (⟨t, g.b, g.c⟩ : Gdn) x) g.b) (-R) s = isum (fun x => 2 * cdiv (byd (⟨s, g.b, g.c⟩ : Gdn) x) g.b) (-R) s := isum_congr fun x q1 q2 => by
    unfold byd
    rw [if_neg (show ¬ t ≤ x by omega), if_neg (show ¬ s ≤ x by omega)]
  have e2 : isum (fun x => 2 * cdiv (byd (⟨t, g.b, g.c⟩ : Gdn) x) g.b) t R = isum (fun x => 2 * cdiv (byd (⟨s, g.b, g.c⟩ : Gdn) x) g.b) t R := isum_congr fun x q1 q2 => by
    unfold byd
    rw [if_pos (show t ≤ x by omega), if_pos (show s ≤ x by omega)]
  have e3 : isum (fun x => 2 * cdiv (byd (⟨t, g.b, g.c⟩ : Gdn) x) g.b) s t = isum (fun x => 2 * cdiv (byd (⟨s, g.b, g.c⟩ : Gdn) x) g.b + 2 * dT g x) s t := isum_congr fun x q1 q2 => by
    unfold byd dT litL litR
    rw [if_neg (show ¬ t ≤ x by omega), if_pos (show s ≤ x by omega)]
    show 2 * cdiv (litP (fun p => decide (p ≤ x)) (unTup g.c)) g.b = 2 * cdiv (litP (fun p => decide (x < p)) (unTup g.c)) g.b + _
    omega
  rw [e1, e2, e3, isum_plus]
  omega
theorem litL_mono {g : Gdn} (h : ∀ x ∈ unTup g.c, 0 ≤ x.2) {x y : Int} (q : x ≤ y) : litL g x ≤ litL g y := litP_le h fun b _ e => decide_eq_true (by have := of_decide_eq_true e; omega)
theorem litR_anti {g : Gdn} (h : ∀ x ∈ unTup g.c, 0 ≤ x.2) {x y : Int} (q : x ≤ y) : litR g y ≤ litR g x := litP_le h fun b _ e => decide_eq_true (by have := of_decide_eq_true e; omega)
theorem dT_mono {g : Gdn} (hc : 1 ≤ g.b) (h : ∀ x ∈ unTup g.c, 0 ≤ x.2) {x y : Int} (q : x ≤ y) : dT g x ≤ dT g y := by
  have h1 := cdiv_mono hc (litL_mono h q)
  have h2 := cdiv_mono hc (litR_anti h q)
  unfold dT
  omega
theorem dT_same {g : Gdn} {x y : Int} (h : ∀ b ∈ unTup g.c, b.1 ≤ x ↔ b.1 ≤ y) : dT g x = dT g y := by
  have e1 : litL g x = litL g y := litP_congr fun b hb => by
    rw [decide_eq_decide]
    exact h b hb
  have e2 : litR g x = litR g y := litP_congr fun b hb => by
    rw [decide_eq_decide]
    have := h b hb
    omega
  unfold dT
  rw [e1, e2]
/-- the first and the last best place of the tap -/
structure Best (g : Gdn) (f l : Int) : Prop where
  le : f ≤ l
  mf : ∃ b ∈ unTup g.c, b.1 = f
  ml : ∃ b ∈ unTup g.c, b.1 = l
  lo : ∀ t, t < f → dT g t < 0
  mid : ∀ t, f ≤ t → t < l → dT g t = 0
  hi : ∀ t, l ≤ t → 0 < dT g t
theorem Best.way {g : Gdn} {f l R t : Int} (h : Best g f l) (hf : -R ≤ f) (hl : l ≤ R) (h1 : -R ≤ t) (h2 : t ≤ R) : wayT R g f ≤ wayT R g t ∧ (wayT R g t = wayT R g f ↔ f ≤ t ∧ t ≤ l) := by
  have hle := h.le
  by_cases c : t < f
  · have e := wayT_step (g := g) h1 (Int.le_of_lt c) (by omega : f ≤ R)
    have q := isum_lt (f := fun x => 2 * dT g x) (g := fun _ => 0) (a := t) (b := f) (y := t) (fun x _ q => by have := h.lo x q; omega) (Int.le_refl _) c (by have := h.lo t c; omega)
    rw [isum_zero fun _ _ _ => rfl] at q
    omega
  · by_cases c2 : t ≤ l
    · have e := wayT_step (g := g) hf (by omega : f ≤ t) h2
      rw [isum_zero fun x q1 q2 => by rw [h.mid x q1 (by omega)]; rfl] at e
      omega
    · have e1 := wayT_step (g := g) hf hle hl
      rw [isum_zero fun x q1 q2 => by rw [h.mid x q1 (by omega)]; rfl] at e1
      have e2 := wayT_step (g := g) (by omega : -R ≤ l) (by omega : l ≤ t) h2
      have q := isum_lt (f := fun _ => 0) (g := fun x => 2 * dT g x) (a := l) (b := t) (y := l) (fun x q _ => by have := h.hi x q; omega) (Int.le_refl _) (by omega) (by have := h.hi l (Int.le_refl _); omega)
      rw [isum_zero fun _ _ _ => rfl] at q
      omega
/-- the bed at or before a place -/
theorem bed_before (t : Int) : ∀ l : List (Int × Int), (∀ b ∈ l, t < b.1) ∨ ∃ b ∈ l, b.1 ≤ t ∧ ∀ c ∈ l, c.1 ≤ t → c.1 ≤ b.1
  | [] => .inl fun b hb => absurd hb List.not_mem_nil
  | a :: l => by
    rcases bed_before t l with h | ⟨b, hb, h1, h2⟩
    · by_cases c : a.1 ≤ t
      · refine .inr ⟨a, List.mem_cons_self, c, fun d hd q => ?_⟩
        rcases List.mem_cons.mp hd with rfl | hd
        · exact Int.le_refl _
        · have := h d hd
          omega
      · refine .inl fun d hd => ?_
        rcases List.mem_cons.mp hd with rfl | hd
        · omega
        · exact h d hd
    · by_cases c : a.1 ≤ t ∧ b.1 < a.1
      · refine .inr ⟨a, List.mem_cons_self, c.1, fun d hd q => ?_⟩
        rcases List.mem_cons.mp hd with rfl | hd
        · exact Int.le_refl _
        · have := h2 d hd q
          omega
      · refine .inr ⟨b, List.mem_cons_of_mem _ hb, h1, fun d hd q => ?_⟩
        rcases List.mem_cons.mp hd with rfl | hd
        · omega
        · exact h2 d hd q
/-- each bed with its rise -/
def risesG (g : Gdn) : List (Int × Int) := (unTup g.c).map fun b => (b.1, dT g b.1)
def firstOf (g : Gdn) (q : Int → Bool) : Option Int := (((risesG g).filter fun x => q x.2).map (·.1)).head?
theorem firstOf_spec {g : Gdn} {q : Int → Bool} {f : Int} (ha : ((unTup g.c).map (·.1)).Pairwise (· < ·)) (h : firstOf g q = some f) : (∃ b ∈ unTup g.c, b.1 = f) ∧ q (dT g f) = true ∧ ∀ b ∈ unTup g.c, q (dT g b.1) = true → f ≤ b.1 := by
  unfold firstOf at h
  have hp : ((risesG g).filter fun x => q x.2).Pairwise fun a b => a.1 < b.1 := by
    refine List.Pairwise.sublist List.filter_sublist ?_
    unfold risesG
    rw [List.pairwise_map]
    rw [List.pairwise_map] at ha
    exact ha
  cases e : (risesG g).filter fun x => q x.2 with
  | nil =>
    rw [e] at h
    cases h
  | cons x r =>
    rw [e] at h hp
    have hx : x ∈ (risesG g).filter fun x => q x.2 := by rw [e]; exact List.mem_cons_self
    obtain ⟨h1, h2⟩ := List.mem_filter.mp hx
    obtain ⟨b, hb, rfl⟩ := List.mem_map.mp h1
    have hf : b.1 = f := Option.some.inj h
    subst hf
    refine ⟨⟨b, hb, rfl⟩, h2, fun c hc hq => ?_⟩
    have hm : (c.1, dT g c.1) ∈ (risesG g).filter fun x => q x.2 := List.mem_filter.mpr ⟨List.mem_map.mpr ⟨c, hc, rfl⟩, hq⟩
    rw [e] at hm
    rcases List.mem_cons.mp hm with z | z
    · rw [← (Prod.ext_iff.mp z).1]
      exact Int.le_refl _
    · exact Int.le_of_lt (show b.1 < c.1 from (List.pairwise_cons.mp hp).1 (c.1, dT g c.1) z)
theorem best_of {g : Gdn} (hc : 1 ≤ g.b) (ha : ((unTup g.c).map (·.1)).Pairwise (· < ·)) (hl : ∀ x ∈ unTup g.c, 1 ≤ x.2) (hn : unTup g.c ≠ []) :
    ∃ f l, firstOf g (fun r => decide (0 ≤ r)) = some f ∧ firstOf g (fun r => decide (0 < r)) = some l ∧ Best g f l := by
  have h0 : ∀ x ∈ unTup g.c, 0 ≤ x.2 := fun x hx => by have := hl x hx; omega
  have pos : ∀ {p : Int → Bool} {b : Int × Int}, b ∈ unTup g.c → p b.1 = true → 1 ≤ litP p (unTup g.c) := fun {p b} hb hp => by
    have : ∀ l : List (Int × Int), (∀ x ∈ l, 1 ≤ x.2) → b ∈ l → 1 ≤ litP p l := fun l => by
      induction l with
      | nil => exact fun _ h => absurd h List.not_mem_nil
      | cons a l ih =>
        intro h hb
        have h1 := h a List.mem_cons_self
        have h2 := litP_nn (p := p) (b := (l.map (·.2)).foldl maxI 0) (l := l) fun x hx => ⟨by have := h x (List.mem_cons_of_mem _ hx); omega, (foldl_maxI (l.map (·.2)) 0).2.2 _ (List.mem_map.mpr ⟨x, hx, rfl⟩)⟩
        rw [litP_cons]
        rcases List.mem_cons.mp hb with rfl | hb
        · rw [if_pos hp]
          omega
        · have := ih (fun x hx => h x (List.mem_cons_of_mem _ hx)) hb
          split <;> omega
    exact this _ hl hb
  have cpos : ∀ {n : Int}, 1 ≤ n → 1 ≤ cdiv n g.b := fun {n} h => by
    by_cases q : cdiv n g.b ≤ 0
    · have := (cdiv_iff hc).mp q
      omega
    · omega
  obtain ⟨b0, hb0⟩ := List.exists_mem_of_ne_nil _ hn
  -- the last bed
  have top : ∃ b ∈ unTup g.c, ∀ c ∈ unTup g.c, c.1 ≤ b.1 := by
    rcases bed_before (((unTup g.c).map (·.1)).foldl maxI 0) (unTup g.c) with h | ⟨b, hb, _, h2⟩
    · have h1 := h b0 hb0
      have h2 := (foldl_maxI ((unTup g.c).map (·.1)) 0).2.2 b0.1 (List.mem_map.mpr ⟨b0, hb0, rfl⟩)
      omega
    · exact ⟨b, hb, fun c hc => h2 c hc ((foldl_maxI ((unTup g.c).map (·.1)) 0).2.2 c.1 (List.mem_map.mpr ⟨c, hc, rfl⟩))⟩
  obtain ⟨bt, hbt, htop⟩ := top
  have dpos : ∀ t, bt.1 ≤ t → 0 < dT g t := fun t ht => by
    have e1 : litR g t = 0 := litP_none fun c hc => decide_eq_false (by have := htop c hc; omega)
    have e2 : 1 ≤ litL g t := pos hbt (decide_eq_true ht)
    have e3 := cpos e2
    unfold dT
    rw [e1, cdiv_zero hc]
    omega
  have dneg : ∀ t, (∀ b ∈ unTup g.c, t < b.1) → dT g t < 0 := fun t ht => by
    have e1 : litL g t = 0 := litP_none fun c hc => decide_eq_false (by have := ht c hc; omega)
    have e2 : 1 ≤ litR g t := pos hb0 (decide_eq_true (ht b0 hb0))
    have e3 := cpos e2
    unfold dT
    rw [e1, cdiv_zero hc]
    omega
  have ex : ∀ q : Int → Bool, q (dT g bt.1) = true → ∃ f, firstOf g q = some f := fun q hq => by
    cases e : firstOf g q with
    | some f => exact ⟨f, rfl⟩
    | none =>
      unfold firstOf at e
      rw [List.head?_eq_none_iff, List.map_eq_nil_iff] at e
      have : (bt.1, dT g bt.1) ∈ (risesG g).filter fun x => q x.2 := List.mem_filter.mpr ⟨List.mem_map.mpr ⟨bt, hbt, rfl⟩, hq⟩
      rw [e] at this
      cases this
  obtain ⟨f, ef⟩ := ex (fun r => decide (0 ≤ r)) (decide_eq_true (by have := dpos bt.1 (Int.le_refl _); omega))
  obtain ⟨l, el⟩ := ex (fun r => decide (0 < r)) (decide_eq_true (dpos bt.1 (Int.le_refl _)))
  obtain ⟨f1, f2, f3⟩ := firstOf_spec ha ef
  obtain ⟨l1, l2, l3⟩ := firstOf_spec ha el
  have f2' := of_decide_eq_true f2
  have l2' := of_decide_eq_true l2
  refine ⟨f, l, ef, el, ?_, f1, l1, fun t ht => ?_, fun t h1 h2 => ?_, fun t ht => ?_⟩
  · obtain ⟨b, hb, rfl⟩ := l1
    exact f3 b hb (decide_eq_true (by omega))
  · rcases bed_before t (unTup g.c) with h | ⟨b, hb, h1, h2⟩
    · exact dneg t h
    · have e : dT g t = dT g b.1 := dT_same fun c hc => ⟨fun q => h2 c hc q, fun q => by omega⟩
      rw [e]
      by_cases q : 0 ≤ dT g b.1
      · have := f3 b hb (decide_eq_true q)
        omega
      · omega
  · have m := dT_mono hc h0 h1
    rcases bed_before t (unTup g.c) with h | ⟨b, hb, q1, q2⟩
    · obtain ⟨b, hb, rfl⟩ := f1
      have := h b hb
      omega
    · have e : dT g t = dT g b.1 := dT_same fun c hc => ⟨fun q => q2 c hc q, fun q => by omega⟩
      by_cases q : 0 < dT g b.1
      · have := l3 b hb (decide_eq_true q)
        omega
      · omega
  · have m := dT_mono hc h0 ht
    omega
end PL

namespace PP
open PySem L2 PL PL.Enc
def m_parts_to (u : (T3 Int Int (Tup (Int × Int))) × Int × Unit) : M Unit (Fl Unit Empty (List (Int × Int))) :=
  (seqM (setS (pureM u.1)) (fun y1 : (T3 Int Int (Tup (Int × Int))) => (seqM (setS (pairM (fun1M minL (lstM (consM (pureM y1.a) (consM (pureM u.2.1) (pureM ([] : List Int)))))) (pairM (fun1M maxL (lstM (consM (pureM y1.a) (consM (pureM u.2.1) (pureM ([] : List Int)))))) (pureM ())))) (fun uv2 : (Int × Int × Unit) => (seqM (setS (sortUM (lstM (consM (pureM uv2.1) (consM (pureM uv2.2.1) (appM (compM (mapM1 unTup (pureM y1.c)) (fun x4 : (Int × Int) => (chainM (fun i j => decide (i < j)) (fun i j => decide (i < j)) (pureM uv2.1) (pureM x4.1) (pureM uv2.2.1))) (fun x4 : (Int × Int) => (pureM x4.1))) (pureM ([] : List Int)))))))) (fun marks3 : (List Int) => (seqM (setS (pureM ([] : (List (Int × Int))))) (fun parts5 : (List (Int × Int)) => (seqM (forS (zipM (pureM marks3) (cutM (pureM marks3) (mapM1 some (pureM (1 : Int))) (pureM none))) (fun (s6 : ((List (Int × Int)))) (x7 : (Int × Int)) => (seqM (setS (compM (mapM1 unTup (pureM y1.c)) (fun x9 : (Int × Int) => (iteM (gtM (pureM u.2.1) (pureM y1.a)) (geM (pureM x9.1) (pureM x7.2)) (leM (pureM x9.1) (pureM x7.1)))) (fun x9 : (Int × Int) => (pureM x9.2)))) (fun beyond8 : (List Int) => (seqM (appS s6 (tup2M (subM (pureM x7.2) (pureM x7.1)) (fun1M (fun l : List Int => some l.sum) (pureM beyond8)))) (fun y10 : (Int × Int) => (pureM (.nx ((s6 ++ [y10]))))))))) (parts5)) (fun s11 : ((List (Int × Int))) => (retS (pureM s11))))))))))))
def f_parts_to (u : (T3 Int Int (Tup (Int × Int))) × Int × Unit) : Option (List (Int × Int)) := (retM none (m_parts_to u) ()).map (·.1)
def m_extra_way (u : (T3 Int Int (Tup (Int × Int))) × Int × Unit) : M Unit (Fl Unit Empty Int) :=
  (seqM (setS (pureM u.1)) (fun y1 : (T3 Int Int (Tup (Int × Int))) => (retS (fun1M (fun l : List Int => some l.sum) (compM (callF f_parts_to (pairM (pureM u.1) (pairM (pureM u.2.1) (pureM ())))) (fun x2 : (Int × Int) => (eqIM (modM (pureM x2.2) (pureM y1.b)) (pureM (0 : Int)))) (fun x2 : (Int × Int) => (mulM (pureM (2 : Int)) (pureM x2.1))))))))
def f_extra_way (u : (T3 Int Int (Tup (Int × Int))) × Int × Unit) : Option Int := (retM none (m_extra_way u) ()).map (·.1)
def m_free_litres (u : (T3 Int Int (Tup (Int × Int))) × Int × Unit) : M Unit (Fl Unit Empty (Option Int)) :=
  (seqM (setS (pureM u.1)) (fun y1 : (T3 Int Int (Tup (Int × Int))) => (seqM (setS (compM (callF f_parts_to (pairM (pureM u.1) (pairM (pureM u.2.1) (pureM ())))) (fun x3 : (Int × Int) => (pureM true)) (fun x3 : (Int × Int) => (modM (negM (pureM x3.2)) (pureM y1.b))))) (fun rooms2 : (List Int) => (retS (iteM (neDM (pureM rooms2) (lstM (pureM ([] : List Int)))) (mapM1 some (fun1M minL (pureM rooms2))) (pureM (none : Option Int))))))))
def f_free_litres (u : (T3 Int Int (Tup (Int × Int))) × Int × Unit) : Option (Option Int) := (retM none (m_free_litres u) ()).map (·.1)
def m_way_with (u : (Tup (T3 Int Int Int)) × Int × Unit) : M Unit (Fl Unit Empty Int) :=
  (retS (fun1M (fun l : List Int => some l.sum) (compM (mapM1 unTup (pureM u.1)) (fun x1 : (T3 Int Int Int) => (pureM true)) (fun x1 : (T3 Int Int Int) => (mulM (mulM (pureM (2 : Int)) (subM (pureM x1.b) (pureM x1.a))) (negM (divM (negM (pureM x1.c)) (pureM u.2.1))))))))
def f_way_with (u : (Tup (T3 Int Int Int)) × Int × Unit) : Option Int := (retM none (m_way_with u) ()).map (·.1)
def m_least_can (u : (T3 Int Int (Tup (Int × Int))) × Int × Unit) : M Unit (Fl Unit Empty (Option Int)) :=
  (seqM (setS (callF f_stretches_of (pairM (pureM u.1) (pureM ())))) (fun stretches1 : (Tup (T3 Int Int Int)) => (seqM (setS (pairM (pureM (1 : Int)) (pairM (fun1M maxL (lstM (consM (pureM (1 : Int)) (appM (compM (mapM1 unTup (pureM stretches1)) (fun x3 : (T3 Int Int Int) => (pureM true)) (fun x3 : (T3 Int Int Int) => (pureM x3.c))) (pureM ([] : List Int)))))) (pureM ())))) (fun uv2 : (Int × Int × Unit) => (seqM (iteM (gtM (callF f_way_with (pairM (pureM stretches1) (pairM (pureM uv2.2.1) (pureM ())))) (pureM u.2.1)) (retS (pureM (none : Option Int))) (pureM (.nx ()))) (fun s4 : Unit => (seqM (whileS 200 (fun s5 : (Int × Int) => (ltM (pureM s5.1) (pureM s5.2))) (fun s5 : (Int × Int) => (seqM (setS (divM (addM (pureM s5.1) (pureM s5.2)) (pureM (2 : Int)))) (fun middle6 : Int => (seqM (iteM (leM (callF f_way_with (pairM (pureM stretches1) (pairM (pureM middle6) (pureM ())))) (pureM u.2.1)) (seqM (setS (pureM middle6)) (fun high7 : Int => (pureM (.nx (s5.1, high7))))) (seqM (setS (addM (pureM middle6) (pureM (1 : Int)))) (fun low8 : Int => (pureM (.nx (low8, s5.2)))))) (fun s9 : (Int × Int) => (pureM (.nx (s9.1, s9.2)))))))) (uv2.1, uv2.2.1)) (fun s10 : (Int × Int) => (retS (mapM1 some (pureM s10.1)))))))))))
def f_least_can (u : (T3 Int Int (Tup (Int × Int))) × Int × Unit) : Option (Option Int) := (retM none (m_least_can u) ()).map (·.1)

theorem maxL_two (a b : Int) : maxL [a, b] = some (if a < b then b else a) := by
  show some (maxI a b) = _
  unfold maxI
  by_cases h : a < b
  · rw [if_pos h]
  · rw [if_neg h]
theorem minL_two (a b : Int) : minL [a, b] = some (if b < a then b else a) := by
  show some (minI a b) = _
  unfold minI
  rfl
theorem parts_ok {g : Gdn} (h : Gok g) {p : Int} (hp : -4000000 ≤ p ∧ p ≤ 4000000) : f_parts_to (g, p, ()) = some (partsG g p) := by
  refine f_of ?_
  have hl := h.len
  have fl := List.length_filter_le (fun x : Int × Int => decide (loP g p < x.1) && decide (x.1 < hiP g p)) (unTup g.c)
  simp only [m_parts_to, nf1, nf2, nf3, nf4, cutL_tail, maxL_two, minL_two]
  have e1 : (if p < g.a then p else g.a) = loP g p := rfl
  have e2 : (if g.a < p then p else g.a) = hiP g p := rfl
  simp only [e1, e2]
  have e3 : sortU (loP g p :: hiP g p :: ((unTup g.c).filter fun x => decide (loP g p < x.1) && decide (x.1 < hiP g p)).map (·.1)) = marksP g p := rfl
  have ml : (marksP g p).length ≤ 42 := by
    rw [← e3]
    refine Nat.le_trans (sortU_len _) ?_
    rw [List.length_cons, List.length_cons, List.length_map]
    omega
  rw [guard_true (lenOk_le (by simp)), guard_true (lenOk_le (by simp)), guard_true (lenOk_le (by omega)), guard_true (lenOk_le (by rw [List.length_cons, List.length_cons, List.length_map]; exact Nat.le_trans (Nat.succ_le_succ (Nat.succ_le_succ (List.length_filter_le _ _))) (by omega))), guard_true (by rw [List.length_cons, List.length_cons, List.length_map]; exact Nat.lt_of_le_of_lt (Nat.succ_le_succ (Nat.succ_le_succ (List.length_filter_le _ _))) (by omega))]
  have e3' : sortU (loP g p :: hiP g p :: List.map Prod.fst ((unTup g.c).filter fun x => decide (loP g p < x.1) && decide (x.1 < hiP g p))) = marksP g p := rfl
  simp only [e3']
  rw [lp_app (fun x : Int × Int => (x.2 - x.1, byd g x.1)) (by
    rw [List.length_zip]
    omega)]
  · rfl
  · intro y x hx
    have n := nbP_of hx
    have hh := lohi g p
    have a1 := n.lt
    have a2 := n.le
    rw [guard_true (lenOk_le (by omega))]
    have e4 : ((List.filter (fun x9 : Int × Int => if decide (g.a < p) = true then decide (x.2 ≤ x9.1) else decide (x9.1 ≤ x.1)) (unTup g.c)).map Prod.snd).sum = byd g x.1 := by
      unfold byd
      by_cases c : g.a < p
      · rw [if_pos (by omega)]
        refine litP_congr (p := fun q => if decide (g.a < p) = true then decide (x.2 ≤ q) else decide (q ≤ x.1)) fun b hb => ?_
        have := n.pl b hb
        simp only [c, decide_true, if_true]
        rw [decide_eq_decide]
        omega
      · rw [if_neg (by omega)]
        refine litP_congr (p := fun q => if decide (g.a < p) = true then decide (x.2 ≤ q) else decide (q ≤ x.1)) fun b hb => ?_
        simp only [c, decide_false, Bool.false_eq_true, if_false]
    have lc : ∀ k : List Int → M Unit (Fl (List (Int × Int)) (List (Int × Int)) (List (Int × Int))), bindM (lcM (fun x9 : Int × Int => if decide (g.a < p) = true then pureM (decide (x.2 ≤ x9.1)) else pureM (decide (x9.1 ≤ x.1))) (fun x9 : Int × Int => pureM x9.2) (unTup g.c)) k = k ((List.filter (fun x9 : Int × Int => if decide (g.a < p) = true then decide (x.2 ≤ x9.1) else decide (x9.1 ≤ x.1)) (unTup g.c)).map Prod.snd) := fun k => by
      rw [lcM_pure (q := fun x9 : Int × Int => if decide (g.a < p) = true then decide (x.2 ≤ x9.1) else decide (x9.1 ≤ x.1)) (g := Prod.snd) (fun b _ => by split <;> rfl) (fun _ _ _ => rfl)]
      rfl
    rw [lc]
    rw [e4]
theorem extra_ok {g : Gdn} (h : Gok g) {p : Int} (hp : -4000000 ≤ p ∧ p ≤ 4000000) : f_extra_way (g, p, ()) = some (isum (fun x => if byd g x % g.b = 0 then 2 else 0) (loP g p) (hiP g p)) := by
  refine f_of ?_
  have hl := h.len
  have hc := h.can
  have pl := parts_len g p
  have hlh := lohi g p
  have ht := h.tap
  simp only [m_extra_way, nf1, nf2, nf3, nf4, parts_ok h hp]
  rw [guard_true (lenOk_le (by omega)), lcM_pure (q := fun x : Int × Int => decide (x.2 % g.b = 0)) (g := fun x : Int × Int => 2 * x.1) (fun x _ => ?_) (fun x hx _ => ?_), bind_pure, filt_sum]
  · rw [← parts_sum g p fun n => if n % g.b = 0 then 2 else 0]
    refine congrArg (fun l : List Int => (pureM (List.sum l) : M Unit Int)) (List.map_congr_left fun x _ => ?_)
    by_cases c : x.2 % g.b = 0
    · rw [if_pos (decide_eq_true c), if_pos c, Int.mul_comm]
    · rw [if_neg (by rw [decide_eq_false c]; exact Bool.false_ne_true), if_neg c, Int.mul_zero]
  · rw [guard_true (show modOk _ _ from (by unfold modOk; omega))]
  · obtain ⟨y, h1, h2, h3, h4, h5⟩ := parts_mem hx
    rw [guard_true ⟨by decide, wide_of (by omega) (by omega)⟩]
/-- the least room on the way -/
theorem free_ok {g : Gdn} (h : Gok g) {p : Int} (hp : -4000000 ≤ p ∧ p ≤ 4000000) : ∃ r, f_free_litres (g, p, ()) = some r ∧ ((p = g.a ∧ r = none) ∨ (p ≠ g.a ∧ ∃ k, r = some k ∧ 0 ≤ k ∧ k < g.b ∧ (∀ x, loP g p ≤ x → x < hiP g p → k ≤ (-(byd g x)) % g.b) ∧ ∃ x, loP g p ≤ x ∧ x < hiP g p ∧ k = (-(byd g x)) % g.b)) := by
  have hl := h.len
  have hc := h.can
  have pl := parts_len g p
  have e : f_free_litres (g, p, ()) = some (if (partsG g p).map (fun x => (-x.2) % g.b) = [] then none else minL ((partsG g p).map fun x => (-x.2) % g.b)) := by
    refine f_of ?_
    simp only [m_free_litres, nf1, nf2, nf3, nf4, parts_ok h hp]
    rw [guard_true (lenOk_le (by omega)), lcM_pure (q := fun _ => true) (g := fun x : Int × Int => (-x.2) % g.b) (fun _ _ => rfl) (fun x _ _ => by rw [guard_true (show modOk _ _ from (by unfold modOk; omega))]), List.filter_eq_self.mpr fun _ _ => rfl, bind_pure]
    generalize (partsG g p).map (fun x => (-x.2) % g.b) = l
    cases l with
    | nil =>
      rw [guard_true (lenOk_le (by simp)), guard_true shp_two, if_pos rfl]
      have e1 : PyData.eqv (enc ([] : List Int)) (enc ([] : List Int)) = true := by
        show PyData.eqv (.list []) (.list []) = true
        simp [PyData.eqv, PyData.eqvAll]
      rw [e1]
      rfl
    | cons a l =>
      rw [guard_true (lenOk_le (by simp)), guard_true shp_two, if_neg (List.cons_ne_nil _ _)]
      have e1 : PyData.eqv (enc (a :: l)) (enc ([] : List Int)) = false := by
        show PyData.eqv (.list (enc a :: l.map enc)) (.list []) = false
        simp [PyData.eqv, PyData.eqvAll]
      rw [e1]
      rfl
  refine ⟨_, e, ?_⟩
  by_cases c : p = g.a
  · left
    refine ⟨c, ?_⟩
    rw [(parts_nil g p).mpr c]
    rfl
  · right
    refine ⟨c, ?_⟩
    have ne : (partsG g p).map (fun x => (-x.2) % g.b) ≠ [] := fun z => c ((parts_nil g p).mp (List.map_eq_nil_iff.mp z))
    rw [if_neg ne]
    cases em : minL ((partsG g p).map fun x => (-x.2) % g.b) with
    | none =>
      cases eq : (partsG g p).map (fun x => (-x.2) % g.b) with
      | nil => exact absurd eq ne
      | cons a l =>
        rw [eq] at em
        cases em
    | some k =>
      obtain ⟨h1, h2⟩ := minL_spec em
      obtain ⟨x, hx, e1⟩ := List.mem_map.mp h1
      obtain ⟨y, y1, y2, y3, _⟩ := parts_mem hx
      have e1' : (-x.2) % g.b = k := e1
      have q0 := Int.emod_nonneg (-x.2) (show g.b ≠ 0 by omega)
      have q1 := Int.emod_lt_of_pos (-x.2) (show 0 < g.b by omega)
      refine ⟨k, rfl, by omega, by omega, fun z z1 z2 => ?_, y, y1, y2, by rw [← e1', y3]⟩
      obtain ⟨w, hw, ew⟩ := parts_at z1 z2
      rw [← ew]
      exact h2 _ (List.mem_map.mpr ⟨w, hw, rfl⟩)
theorem with_ok {g : Gdn} (h : Gok g) {c R : Int} (hc : 1 ≤ c ∧ c ≤ 1000000000000000) (hR : 4000000 ≤ R) : f_way_with (toTup (strG g), c, ()) = some (isum (fun x => 2 * cdiv (byd g x) c) (-R) R) := by
  refine f_of ?_
  have hs := h.str
  have hm := h.marks
  simp only [m_way_with, nf1, nf2, nf3, nf4]
  rw [guard_true (lenOk_le (show (strG g).length ≤ _ by omega)), lcM_pure (q := fun _ => true) (g := fun t : T3 Int Int Int => 2 * (t.b - t.a) * cdiv t.c c) (fun _ _ => rfl) (fun t ht _ => ?_), List.filter_eq_self.mpr fun _ _ => rfl, bind_pure]
  · rw [← str_sum (g := g) (R := R) (fun m hm' => by have := hm.1 m hm'; omega) (fun n => 2 * cdiv n c) (by rw [cdiv_zero hc.1]; rfl)]
    refine congrArg (fun l : List Int => (pureM (List.sum l) : M Unit Int)) (List.map_congr_left fun t ht => ?_)
    show 2 * (t.b - t.a) * cdiv t.c c = (t.b - t.a) * (2 * cdiv t.c c)
    rw [Int.mul_comm 2, Int.mul_assoc]
  · have q := hs.2 t ht
    have q1 := cdiv_nn hc.1 q.2.2.2.1
    have q2 := cdiv_le hc.1 q.2.2.2.1
    rw [guard_true ⟨by decide, wide_of (by omega) (by omega)⟩, guard_true ⟨by omega, wide_of (by omega) (by omega)⟩, cdiv_neg hc.1, guard_true ⟨wide_of (by omega) (by omega), wide_of (by omega) (by omega)⟩]
/-- halving ends -/
theorem half_run {c : Int × Int → M Unit Bool} {f : Int × Int → M Unit (Fl (Int × Int) (Int × Int) (Option Int))} {ok : Int → Bool} {top : Int} (hc : ∀ s, c s = pureM (decide (s.1 < s.2)))
    (hf : ∀ s, 1 ≤ s.1 → s.1 < s.2 → s.2 ≤ top → f s = pureM (.nx (if ok ((s.1 + s.2) / 2) = true then (s.1, (s.1 + s.2) / 2) else ((s.1 + s.2) / 2 + 1, s.2)))) : ∀ (n : Nat) (lo hi : Int), 1 ≤ lo → lo ≤ hi → hi ≤ top → hi - lo < 2 ^ n → ok hi = true → (lo = 1 ∨ ok (lo - 1) = false) →
    ∃ r, whileM c f (n + 1) (lo, hi) = pureM (.nx (r, r)) ∧ 1 ≤ r ∧ r ≤ hi ∧ ok r = true ∧ (r = 1 ∨ ok (r - 1) = false)
  | n, lo, hi, h1, h2, h3, h4, h5, h6 => by
    by_cases e : lo < hi
    · show ∃ r, bindM (c (lo, hi)) _ = _ ∧ _
      rw [hc, bind_pure, if_pos (decide_eq_true e), hf (lo, hi) h1 e h3, bind_pure]
      have m1 : lo ≤ (lo + hi) / 2 ∧ (lo + hi) / 2 < hi := by omega
      cases n with
      | zero =>
        have : hi - lo < 1 := h4
        omega
      | succ n =>
        have hp : (2 : Int) ^ (n + 1) = 2 * 2 ^ n := by
          rw [Int.pow_succ]
          omega
        rw [hp] at h4
        cases ek : ok ((lo + hi) / 2) with
        | true =>
          simp only [ek, if_true]
          obtain ⟨r, q1, q2, q3, q4, q5⟩ := half_run hc hf n lo ((lo + hi) / 2) h1 m1.1 (by omega) (by omega) ek h6
          exact ⟨r, q1, q2, by omega, q4, q5⟩
        | false =>
          simp only [ek, Bool.false_eq_true, if_false]
          exact half_run hc hf n ((lo + hi) / 2 + 1) hi (by omega) (by omega) h3 (by omega) h5 (.inr (by rw [show (lo + hi) / 2 + 1 - 1 = (lo + hi) / 2 by omega]; exact ek))
    · refine ⟨lo, ?_, h1, h2, by rw [show lo = hi by omega]; exact h5, h6⟩
      show bindM (c (lo, hi)) _ = _
      rw [hc, bind_pure, if_neg (by rw [decide_eq_false e]; exact Bool.false_ne_true), show hi = lo by omega]
/-- the way with a can -/
def wayC (R : Int) (g : Gdn) (c : Int) : Int := isum (fun x => 2 * cdiv (byd g x) c) (-R) R
theorem wayC_eq (R : Int) (g : Gdn) (c : Int) : wayC R g c = wayR R ⟨g.a, c, g.c⟩ := rfl
theorem wayC_big {g : Gdn} (h : Gok g) {R c d : Int} (hc : 1 ≤ c) (hd : 1 ≤ d) (h1 : ∀ x, byd g x ≤ c) (h2 : ∀ x, byd g x ≤ d) : wayC R g c = wayC R g d :=
  isum_congr fun x _ _ => by rw [cdiv_big hc (h.byd x).1 (h1 x), cdiv_big hd (h.byd x).1 (h2 x)]
def topC (g : Gdn) : Int := ((strG g).map (·.c)).foldl maxI 1
theorem topC_spec {g : Gdn} (h : Gok g) : 1 ≤ topC g ∧ topC g ≤ 40000000000000 ∧ ∀ x, byd g x ≤ topC g := by
  have q := foldl_maxI ((strG g).map (·.c)) 1
  have hs := h.str
  refine ⟨q.2.1, ?_, fun x => ?_⟩
  · rcases q.1 with e | e
    · have e' : topC g = 1 := e
      omega
    · obtain ⟨t, ht, e⟩ := List.mem_map.mp e
      have := hs.2 t ht
      have e' : t.c = topC g := e
      omega
  · by_cases c : (∀ m ∈ marksG g, x < m) ∨ ∀ m ∈ marksG g, m ≤ x
    · rw [byd_out c]
      have : (1 : Int) ≤ topC g := q.2.1
      omega
    · have hs' : (marksG g).Pairwise (· < ·) := sortU_lt _
      cases e : marksG g with
      | nil =>
        rw [e] at c
        exact absurd (.inl fun m hm => by cases hm) c
      | cons m0 ms =>
        rw [e] at c hs'
        have c1 : ¬ x < m0 := fun z => c (.inl fun m hm => by
          rcases List.mem_cons.mp hm with rfl | hm
          · exact z
          · have := (List.pairwise_cons.mp hs').1 m hm
            omega)
        have c2 : x < (m0 :: ms).getLast (List.cons_ne_nil _ _) := Int.not_le.mp fun z => c (.inr fun m hm => Int.le_trans (last_top _ (List.cons_ne_nil _ _) hs' m hm) z)
        obtain ⟨p, hp, p1, p2⟩ := zip_cover ms m0 x hs' (by omega) c2
        have hz : (marksG g).zip ((marksG g).drop 1) = (m0 :: ms).zip ms := by rw [e]; rfl
        rw [← hz] at hp
        have := (nb_of hp).byd p1 p2
        rw [this]
        exact q.2.2 _ (List.mem_map.mpr ⟨stepG g p, List.mem_map.mpr ⟨p, hp, rfl⟩, rfl⟩)
theorem least_can_ok {g : Gdn} (h : Gok g) {R : Int} (hR : 4000000 ≤ R) (num : Int) : ∃ r, f_least_can (g, num, ()) = some r ∧ ((num < wayC R g (topC g) ∧ r = none) ∨ (wayC R g (topC g) ≤ num ∧ ∃ k, r = some k ∧ 1 ≤ k ∧ k ≤ topC g ∧ wayC R g k ≤ num ∧ (k = 1 ∨ num < wayC R g (k - 1)))) := by
  have hs := h.str
  have ht := topC_spec h
  have hw : ∀ c : Int, 1 ≤ c → c ≤ topC g → f_way_with (toTup (strG g), c, ()) = some (wayC R g c) := fun c h1 h2 => with_ok h ⟨h1, by omega⟩ hR
  have e0 : f_least_can (g, num, ()) = (retM none (m_least_can (g, num, ())) ()).map (·.1) := rfl
  have e1 : (maxL (1 :: (strG g).map fun t : T3 Int Int Int => t.c)) = some (topC g) := rfl
  by_cases c : num < wayC R g (topC g)
  · refine ⟨none, f_of ?_, .inl ⟨c, rfl⟩⟩
    simp only [m_least_can, nf1, nf2, nf3, nf4, stretches_ok h]
    rw [guard_true (show lenOk (unTup (toTup (strG g))).length from lenOk_le (Nat.le_trans hs.1 (by decide))), guard_true (show lenOk (1 :: List.map T3.c (unTup (toTup (strG g)))).length from lenOk_le (by
      rw [List.length_cons, List.length_map]
      show (strG g).length + 1 ≤ _
      omega)), show maxL (1 :: List.map T3.c (strG g)) = some (topC g) from rfl]
    simp only [nf1, hw _ ht.1 (Int.le_refl _), decide_eq_true c, if_true]
  · obtain ⟨k, k1, k2, k3, k4, k5⟩ := half_run (ok := fun c => decide (wayC R g c ≤ num)) (top := topC g) (c := fun s5 : Int × Int => pureM (decide (s5.1 < s5.2)))
      (f := fun s5 : Int × Int => bindM (guardM (divOk (s5.1 + s5.2) 2) (pureM ((s5.1 + s5.2) / 2))) fun m6 => bindM (ofO (f_way_with (toTup (strG g), m6, ()))) fun w => if decide (w ≤ num) = true then pureM (.nx (s5.1, m6)) else pureM (.nx (m6 + 1, s5.2)))
      (fun _ => rfl) (fun s s1 s2 s3 => by
        have m1 : 1 ≤ (s.1 + s.2) / 2 ∧ (s.1 + s.2) / 2 ≤ topC g := by omega
        rw [guard_true ⟨by decide, by decide⟩, bind_pure, hw _ m1.1 m1.2]
        by_cases q : wayC R g ((s.1 + s.2) / 2) ≤ num
        · simp only [nf1, decide_eq_true q, if_true]
        · simp only [nf1, decide_eq_false q, Bool.false_eq_true, if_false]) 199 1 (topC g) (Int.le_refl _) ht.1 (Int.le_refl _) (by omega) (decide_eq_true (by omega)) (.inl rfl)
    refine ⟨some k, f_of ?_, .inr ⟨by omega, k, rfl, k2, k3, of_decide_eq_true k4, k5.imp id fun q => by have := of_decide_eq_false q; omega⟩⟩
    simp only [m_least_can, nf1, nf2, nf3, nf4, stretches_ok h]
    rw [guard_true (show lenOk (unTup (toTup (strG g))).length from lenOk_le (Nat.le_trans hs.1 (by decide))), guard_true (show lenOk (1 :: List.map T3.c (unTup (toTup (strG g)))).length from lenOk_le (by
      rw [List.length_cons, List.length_map]
      show (strG g).length + 1 ≤ _
      omega)), show maxL (1 :: List.map T3.c (strG g)) = some (topC g) from rfl]
    simp only [nf1, hw _ ht.1 (Int.le_refl _), decide_eq_false c, Bool.false_eq_true, if_false, whileS, retM_loop]
    simp only [nf1] at k1
    rw [k1]
    rfl
end PP

namespace PP
open PySem L2 PL PL.Enc
def m_rises_behind (u : (T3 Int Int (Tup (Int × Int))) × Unit) : M Unit (Fl Unit Empty (List (Int × Int))) :=
  (seqM (setS (pureM u.1)) (fun y1 : (T3 Int Int (Tup (Int × Int))) => (seqM (setS (pairM (pureM (0 : Int)) (pairM (fun1M (fun l : List Int => some l.sum) (compM (mapM1 unTup (pureM y1.c)) (fun x3 : (Int × Int) => (pureM true)) (fun x3 : (Int × Int) => (pureM x3.2)))) (pairM (pureM ([] : (List (Int × Int)))) (pureM ()))))) (fun uv2 : (Int × Int × (List (Int × Int)) × Unit) => (seqM (forS (mapM1 unTup (pureM y1.c)) (fun (s4 : (Int × Int × (List (Int × Int)))) (x5 : (Int × Int)) => (seqM (setS (pairM (addM (pureM s4.1) (pureM x5.2)) (pairM (subM (pureM s4.2.1) (pureM x5.2)) (pureM ())))) (fun uv6 : (Int × Int × Unit) => (seqM (appS s4.2.2 (tup2M (pureM x5.1) (addM (negM (divM (negM (pureM uv6.1)) (pureM y1.b))) (divM (negM (pureM uv6.2.1)) (pureM y1.b))))) (fun y7 : (Int × Int) => (pureM (.nx (uv6.1, uv6.2.1, (s4.2.2 ++ [y7]))))))))) (uv2.1, uv2.2.1, uv2.2.2.1)) (fun s8 : (Int × Int × (List (Int × Int))) => (retS (pureM s8.2.2))))))))
def f_rises_behind (u : (T3 Int Int (Tup (Int × Int))) × Unit) : Option (List (Int × Int)) := (retM none (m_rises_behind u) ()).map (·.1)
def m_best_taps (u : (T3 Int Int (Tup (Int × Int))) × Unit) : M Unit (Fl Unit Empty (Option (Int × Int))) :=
  (seqM (setS (callF f_rises_behind (pairM (pureM u.1) (pureM ())))) (fun rises1 : (List (Int × Int)) => (seqM (iteM (eqDM (pureM rises1) (lstM (pureM ([] : List (Int × Int))))) (retS (pureM (none : Option (Int × Int)))) (pureM (.nx ()))) (fun s2 : Unit => (seqM (setS (ixM (compM (pureM rises1) (fun x4 : (Int × Int) => (geM (pureM x4.2) (pureM (0 : Int)))) (fun x4 : (Int × Int) => (pureM x4.1))) (pureM (0 : Int)))) (fun first3 : Int => (seqM (setS (ixM (compM (pureM rises1) (fun x6 : (Int × Int) => (gtM (pureM x6.2) (pureM (0 : Int)))) (fun x6 : (Int × Int) => (pureM x6.1))) (pureM (0 : Int)))) (fun last5 : Int => (retS (mapM1 some (tup2M (pureM first3) (pureM last5))))))))))))
def f_best_taps (u : (T3 Int Int (Tup (Int × Int))) × Unit) : Option (Option (Int × Int)) := (retM none (m_best_taps u) ()).map (·.1)
def m_better_tap (u : (T3 Int Int (Tup (Int × Int))) × Unit) : M Unit (Fl Unit Empty (Option Int)) :=
  (seqM (bindM (callF f_best_taps (pairM (pureM u.1) (pureM ()))) fun places1 => if places1.isNone = true then (retS (pureM (none : Option Int))) else (pureM (.nx places1))) (fun s2 : (Option (Int × Int)) => (retS (iteM (ltM (callF f_way_at (pairM (pureM u.1) (pairM (mapM1 (fun y : (Int × Int) => y.1) (bindM (pureM s2) fun y => ofO y)) (pureM ())))) (callF f_least_way (pairM (pureM u.1) (pureM ())))) (mapM1 some (mapM1 (fun y : (Int × Int) => y.1) (bindM (pureM s2) fun y => ofO y))) (pureM (none : Option Int))))))
def f_better_tap (u : (T3 Int Int (Tup (Int × Int))) × Unit) : Option (Option Int) := (retM none (m_better_tap u) ()).map (·.1)

theorem asc_split {l pre post : List (Int × Int)} {x : Int × Int} (e : l = pre ++ x :: post) (h : (l.map (·.1)).Pairwise (· < ·)) :
    litP (fun p => decide (p ≤ x.1)) l = (pre.map (·.2)).sum + x.2 ∧ litP (fun p => decide (x.1 < p)) l = (l.map (·.2)).sum - ((pre.map (·.2)).sum + x.2) := by
  subst e
  rw [List.map_append, List.map_cons, List.pairwise_append] at h
  obtain ⟨_, h2, h3⟩ := h
  have a1 : ∀ b ∈ pre, b.1 < x.1 := fun b hb => h3 b.1 (List.mem_map.mpr ⟨b, hb, rfl⟩) x.1 List.mem_cons_self
  have a2 : ∀ b ∈ post, x.1 < b.1 := fun b hb => (List.pairwise_cons.mp h2).1 b.1 (List.mem_map.mpr ⟨b, hb, rfl⟩)
  rw [litP_app, litP_app, litP_cons, litP_cons, litP_all fun b hb => decide_eq_true (by have := a1 b hb; omega), litP_none (l := post) fun b hb => decide_eq_false (by have := a2 b hb; omega),
    litP_none (l := pre) fun b hb => decide_eq_false (by have := a1 b hb; omega), litP_all (l := post) fun b hb => decide_eq_true (a2 b hb), if_pos (decide_eq_true (Int.le_refl _)), if_neg (by rw [decide_eq_false (Int.lt_irrefl _)]; exact Bool.false_ne_true),
    List.map_append, List.sum_append, List.map_cons, List.sum_cons]
  omega
theorem rises_ok {g : Gdn} (h : Gok g) (ha : ((unTup g.c).map (·.1)).Pairwise (· < ·)) : f_rises_behind (g, ()) = some (risesG g) := by
  refine f_ok ?_
  show OkM KU 0 (retM none (m_rises_behind (g, ()))) _
  have hl := h.len
  have hc := h.can
  simp only [m_rises_behind, nf1, nf2, nf3, nf4]
  refine ob_guard (lenOk_le (by omega)) ?_
  refine ob_lp 40 0 0 (fun pre (s : Int × Int × List (Int × Int)) => s.1 = (pre.map (·.2)).sum ∧ s.2.1 = ((unTup g.c).map (·.2)).sum - (pre.map (·.2)).sum ∧ s.2.2 = pre.map fun b => (b.1, dT g b.1)) hl (by omega) ⟨rfl, by show ((unTup g.c).map Prod.snd).sum = _ - 0; rw [Int.sub_zero], rfl⟩ (fun pre x post s e hs => ?_) fun s hs => ob_pure ?_
  · obtain ⟨e1, e2⟩ := asc_split e ha
    have pl : pre.length < 40 := by
      have := congrArg List.length e
      rw [List.length_append, List.length_cons] at this
      omega
    refine ob_guard ⟨by omega, wide_of (by omega) (by omega)⟩ (ob_guard ⟨by omega, wide_of (by omega) (by omega)⟩ (ob_guard (lenOk_le (by
      rw [hs.2.2, List.length_map]
      omega)) (ob_pure ⟨?_, ?_, ?_⟩)))
    · show s.1 + x.2 = _
      rw [hs.1, List.map_append, List.sum_append]
      simp
    · show s.2.1 - x.2 = _
      rw [hs.2.1, List.map_append, List.sum_append]
      simp
      omega
    · show s.2.2 ++ [(x.1, -(-(s.1 + x.2) / g.b) + -(s.2.1 - x.2) / g.b)] = _
      rw [hs.2.2, List.map_append]
      have q : -(-(s.1 + x.2) / g.b) + -(s.2.1 - x.2) / g.b = dT g x.1 := by
        unfold dT litL litR
        rw [e1, e2, cdiv_neg hc.1, ← cdiv_neg (n := ((unTup g.c).map (·.2)).sum - ((pre.map (·.2)).sum + x.2)) hc.1, hs.1, hs.2.1]
        rw [show ((unTup g.c).map (·.2)).sum - (pre.map (·.2)).sum - x.2 = ((unTup g.c).map (·.2)).sum - ((pre.map (·.2)).sum + x.2) by omega]
        omega
      rw [q]
      rfl
  · exact hs.2.2
theorem atI_zero {A : Type} (l : List A) : atI l 0 = l.head? := by
  cases l with
  | nil => rfl
  | cons x l => exact atI_nth (l := x :: l) (k := 0) (by simp)
/-- the first and the last best place -/
def bestG (g : Gdn) : Option (Int × Int) := match firstOf g (fun r => decide (0 ≤ r)), firstOf g (fun r => decide (0 < r)) with
  | some f, some l => some (f, l)
  | _, _ => none
theorem best_ok {g : Gdn} (h : Gok g) (ha : ((unTup g.c).map (·.1)).Pairwise (· < ·)) (hl : ∀ x ∈ unTup g.c, 1 ≤ x.2) : f_best_taps (g, ()) = some (bestG g) ∧ ((unTup g.c = [] ∧ bestG g = none) ∨ ∃ f l, bestG g = some (f, l) ∧ unTup g.c ≠ [] ∧ Best g f l) := by
  have hle := h.len
  have hc := h.can
  have rl : (risesG g).length ≤ 40 := by
    unfold risesG
    rw [List.length_map]
    exact hle
  cases e : unTup g.c with
  | nil =>
    have er : risesG g = [] := by
      unfold risesG
      rw [e]
      rfl
    have eb : bestG g = none := by
      unfold bestG firstOf
      rw [er]
      rfl
    refine ⟨f_of ?_, .inl ⟨rfl, eb⟩⟩
    simp only [m_best_taps, nf1, nf2, nf3, nf4, rises_ok h ha]
    rw [er, guard_true (lenOk_le (by simp)), guard_true shp_two]
    have e1 : PyData.eqv (enc ([] : List (Int × Int))) (enc ([] : List (Int × Int))) = true := by
      show PyData.eqv (.list []) (.list []) = true
      simp [PyData.eqv, PyData.eqvAll]
    rw [e1, if_pos rfl, eb]
  | cons b r =>
    have hn : unTup g.c ≠ [] := by rw [e]; exact List.cons_ne_nil _ _
    obtain ⟨f, l, ef, el, hb⟩ := best_of hc.1 ha hl hn
    have eb : bestG g = some (f, l) := by
      unfold bestG
      rw [ef, el]
    refine ⟨f_of ?_, .inr ⟨f, l, eb, List.cons_ne_nil _ _, hb⟩⟩
    simp only [m_best_taps, nf1, nf2, nf3, nf4, rises_ok h ha]
    have e1 : PyData.eqv (enc (risesG g)) (enc ([] : List (Int × Int))) = false := by
      unfold risesG
      rw [e]
      show PyData.eqv (.list (enc (b.1, dT g b.1) :: _)) (.list []) = false
      simp [PyData.eqv, PyData.eqvAll]
    have e2 : atI (((risesG g).filter fun x : Int × Int => decide (0 ≤ x.2)).map Prod.fst) 0 = some f := by
      rw [atI_zero]
      exact ef
    have e3 : atI (((risesG g).filter fun x : Int × Int => decide (0 < x.2)).map Prod.fst) 0 = some l := by
      rw [atI_zero]
      exact el
    rw [guard_true (lenOk_le (by simp)), guard_true shp_two, e1, if_neg Bool.false_ne_true, guard_true (show lenOk (risesG g).length from lenOk_le (by omega)), e2]
    simp only [nf1]
    rw [guard_true (show lenOk (risesG g).length from lenOk_le (by omega)), e3, eb]
    rfl
theorem better_none {g : Gdn} (h : f_best_taps (g, ()) = some none) : f_better_tap (g, ()) = some none := by
  refine f_of ?_
  simp only [m_better_tap, nf1, nf2, nf3, nf4, h]
  rfl
theorem better_some {g : Gdn} (h : Gok g) {f l R : Int} (hb : f_best_taps (g, ()) = some (some (f, l))) (hf : Gok ⟨f, g.b, g.c⟩) (hR : 4000000 ≤ R) : f_better_tap (g, ()) = some (if wayR R ⟨f, g.b, g.c⟩ < wayR R g then some f else none) := by
  refine f_of ?_
  simp only [m_better_tap, nf1, nf2, nf3, nf4, hb, way_at_ok (g := g) hf hR, least_ok h hR, Option.isNone_some, Bool.false_eq_true, if_false]
  by_cases c : wayR R ⟨f, g.b, g.c⟩ < wayR R g
  · rw [if_pos (decide_eq_true c), if_pos c]
  · rw [if_neg (by rw [decide_eq_false c]; exact Bool.false_ne_true), if_neg c]
end PP

local macro_rules | `(tactic| walk_at "side") => `(tactic| first | with_reducible exact PL.shp_two | omega | decide | exact Nat.le_of_ble_eq_true rfl | exact PL.wide_of (by omega) (by omega) | exact ⟨by omega, PL.wide_of (by omega) (by omega)⟩ | exact ⟨PL.wide_of (by omega) (by omega), PL.wide_of (by omega) (by omega)⟩ | exact ⟨by omega, by omega⟩ | (unfold PL.modOk; omega) | (unfold PL.lenOk; omega) | ((try unfold PL.lenOk); simp only [List.length_append, List.length_cons, List.length_nil, List.length_map, List.length_replicate, List.length_dropLast, PL.len_rangeL]; omega))
local macro_rules | `(tactic| walk_at "step") => `(tactic| first | ((with_reducible refine PL.ob_guard ?hg ?_); case hg => (walk_at "side")) | ((with_reducible refine PL.ob_next ?h1 ?h2 (by omega) fun _ _ _ => ?_); (case h1 => (walk_at "side")); (case h2 => (walk_at "side"))) | ((with_reducible refine PL.ob_next1 ?h1 ?h2 (by omega) fun _ _ _ => ?_); (case h1 => (walk_at "side")); (case h2 => (walk_at "side"))) | ((with_reducible refine PL.ob_ix ?h0 ?h1 fun _ hx => ?_); (case h0 => omega); (case h1 => (simp only [List.length_append, List.length_cons, List.length_nil, List.length_map] at *; omega)); simp only [List.mem_append, List.mem_cons, List.not_mem_nil, or_false] at hx))
namespace PP
open PySem L2 PL PL.Enc
def m_fewest_trips (u : (T3 Int Int (Tup (Int × Int))) × Unit) : M Unit (Fl Unit Empty Int) :=
  (seqM (setS (pureM u.1)) (fun y1 : (T3 Int Int (Tup (Int × Int))) => (retS (callF f_cans_for (pairM (fun1M (fun l : List Int => some l.sum) (compM (mapM1 unTup (pureM y1.c)) (fun x2 : (Int × Int) => (pureM true)) (fun x2 : (Int × Int) => (pureM x2.2)))) (pairM (pureM y1.b) (pureM ())))))))
def f_fewest_trips (u : (T3 Int Int (Tup (Int × Int))) × Unit) : Option Int := (retM none (m_fewest_trips u) ()).map (·.1)

theorem fewest_ok {g : Gdn} (h : Gok g) : f_fewest_trips (g, ()) = some (cdiv ((unTup g.c).map (·.2)).sum g.b) := by
  refine f_of ?_
  have hc := h.can
  have hl := h.len
  simp only [m_fewest_trips, nf1, nf2, nf3, nf4]
  rw [guard_true (lenOk_le (by omega)), cans_ok hc.1 hc.2]
  rfl
end PP
namespace PL
open PySem L2 Enc
def m_c_small_garden (u : Unit) : M DkB (Fl Unit Empty (T3 Int Int (Tup (Int × Int)))) :=
  (seqM (setS (pairM (addM (pureM (1 : Int)) (bindM (pairM (bindM (pairM (lstM (consM (pureM (2 : Int)) (consM (pureM (5 : Int)) (consM (pureM (9 : Int)) (pureM ([] : List Int)))))) (pureM ())) d_c_one) (pureM ())) d_c_next)) (pairM (tupM (pureM ([] : List (Int × Int)))) (pureM ())))) (fun uv1 : (Int × (Tup (Int × Int)) × Unit) => (seqM (forS (bindM (pairM (bindM (pairM (lstM (consM (pureM (4 : Int)) (consM (pureM (15 : Int)) (pureM ([] : List Int))))) (pureM ())) d_c_one) (pairM (pureM (5 : Int)) (pureM ()))) d_c_places) (fun (s2 : ((Tup (Int × Int)))) (x3 : Int) => (seqM (setS (catTM (pureM s2) (tupM (consM (tup2M (pureM x3) (addM (pureM (1 : Int)) (bindM (pairM (addM (mulM (pureM (3 : Int)) (pureM uv1.1)) (pureM (1 : Int))) (pureM ())) d_c_next))) (pureM ([] : List (Int × Int))))))) (fun beds4 : (Tup (Int × Int)) => (pureM (.nx (beds4)))))) (uv1.2.1)) (fun s5 : ((Tup (Int × Int))) => (retS (tup3M (subM (bindM (pairM (pureM (31 : Int)) (pureM ())) d_c_next) (pureM (15 : Int))) (pureM uv1.1) (pureM s5)))))))
def d_c_small_garden (u : Unit) : M DkB (T3 Int Int (Tup (Int × Int))) := retM none (m_c_small_garden u)

structure GarS (g : Gdn) : Prop where
  gar : GarC 15 5 g
  can : g.b ≤ 9
  lit : ∀ x ∈ unTup g.c, x.2 ≤ 28
theorem ok_small : OkM KB 40 (d_c_small_garden ()) GarS := by
  show OkM KB 40 (retM none (m_c_small_garden ())) _
  simp only [m_c_small_garden, nf1, nf2, nf3, nf4]
  refine ob_guard (lenOk_le (by simp)) ?_
  refine ob_bind (d := 1) (e := 39) (ok_one (by simp) (by simp)) (by omega) fun top ht => ?_
  simp only [List.mem_cons, List.not_mem_nil, or_false] at ht
  refine ob_next (by omega) (by omega) (by omega) fun cn c0 c1 => ?_
  refine ob_guard (lenOk_le (by simp)) (ob_guard (lenOk_le (by simp)) ?_)
  refine ob_bind (d := 1) (e := 30) (ok_one (by simp) (by simp)) (by omega) fun far hf => ?_
  simp only [List.mem_cons, List.not_mem_nil, or_false] at hf
  refine ob_bind (d := 20) (e := 10) (ok_places (far := far) (most := 5) (by omega) (by omega)) (by omega) fun ps hp => ?_
  have hpl : ps.length ≤ 5 := hp.len
  refine ob_lp 5 1 1 (fun pre (s : Tup (Int × Int)) => (unTup s).map (·.1) = pre ∧ ∀ x ∈ unTup s, 1 ≤ x.2 ∧ x.2 ≤ 28) (by omega) (by omega) ⟨rfl, fun x hx => by cases hx⟩ (fun pre x post s e hs => ?_) fun s hs => ?_
  · have hpl2 : pre.length < ps.length := by rw [e]; simp
    have hsl : (unTup s).length = pre.length := by rw [← hs.1, List.length_map]
    refine ob_guard ⟨by decide, wide_of (by omega) (by omega)⟩ (ob_next (by omega) (by omega) (by omega) fun li l0 l1 => ?_)
    refine ob_guard (lenOk_le (by simp)) (ob_guard (lenOk_le ?_) (ob_pure ⟨?_, fun y hy => ?_⟩))
    · show (unTup s).length + 1 ≤ _
      omega
    · show (unTup s ++ [(x, 1 + li)]).map (·.1) = pre ++ [x]
      rw [List.map_append, hs.1]
      rfl
    · rcases List.mem_append.mp (show y ∈ unTup s ++ [(x, 1 + li)] from hy) with hy | hy
      · exact hs.2 y hy
      · rw [List.mem_singleton.mp hy]
        show 1 ≤ 1 + li ∧ 1 + li ≤ 28
        omega
  · have hsl : (unTup s).length = ps.length := by rw [← hs.1, List.length_map]
    refine ob_next (by omega) (by omega) (by omega) fun r r0 r1 => ob_pure ⟨⟨?_, ?_, ⟨by show 1 ≤ 1 + cn; omega, by show 1 + cn ≤ _; omega⟩, ?_, fun x hx => ?_⟩, by show 1 + cn ≤ 9; omega, fun x hx => (hs.2 x hx).2⟩
    · show (unTup s).length ≤ 5
      omega
    · show -15 ≤ r - 15 ∧ r - 15 ≤ 15
      omega
    · show ((unTup s).map (·.1)).Pairwise _
      rw [hs.1]
      exact hp.asc
    · have q := hp.pl x.1 (by rw [← hs.1]; exact List.mem_map.mpr ⟨x, hx, rfl⟩)
      have q2 := hs.2 x hx
      omega
theorem rangeL_lt (a b : Int) : (rangeL a b).Pairwise (· < ·) := by
  unfold rangeL
  rw [List.pairwise_map]
  refine List.Pairwise.imp ?_ List.pairwise_lt_range
  intro x y h
  omega
theorem filter_rangeL {a b f l : Int} (h1 : a ≤ f) (h2 : l < b) : (rangeL a b).filter (fun x => decide (f ≤ x) && decide (x ≤ l)) = rangeL f (l + 1) :=
  inc_one (List.Pairwise.sublist List.filter_sublist (rangeL_lt a b)) (rangeL_lt _ _) fun k => by
    rw [List.mem_filter, mem_rangeL, mem_rangeL, Bool.and_eq_true, decide_eq_true_eq, decide_eq_true_eq]
    omega
theorem at_rangeL {a b : Int} {i : Int} (h0 : 0 ≤ i) (h1 : i < b - a) : atI (rangeL a b) i = some (a + i) := by
  have hl := len_rangeL a b
  obtain ⟨n, rfl⟩ : ∃ n : Nat, i = n := ⟨i.toNat, by omega⟩
  rw [atI_nth (by omega), get_rangeL]
theorem at_last {A : Type} {l : List A} {x : A} (h : l.getLast? = some x) : atI l (-1) = some x := by
  cases l with
  | nil => cases h
  | cons a r =>
    have e : ixN (a :: r).length (-1) = some ((a :: r).length - 1) := by
      unfold ixN
      rw [if_neg (by decide), if_pos (by rw [List.length_cons]; omega)]
      congr 1
      rw [List.length_cons]
      omega
    unfold atI
    rw [e]
    rw [List.getLast?_eq_getElem?] at h
    exact h
theorem last_rangeL {a b : Int} (h : a < b) : atI (rangeL a b) (-1) = some (b - 1) := by
  refine at_last ?_
  rw [List.getLast?_eq_getElem?]
  have hl := len_rangeL a b
  rw [List.getElem?_eq_getElem (by omega), get_rangeL]
  congr 1
  omega
theorem minL_some {l : List Int} (h : l ≠ []) : ∃ m, minL l = some m ∧ m ∈ l ∧ ∀ y ∈ l, m ≤ y := by
  cases l with
  | nil => exact absurd rfl h
  | cons x l => exact ⟨_, rfl, minL_spec rfl⟩
theorem maxL_some {l : List Int} (h : l ≠ []) : ∃ m, maxL l = some m ∧ m ∈ l ∧ ∀ y ∈ l, y ≤ m := by
  cases l with
  | nil => exact absurd rfl h
  | cons x l => exact ⟨_, rfl, maxL_spec rfl⟩
end PL

local macro_rules | `(tactic| walk_at "side") => `(tactic| first | with_reducible exact PL.shp_two | omega | decide | exact Nat.le_of_ble_eq_true rfl | exact PL.wide_of (by omega) (by omega) | exact ⟨by omega, PL.wide_of (by omega) (by omega)⟩ | exact ⟨PL.wide_of (by omega) (by omega), PL.wide_of (by omega) (by omega)⟩ | exact ⟨by omega, by omega⟩ | (unfold PL.modOk; omega) | (unfold PL.lenOk; omega) | ((try unfold PL.lenOk); simp only [List.length_append, List.length_cons, List.length_nil, List.length_map, List.length_replicate, List.length_dropLast, PL.len_rangeL]; omega))
local macro_rules | `(tactic| walk_at "step") => `(tactic| first | ((with_reducible refine PL.ob_guard ?hg ?_); case hg => (walk_at "side")) | ((with_reducible refine PL.ob_bnext ?h1 ?h2 (by omega) fun _ _ _ => ?_); (case h1 => (walk_at "side")); (case h2 => (walk_at "side"))) | ((with_reducible refine PL.ob_bnext1 ?h1 ?h2 (by omega) fun _ _ _ => ?_); (case h1 => (walk_at "side")); (case h2 => (walk_at "side"))) | ((with_reducible refine PL.ob_ix ?h0 ?h1 fun _ hx => ?_); (case h0 => omega); (case h1 => (simp only [List.length_append, List.length_cons, List.length_nil, List.length_map] at *; omega)); simp only [List.mem_append, List.mem_cons, List.not_mem_nil, or_false] at hx))
namespace PL
open PySem L2 Enc
def m_b_draws (ns : List Int) : M Unit (Fl Unit Empty PyData) :=
  (seqM (setS (catM (compM (pureM (ns.take 63)) (fun x2 : Int => (pureM true)) (fun x2 : Int => (fun1M (fun n : Int => some (absI n)) (pureM x2)))) (repM (lstM (consM (pureM (0 : Int)) (pureM ([] : List Int)))) (fun1M (fun n : Bool => some (b2I n)) (eqIM (pureM (ns.length : Int)) (pureM (0 : Int))))))) (fun cells1 : (List Int) => (retS (mapM1 enc (lstM (consM (mapM1 enc (pureM cells1)) (consM (mapM1 enc (pureM (0 : Int))) (consM (mapM1 enc (compM (pureM cells1) (fun x3 : Int => (pureM true)) (fun x3 : Int => (mulWM (pureM x3) (fun1M (fun n : Bool => some (b2I n)) (geM (pureM x3) (powM (pureM (10 : Int)) (pureM (18 : Int))))))))) (pureM ([] : List PyData))))))))))
def f_b_draws (ns : List Int) : Option PyData := (retM none (m_b_draws ns) ()).map (·.1)
def m_b_next (u : Int × Unit) : M DkB (Fl Unit Empty Int) :=
  (seqM (bindM dkbN fun y => pureM (.nx y)) (fun count1 : Int => (seqM (setS (modM (pureM count1) (rdLen cellsB))) (fun index2 : Int => (seqM (bindM (addM (pureM count1) (pureM (1 : Int))) fun y => bindM (dkbSetN y) fun _ => pureM (.nx ())) (fun _ : Unit => (seqM (iteM (gtM (bindM (pureM index2) (rdAt restsB)) (pureM (0 : Int))) (seqM (setS (modM (bindM (pureM index2) (rdAt restsB)) (pureM u.1))) (fun digit3 : Int => (seqM (bindM (divM (bindM (pureM index2) (rdAt restsB)) (pureM u.1)) fun y => bindM (pureM index2) fun i => bindM (dkbSet i y) fun _ => pureM (.nx ())) (fun _ : Unit => (retS (pureM digit3)))))) (pureM (.nx ()))) (fun s4 : Unit => (seqM (setS (modM (powM (addM (addM (modM (bindM (pureM index2) (rdAt cellsB)) (pureM (2147483629 : Int))) (mulM (pureM (40037 : Int)) (pureM count1))) (pureM (9203 : Int))) (pureM (3 : Int))) (pureM (2147483587 : Int)))) (fun mixed5 : Int => (seqM (setS (modM (powM (addM (addM (pureM mixed5) (mulM (mulM (pureM (5039 : Int)) (pureM count1)) (pureM count1))) (pureM (43 : Int))) (pureM (3 : Int))) (pureM (2147483563 : Int)))) (fun mixed6 : Int => (retS (modM (divM (modM (mulM (pureM mixed6) (pureM (65537 : Int))) (pureM (2305843009213693951 : Int))) (pureM (8 : Int))) (pureM u.1)))))))))))))))
def d_b_next (u : Int × Unit) : M DkB Int := retM none (m_b_next u)
def m_b_one (u : (List Int) × Unit) : M DkB (Fl Unit Empty Int) :=
  (retS (ixM (pureM u.1) (bindM (pairM (fun1M (fun l : (List Int) => some (l.length : Int)) (pureM u.1)) (pureM ())) d_b_next)))
def d_b_one (u : (List Int) × Unit) : M DkB Int := retM none (m_b_one u)
def m_b_garden (u : Int × Int × Unit) : M DkB (Fl Unit Empty (T3 Int Int (Tup (Int × Int)))) :=
  (seqM (setS (ixM (lstM (consM (addM (pureM (1 : Int)) (bindM (pairM (pureM (4 : Int)) (pureM ())) d_b_next)) (consM (addM (pureM (1 : Int)) (bindM (pairM (pureM (9 : Int)) (pureM ())) d_b_next)) (consM (addM (pureM (1 : Int)) (bindM (pairM (powM (pureM (10 : Int)) (pureM (6 : Int))) (pureM ())) d_b_next)) (pureM ([] : List Int)))))) (modM (pureM u.2.1) (pureM (3 : Int))))) (fun can1 : Int => (seqM (setS (ixM (lstM (consM (pureM (6 : Int)) (consM (pureM (15 : Int)) (consM (powM (pureM (10 : Int)) (pureM (6 : Int))) (pureM ([] : List Int)))))) (modM (pureM u.2.1) (pureM (3 : Int))))) (fun wide2 : Int => (seqM (setS (sortUM (compM (rng1M (bindM (pairM (addM (pureM u.1) (pureM (1 : Int))) (pureM ())) d_b_next)) (fun x4 : Int => (pureM true)) (fun x4 : Int => (subM (bindM (pairM (addM (mulM (pureM (2 : Int)) (pureM wide2)) (pureM (1 : Int))) (pureM ())) d_b_next) (pureM wide2)))))) (fun places3 : (List Int) => (seqM (setS (ixM (lstM (consM (pureM (4 : Int)) (consM (mulM (pureM (3 : Int)) (pureM can1)) (consM (powM (pureM (10 : Int)) (pureM (9 : Int))) (pureM ([] : List Int)))))) (modM (pureM u.2.1) (pureM (3 : Int))))) (fun top5 : Int => (seqM (setS (pureM ([] : (List (Int × Int))))) (fun beds6 : (List (Int × Int)) => (seqM (forS (pureM places3) (fun (s7 : ((List (Int × Int)))) (x8 : Int) => (seqM (appS s7 (tup2M (pureM x8) (ixM (lstM (consM (addM (pureM (1 : Int)) (bindM (pairM (pureM top5) (pureM ())) d_b_next)) (consM (pureM can1) (consM (fun2M (fun i j : Int => some (maxI i j)) (pureM (1 : Int)) (subM (pureM can1) (pureM (1 : Int)))) (pureM ([] : List Int)))))) (bindM (pairM (pureM (3 : Int)) (pureM ())) d_b_next)))) (fun y9 : (Int × Int) => (pureM (.nx ((s7 ++ [y9]))))))) (beds6)) (fun s10 : ((List (Int × Int))) => (seqM (setS (subM (bindM (pairM (addM (mulM (pureM (2 : Int)) (pureM wide2)) (pureM (1 : Int))) (pureM ())) d_b_next) (pureM wide2))) (fun tap11 : Int => (seqM (iteM (andM (neDM (pureM places3) (lstM (pureM ([] : List Int)))) (eqIM (bindM (pairM (pureM (3 : Int)) (pureM ())) d_b_next) (pureM (0 : Int)))) (seqM (setS (ixM (lstM (consM (ixM (pureM places3) (pureM (0 : Int))) (consM (ixM (pureM places3) (negM (pureM (1 : Int)))) (consM (bindM (pairM (pureM places3) (pureM ())) d_b_one) (pureM ([] : List Int)))))) (bindM (pairM (pureM (3 : Int)) (pureM ())) d_b_next))) (fun tap12 : Int => (pureM (.nx (tap12))))) (pureM (.nx (tap11)))) (fun s13 : (Int) => (retS (tup3M (pureM s13) (pureM can1) (fun1M (fun l : (List (Int × Int)) => some (toTup l)) (pureM s10))))))))))))))))))))
def d_b_garden (u : Int × Int × Unit) : M DkB (T3 Int Int (Tup (Int × Int))) := retM none (m_b_garden u)
def m_b_beyond (u : (T3 Int Int (Tup (Int × Int))) × Unit) : M Unit (Fl Unit Empty (List (Pr Int Int))) :=
  (seqM (setS (pureM u.1)) (fun y1 : (T3 Int Int (Tup (Int × Int))) => (seqM (setS (sortUM (catM (lstM (consM (pureM y1.a) (pureM ([] : List Int)))) (compM (mapM1 unTup (pureM y1.c)) (fun x3 : (Int × Int) => (pureM true)) (fun x3 : (Int × Int) => (pureM x3.1)))))) (fun marks2 : (List Int) => (seqM (setS (pureM ([] : (List (Pr Int Int))))) (fun found4 : (List (Pr Int Int)) => (seqM (forS (zipM (pureM marks2) (cutM (pureM marks2) (mapM1 some (pureM (1 : Int))) (pureM none))) (fun (s5 : ((List (Pr Int Int)))) (x6 : (Int × Int)) => (seqM (setS (compM (mapM1 unTup (pureM y1.c)) (fun x8 : (Int × Int) => (iteM (leM (pureM x6.2) (pureM y1.a)) (leM (pureM x8.1) (pureM x6.1)) (geM (pureM x8.1) (pureM x6.2)))) (fun x8 : (Int × Int) => (pureM x8.2)))) (fun behind7 : (List Int) => (seqM (appS s5 (pr2M (mulM (pureM (2 : Int)) (subM (pureM x6.2) (pureM x6.1))) (fun1M (fun l : List Int => some l.sum) (pureM behind7)))) (fun y9 : (Pr Int Int) => (pureM (.nx ((s5 ++ [y9]))))))))) (found4)) (fun s10 : ((List (Pr Int Int))) => (retS (pureM s10))))))))))
def f_b_beyond (u : (T3 Int Int (Tup (Int × Int))) × Unit) : Option (List (Pr Int Int)) := (retM none (m_b_beyond u) ()).map (·.1)
def m_b_least (u : (T3 Int Int (Tup (Int × Int))) × Unit) : M Unit (Fl Unit Empty Int) :=
  (seqM (setS (mapM1 (fun y : (T3 Int Int (Tup (Int × Int))) => y.b) (pureM u.1))) (fun can1 : Int => (retS (fun1M (fun l : List Int => some l.sum) (compM (callF f_b_beyond (pairM (pureM u.1) (pureM ()))) (fun x2 : (Pr Int Int) => (pureM true)) (fun x2 : (Pr Int Int) => (mulM (pureM x2.a) (negM (divM (negM (pureM x2.b)) (pureM can1))))))))))
def f_b_least (u : (T3 Int Int (Tup (Int × Int))) × Unit) : Option Int := (retM none (m_b_least u) ()).map (·.1)
theorem ok_bnext {n : Int} (hn : 0 < n) (hw : n ≤ 2 ^ 199) : OkM KB 1 (d_b_next (n, ())) fun r => 0 ≤ r ∧ r < n := by
  intro s hs
  obtain ⟨h0, h1, hl, hr⟩ := KB_n hs
  have hwn : ∀ x : Int, divOk x n := fun _ => ⟨hn, wide_of (by omega) hw⟩
  have hmn : ∀ x : Int, modOk x n := fun _ => hn
  have hl' : (cellsB s).length = s.cells.length := rfl
  have e1 := Int.emod_nonneg s.n (b := ((cellsB s).length : Int)) (by omega)
  have e2 := Int.emod_lt_of_pos s.n (show (0 : Int) < ((cellsB s).length : Int) by omega)
  have hmc : modOk s.n ((cellsB s).length : Int) := show (0 : Int) < ((cellsB s).length : Int) by omega
  obtain ⟨j1, x1, a1⟩ := at_in (l := s.rests) (i := s.n % ((cellsB s).length : Int)) e1 (by rw [hr]; exact e2)
  obtain ⟨j2, x2, a2⟩ := at_in (l := s.cells) (i := s.n % ((cellsB s).length : Int)) e1 e2
  have m1 : ∀ x : Int, modOk x 2147483629 := fun _ => (by decide : (0 : Int) < 2147483629)
  have m2 : ∀ x : Int, modOk x 2147483587 := fun _ => (by decide : (0 : Int) < 2147483587)
  have m3 : ∀ x : Int, modOk x 2147483563 := fun _ => (by decide : (0 : Int) < 2147483563)
  have m4 : ∀ x : Int, modOk x 2305843009213693951 := fun _ => (by decide : (0 : Int) < 2305843009213693951)
  have d8 : ∀ x : Int, divOk x 8 := fun _ => ⟨by decide, by decide⟩
  have w1 : mulOk 40037 s.n := ⟨by decide, wide_of (by omega) (by omega)⟩
  have w2 : mulOk 5039 s.n := ⟨by decide, wide_of (by omega) (by omega)⟩
  have w3 : mulOk (5039 * s.n) s.n := ⟨wide_of (by omega) (by omega), wide_of (by omega) (by omega)⟩
  have p1 : ∀ c : Int, powOk (c % 2147483629 + 40037 * s.n + 9203) 3 := fun c => by
    have q1 : 0 ≤ c % 2147483629 := Int.emod_nonneg _ (by decide)
    have q2 : c % 2147483629 < 2147483629 := Int.emod_lt_of_pos _ (by decide)
    exact ⟨by decide, by decide, by omega⟩
  have sq : 0 ≤ 5039 * s.n * s.n ∧ 5039 * s.n * s.n ≤ 5039 * 2 ^ 20 * 2 ^ 20 := ⟨Int.mul_nonneg (by omega) h0, Int.mul_le_mul (by omega) (by omega) h0 (by decide)⟩
  have p2 : ∀ c : Int, powOk (c % 2147483587 + 5039 * s.n * s.n + 43) 3 := fun c => by
    have q1 : 0 ≤ c % 2147483587 := Int.emod_nonneg _ (by decide)
    have q2 : c % 2147483587 < 2147483587 := Int.emod_lt_of_pos _ (by decide)
    exact ⟨by decide, by decide, by omega⟩
  have w4 : ∀ c : Int, mulOk (c % 2147483563) 65537 := fun c => by
    have q1 : 0 ≤ c % 2147483563 := Int.emod_nonneg _ (by decide)
    have q2 : c % 2147483563 < 2147483563 := Int.emod_lt_of_pos _ (by decide)
    exact ⟨wide_of (by omega) (by omega), by decide⟩
  have f1 : ∀ (cs rs : List Int) (b : Bool), 0 < cs.length → rs.length = cs.length → KB.cnt ⟨cs, s.n + 1, rs, b⟩ ≤ KB.cnt s + 1 := fun cs rs b q1 q2 => KB_of h0 q1 q2 hl hr rfl
  simp only [d_b_next, m_b_next, nf1, nf2, nf3, run_dN, run_rdLen]
  rw [rg_guard hmc, run_dSetN, run_rdAt (s := { s with n := s.n + 1 }) (get := restsB) a1]
  by_cases hc : 0 < x1
  · rw [rg_if (decide_eq_true hc), run_rdAt (s := { s with n := s.n + 1 }) (get := restsB) a1, rg_guard (hmn _), run_rdAt (s := { s with n := s.n + 1 }) (get := restsB) a1, rg_guard (hwn _), run_dSet (s := { s with n := s.n + 1 }) j1]
    refine ⟨_, _, rfl, ⟨Int.emod_nonneg _ (by omega), Int.emod_lt_of_pos _ hn⟩, f1 _ _ _ ?_ ?_⟩
    · split
      · rw [List.length_set]
        exact hl
      · exact hl
    · rw [List.length_set]
      split
      · rw [List.length_set]
        exact hr
      · exact hr
  · rw [rg_else (by rw [decide_eq_false hc]; exact Bool.false_ne_true), run_rdAt (s := { s with n := s.n + 1 }) (get := cellsB) a2, rg_guard (m1 _), rg_guard w1, rg_guard (p1 _), rg_guard (m2 _), rg_guard w2, rg_guard w3, rg_guard (p2 _), rg_guard (m3 _), rg_guard (w4 _), rg_guard (m4 _), rg_guard (d8 _), rg_guard (hmn _)]
    exact ⟨_, _, rfl, ⟨Int.emod_nonneg _ (by omega), Int.emod_lt_of_pos _ hn⟩, f1 _ _ _ hl hr⟩
section
variable {B : Type} {T : B → Prop} {c : Nat}
theorem ob_bnext {n : Int} {k : Int → M DkB B} (hn : 0 < n) (hw : n ≤ 2 ^ 199) (hc : 1 ≤ c) (hk : ∀ r, 0 ≤ r → r < n → OkM KB (c - 1) (k r) T) : OkM KB c (bindM (d_b_next (n, ())) k) T :=
  ob_bind (ok_bnext hn hw) (by omega) fun r hr => hk r hr.1 hr.2
theorem ob_bnext1 {n : Int} {Q : Int → Prop} (hn : 0 < n) (hw : n ≤ 2 ^ 199) (hc : 1 ≤ c) (hk : ∀ r, 0 ≤ r → r < n → Q r) : OkM KB c (d_b_next (n, ())) Q :=
  OkM.mono (ok_bnext hn hw) hc fun r hr => hk r hr.1 hr.2
end
def cellsK (ns : List Int) : List Int := (ns.take 63).map absI ++ (List.replicate (b2I (decide ((ns.length : Int) = 0))).toNat [0]).flatten
def restsK (ns : List Int) : List Int := (cellsK ns).map fun x => x * b2I (decide (10 ^ (18 : Int).toNat ≤ x))
theorem cellsK_len (ns : List Int) : 0 < (cellsK ns).length ∧ (cellsK ns).length ≤ 64 := by
  unfold cellsK
  have h := List.length_take_le 63 ns
  rw [List.length_append, List.length_flatten, List.map_replicate, List.sum_replicate_nat]
  cases ns with
  | nil =>
    decide
  | cons x l =>
    have : decide ((((x :: l).length : Nat) : Int) = 0) = false := by
      rw [decide_eq_false_iff_not, List.length_cons]
      omega
    rw [this, List.length_map, List.length_take, List.length_cons]
    show 0 < _ + 0 * _ ∧ _ + 0 * _ ≤ 64
    omega
theorem bits_abs (x : Int) : Builtin.Int.intBits (absI x) = Builtin.Int.intBits x := by
  unfold absI
  split
  · unfold Builtin.Int.intBits
    rw [Int.natAbs_neg, show (-x == 0) = (x == 0) by rw [Bool.eq_iff_iff, beq_iff_eq, beq_iff_eq]; omega]
  · rfl
theorem draws_eqK {ns : List Int} (hl : ns.length ≤ 63) (hw : Wd ns) : f_b_draws ns = some (deckDB (cellsK ns) (restsK ns)) := by
  have h := List.length_take_le 63 ns
  have hb := b2I_01 (decide ((ns.length : Int) = 0))
  have hcl := cellsK_len ns
  have hbits : ∀ x ∈ cellsK ns, Builtin.Int.intBits x ≤ 1048576 := fun x hx => by
    unfold cellsK at hx
    rcases List.mem_append.mp hx with q | q
    · obtain ⟨y, hy, rfl⟩ := List.mem_map.mp q
      rw [bits_abs]
      exact hw y (List.mem_of_mem_take hy)
    · obtain ⟨l, h1, h2⟩ := List.mem_flatten.mp q
      obtain rfl := List.eq_of_mem_replicate h1
      rw [List.mem_singleton.mp h2]
      decide
  refine f_of ?_
  simp only [m_b_draws, nf1, nf2, nf3, mulWM_nf]
  have e0 : (lcM (fun _ : Int => (pureM true : M Unit Bool)) (fun u : Int => pureM (absI u)) (ns.take 63)) = pureM ((ns.take 63).map absI) := by
    rw [lcM_pure (q := fun _ => true) (g := absI) (fun _ _ => rfl) (fun _ _ _ => rfl), List.filter_eq_self.mpr fun _ _ => rfl]
  rw [e0]
  simp only [nf1]
  rw [guard_true (show lenOk (ns.take 63).length from lenOk_le (by omega)), guard_true (show lenOk [(0 : Int)].length from lenOk_le (by decide)), guard_true ⟨by omega, by omega, by
    refine lenOk_le ?_
    show 1 * _ ≤ _
    omega⟩, guard_true (lenOk_le (by
      have := hcl.2
      unfold cellsK at this
      rw [List.length_append] at this
      omega)), guard_true (lenOk_le (by
      show (cellsK ns).length ≤ _
      omega)), lcM_pure (q := fun _ => true) (g := fun x : Int => x * b2I (decide (10 ^ (18 : Int).toNat ≤ x))) (fun _ _ => rfl) fun x hx _ => ?_, List.filter_eq_self.mpr fun _ _ => rfl]
  · rfl
  · have q1 := hbits x hx
    have q2 := bits_b (decide (10 ^ (18 : Int).toNat ≤ x))
    rw [guard_true (show powOk 10 18 by decide), guard_true (show mulWOk _ _ from (by
      unfold mulWOk
      omega))]
theorem mk_atK (ns : List Int) (hl : ns.length ≤ 63) (hw : Wd ns) (Z : Addr → Prop) (H : Hp) (v : V) (d : PyData) (h : f_b_draws ns = some d) (r : Rp Z H v d) : ∃ (t : DkBA) (s0 : DkB), v = .ref (rootB t) ∧ P0B cellsK ns s0 ∧ (fmB t).at_ s0 H :=
  mk_B (rests := restsK) ns (draws_eqK hl hw) (by unfold restsK; rw [List.length_map]) Z H v d h r
end PL

local macro_rules | `(tactic| walk_at "side") => `(tactic| first | with_reducible exact PL.shp_two | omega | decide | exact Nat.le_of_ble_eq_true rfl | exact PL.wide_of (by omega) (by omega) | exact ⟨by omega, PL.wide_of (by omega) (by omega)⟩ | exact ⟨PL.wide_of (by omega) (by omega), PL.wide_of (by omega) (by omega)⟩ | exact ⟨by omega, by omega⟩ | (unfold PL.modOk; omega) | (unfold PL.lenOk; omega) | ((try unfold PL.lenOk); simp only [List.length_append, List.length_cons, List.length_nil, List.length_map, List.length_replicate, List.length_dropLast, PL.len_rangeL]; omega))
local macro_rules | `(tactic| walk_at "step") => `(tactic| first | ((with_reducible refine PL.ob_guard ?hg ?_); case hg => (walk_at "side")) | ((with_reducible refine PL.ob_bnext ?h1 ?h2 (by omega) fun _ _ _ => ?_); (case h1 => (walk_at "side")); (case h2 => (walk_at "side"))) | ((with_reducible refine PL.ob_bnext1 ?h1 ?h2 (by omega) fun _ _ _ => ?_); (case h1 => (walk_at "side")); (case h2 => (walk_at "side"))) | ((with_reducible refine PL.ob_ix ?h0 ?h1 fun _ hx => ?_); (case h0 => omega); (case h1 => (simp only [List.length_append, List.length_cons, List.length_nil, List.length_map] at *; omega)); simp only [List.mem_append, List.mem_cons, List.not_mem_nil, or_false] at hx))
namespace PL
open PySem L2 Enc
theorem ok_bone {l : List Int} (h : 0 < l.length) (h2 : l.length ≤ 1000000) : OkM KB 1 (d_b_one (l, ())) fun r => r ∈ l := by
  show OkM KB 1 (retM none (m_b_one (l, ()))) _
  simp only [m_b_one, nf1, nf2, nf3, nf4]
  refine ob_bnext (by omega) (by omega) (by omega) fun r h0 h1 => ?_
  refine ob_ix h0 h1 fun x hx => ob_pure hx
/-- a garden as drawn -/
structure GarB (far lit cn : Int) (most : Nat) (g : Gdn) : Prop where
  len : (unTup g.c).length ≤ most
  tap : -far ≤ g.a ∧ g.a ≤ far
  can : 1 ≤ g.b ∧ g.b ≤ cn
  asc : ((unTup g.c).map (·.1)).Pairwise (· < ·)
  pl : ∀ x ∈ unTup g.c, -far ≤ x.1 ∧ x.1 ≤ far ∧ 1 ≤ x.2 ∧ x.2 ≤ lit
theorem ok_bgarden {most x : Int} (hm : 0 ≤ most ∧ most ≤ 12) (hx : 0 ≤ x) : OkM KB 60 (d_b_garden (most, x, ())) (fun g => ∃ far lit cn : Int, 0 ≤ far ∧ far ≤ 1000000 ∧ lit ≤ 1000000000 ∧ cn ≤ 1000000 ∧ GarB far lit cn most.toNat g ∧ (x % 3 < 2 → far ≤ 15 ∧ lit ≤ 27 ∧ cn ≤ 9)) := by
  show OkM KB 60 (retM none (m_b_garden (most, x, ()))) _
  simp only [m_b_garden, nfK, nf2, nf3, nf4, p10_6, p10_9]
  refine ob_bnext (by omega) (by omega) (by omega) fun a a0 a1 => ob_bnext (by omega) (by omega) (by omega) fun b b0 b1 => ob_guard (by decide) (ob_bnext (by omega) (by omega) (by omega) fun c c0 c1 => ?_)
  obtain ⟨can, wd, top, lit, cm, e1, e2, e3, q1, q2, q3, q4, q5, q6, q7⟩ : ∃ can wd top lit cm : Int, atI [1 + a, 1 + b, 1 + c] (x % 3) = some can ∧ atI [(6 : Int), 15, 1000000] (x % 3) = some wd ∧ atI [4, 3 * can, 1000000000] (x % 3) = some top ∧ (1 ≤ can ∧ can ≤ cm) ∧ cm ≤ 1000000 ∧ (1 ≤ top ∧ top ≤ lit) ∧ can ≤ lit ∧ lit ≤ 1000000000 ∧ (0 ≤ wd ∧ wd ≤ 1000000) ∧ (x % 3 < 2 → wd ≤ 15 ∧ lit ≤ 27 ∧ cm ≤ 9) := by
    have : x % 3 = 0 ∨ x % 3 = 1 ∨ x % 3 = 2 := by omega
    rcases this with e | e | e
    · rw [e]
      exact ⟨1 + a, 6, 4, 4, 4, rfl, rfl, rfl, by omega, by omega, by omega, by omega, by omega, by omega, by omega⟩
    · rw [e]
      exact ⟨1 + b, 15, 3 * (1 + b), 27, 9, rfl, rfl, rfl, by omega, by omega, by omega, by omega, by omega, by omega, by omega⟩
    · rw [e]
      exact ⟨1 + c, 1000000, 1000000000, 1000000000, 1000000, rfl, rfl, rfl, by omega, by omega, by omega, by omega, by omega, by omega, by omega⟩
  have m3 : modOk x 3 := by unfold modOk; omega
  refine ob_guard (lenOk_le (by simp)) (ob_guard m3 ?_)
  rw [e1]
  simp only [nfK]
  refine ob_guard (by decide) (ob_guard (lenOk_le (by simp)) (ob_guard m3 ?_))
  rw [e2]
  simp only [nfK]
  refine ob_bnext (by omega) (by omega) (by omega) fun n n0 n1 => ob_guard ⟨by omega, by omega⟩ ?_
  have hl : (rangeL 0 n).length = n.toNat := by rw [len_rangeL, Int.sub_zero]
  refine ob_guard (lenOk_le (by omega)) ?_
  refine ob_lc (P := fun y => -wd ≤ y ∧ y ≤ wd) 12 1 40 (by omega) (by omega) (fun k _ => ?_) fun rs hrs lr => ?_
  · exact ob_guard ⟨by decide, wide_of (by omega) (by omega)⟩ (ob_bnext (by omega) (by omega) (by omega) fun r r0 r1 => ob_pure (by omega))
  refine ob_guard (by omega) ?_
  have ul := sortU_len rs
  have um : ∀ y ∈ sortU rs, -wd ≤ y ∧ y ≤ wd := fun y hy => hrs y (mem_sortU.mp hy)
  refine ob_guard ⟨by decide, wide_of (by omega) (by omega)⟩ (ob_guard (by decide) (ob_guard (lenOk_le (by simp)) (ob_guard m3 ?_)))
  rw [e3]
  simp only [nfK]
  refine ob_lp 12 2 10 (fun pre (s : List (Int × Int)) => s.map (·.1) = pre ∧ ∀ y ∈ s, 1 ≤ y.2 ∧ y.2 ≤ lit) (by omega) (by omega) ⟨rfl, fun y hy => by cases hy⟩ (fun pre y post s e hs => ?_) fun s hs => ?_
  · have hpl : pre.length < (sortU rs).length := by rw [e]; simp
    have hsl : s.length = pre.length := by rw [← hs.1, List.length_map]
    refine ob_bnext (by omega) (by omega) (by omega) fun r r0 r1 => ob_guard (lenOk_le (by simp)) (ob_bnext (by omega) (by omega) (by omega) fun r2 q0 q1 => ?_)
    refine ob_ix q0 (by simp; omega) fun li hli => ?_
    refine ob_guard (lenOk_le (by omega)) (ob_pure ⟨?_, fun z hz => ?_⟩)
    · show (s ++ [(y, li)]).map (·.1) = pre ++ [y]
      rw [List.map_append, hs.1]
      rfl
    · rcases List.mem_append.mp (show z ∈ s ++ [(y, li)] from hz) with hz | hz
      · exact hs.2 z hz
      · rw [List.mem_singleton.mp hz]
        simp only [List.mem_cons, List.not_mem_nil, or_false] at hli
        have mx : 1 ≤ maxI 1 (can - 1) ∧ maxI 1 (can - 1) ≤ lit := by
          unfold maxI
          split <;> omega
        show 1 ≤ li ∧ li ≤ lit
        rcases hli with rfl | rfl | rfl <;> omega
  · have hsl : s.length = (sortU rs).length := by rw [← hs.1, List.length_map]
    refine ob_guard ⟨by decide, wide_of (by omega) (by omega)⟩ (ob_bnext (by omega) (by omega) (by omega) fun r r0 r1 => ?_)
    refine ob_guard (lenOk_le (by simp)) (ob_guard shp_two ?_)
    have fin : ∀ t : Int, -wd ≤ t → t ≤ wd → ∃ far lit cn : Int, 0 ≤ far ∧ far ≤ 1000000 ∧ lit ≤ 1000000000 ∧ cn ≤ 1000000 ∧ GarB far lit cn most.toNat (⟨t, can, toTup s⟩ : Gdn) ∧ (x % 3 < 2 → far ≤ 15 ∧ lit ≤ 27 ∧ cn ≤ 9) := fun t t0 t1 =>
      ⟨wd, lit, cm, q6.1, q6.2, q5, q2, ⟨by show s.length ≤ _; omega, ⟨t0, t1⟩, q1, by show (s.map (·.1)).Pairwise _; rw [hs.1]; exact sortU_lt _, fun y hy => by
        have h1 := um y.1 (by rw [← hs.1]; exact List.mem_map.mpr ⟨y, hy, rfl⟩)
        have h2 := hs.2 y hy
        exact ⟨h1.1, h1.2, h2.1, h2.2⟩⟩, q7⟩
    by_cases hn : sortU rs = []
    · have ev : PyData.eqv (enc (sortU rs)) (enc ([] : List Int)) = true := (LE.same (sortU rs) []).mpr hn
      rw [ev]
      simp only [nfK, Bool.not_true, Bool.false_eq_true, if_false]
      exact ob_pure (fin _ (by omega) (by omega))
    · have ev : PyData.eqv (enc (sortU rs)) (enc ([] : List Int)) = false := by
        cases q : PyData.eqv (enc (sortU rs)) (enc ([] : List Int)) with
        | false => rfl
        | true => exact absurd ((LE.same (sortU rs) []).mp q) hn
      have hl0 : 0 < (sortU rs).length := List.length_pos_iff.mpr hn
      rw [ev]
      simp only [nfK, Bool.not_false, if_true]
      refine ob_bnext (by omega) (by omega) (by omega) fun r2 s0 s1 => ?_
      by_cases z : r2 = 0
      · simp only [z, decide_true, if_true, nfK]
        refine ob_ix (by omega) (by omega) fun y1 hy1 => ?_
        obtain ⟨y2, hy2⟩ : ∃ y2, (sortU rs).getLast? = some y2 := ⟨_, List.getLast?_eq_some_getLast hn⟩
        rw [at_last hy2]
        simp only [nfK]
        refine ob_bind (d := 1) (e := 5) (ok_bone hl0 (by omega)) (by omega) fun y3 hy3 => ?_
        refine ob_guard (lenOk_le (by simp)) (ob_bnext (by omega) (by omega) (by omega) fun r3 t0 t1 => ?_)
        refine ob_ix t0 (by simp; omega) fun t ht => ob_pure ?_
        have h1 := um y1 hy1
        have h2 := um y2 (List.mem_of_getLast? hy2)
        have h3 := um y3 hy3
        simp only [List.mem_cons, List.not_mem_nil, or_false] at ht
        exact fin t (by omega) (by omega)
      · simp only [z, decide_false, Bool.false_eq_true, if_false, nfK]
        exact ob_pure (fin _ (by omega) (by omega))
theorem GarB.gok {far lit cn : Int} {most : Nat} {g : Gdn} (h : GarB far lit cn most g) (hf : far ≤ 1000000) (hl : lit ≤ 1000000000) (hc : cn ≤ 1000000) (hm : most ≤ 12) : Gok g := by
  have h1 := h.len
  have h2 := h.tap
  have h3 := h.can
  exact ⟨by omega, by omega, by omega, fun x hx => by have := h.pl x hx; omega⟩
end PL

namespace PL
open PySem L2 Enc PySem.W
theorem leD_ii (p q : Int × Int) : leD p q = decide (p.1 < q.1 ∨ (p.1 = q.1 ∧ p.2 ≤ q.2)) := by
  unfold leD
  have h : (dataLe false fun b : Int × Int => .tuple [.int b.1, .int b.2]) = fun p q => decide (p.1 < q.1 ∨ (p.1 = q.1 ∧ p.2 ≤ q.2)) := dataLe_ii (fun b : Int × Int => b.1) (fun b => b.2)
  exact congrFun (congrFun h p) q
/-- sorted pairs with different firsts rise -/
theorem sortD_asc {l : List (Int × Int)} (h : (l.map (·.1)).Nodup) : ((sortD l).map (·.1)).Pairwise (· < ·) := by
  have h1 : (sortD l).Pairwise fun a b => leD a b = true := List.pairwise_mergeSort (fun a b c h1 h2 => by
    rw [leD_ii, decide_eq_true_eq] at *
    omega) (fun a b => by
    rw [Bool.or_eq_true, leD_ii, leD_ii, decide_eq_true_eq, decide_eq_true_eq]
    omega) l
  have h2 : ((sortD l).map (·.1)).Nodup := ((sortD_perm l).map (·.1)).nodup_iff.mpr h
  have h3 : (sortD l).Pairwise fun a b => a.1 ≠ b.1 := List.pairwise_map.mp h2
  rw [List.pairwise_map]
  refine (List.pairwise_and_iff.mpr ⟨h1, h3⟩).imp fun {a b} q => ?_
  have q1 := q.1
  have q2 := q.2
  rw [leD_ii, decide_eq_true_eq] at q1
  omega
theorem litP_map {q : Int → Bool} {f : Int → Int} : ∀ {l : List (Int × Int)}, litP q (l.map fun b => (f b.1, b.2)) = litP (fun p => q (f p)) l
  | [] => rfl
  | b :: l => by
    rw [List.map_cons, litP_cons, litP_cons, litP_map]
theorem litP_mul {q : Int → Bool} {T : Int} : ∀ {l : List (Int × Int)}, litP q (l.map fun b => (b.1, b.2 * T)) = T * litP q l
  | [] => by
    show (0 : Int) = T * 0
    rw [Int.mul_zero]
  | b :: l => by
    rw [List.map_cons, litP_cons, litP_cons, litP_mul, Int.mul_add]
    show (if q b.1 = true then b.2 * T else 0) + _ = T * (if q b.1 = true then b.2 else 0) + _
    split
    · rw [Int.mul_comm]
    · rw [Int.mul_zero]
/-- g' is g, each place times t and moved by s -/
structure Placed (g g' : Gdn) (t s : Int) : Prop where
  a : g'.a = g.a * t + s
  b : g'.b = g.b
  c : (unTup g'.c).Perm ((unTup g.c).map fun b => (b.1 * t + s, b.2))
def phi (t s x : Int) : Int := if 0 < t then (x - s) / t else (s - x - 1) / (-t)
theorem phi_pos {t s x p : Int} (h : 0 < t) : (p * t + s ≤ x ↔ p ≤ phi t s x) ∧ (x < p * t + s ↔ phi t s x < p) := by
  unfold phi
  rw [if_pos h, Int.le_ediv_iff_mul_le h, Int.ediv_lt_iff_lt_mul h]
  omega
theorem phi_neg {t s x p : Int} (h : t < 0) : (p * t + s ≤ x ↔ phi t s x < p) ∧ (x < p * t + s ↔ p ≤ phi t s x) := by
  unfold phi
  rw [if_neg (by omega), Int.le_ediv_iff_mul_le (by omega), Int.ediv_lt_iff_lt_mul (by omega), Int.mul_neg]
  omega
theorem Placed.litP {g g' : Gdn} {t s : Int} (h : Placed g g' t s) (q : Int → Bool) : PL.litP q (unTup g'.c) = PL.litP (fun p => q (p * t + s)) (unTup g.c) := by
  exact (litP_perm h.c).trans (litP_map (f := fun p => p * t + s))
theorem Placed.byd {g g' : Gdn} {t s : Int} (h : Placed g g' t s) (ht : t ≠ 0) (x : Int) : PL.byd g' x = PL.byd g (phi t s x) := by
  unfold PL.byd
  rw [h.a, h.litP, h.litP]
  by_cases c : 0 < t
  · have q := fun p => phi_pos (s := s) (x := x) (p := p) c
    by_cases d : g.a * t + s ≤ x
    · rw [if_pos d, if_pos ((q g.a).1.mp d)]
      exact litP_congr fun b _ => by
        rw [decide_eq_decide]
        exact (q b.1).2
    · rw [if_neg d, if_neg fun z => d ((q g.a).1.mpr z)]
      exact litP_congr fun b _ => by
        rw [decide_eq_decide]
        exact (q b.1).1
  · have q := fun p => phi_neg (s := s) (x := x) (p := p) (show t < 0 by omega)
    by_cases d : g.a * t + s ≤ x
    · have := (q g.a).1.mp d
      rw [if_pos d, if_neg (by omega)]
      exact litP_congr fun b _ => by
        rw [decide_eq_decide]
        exact (q b.1).2
    · have : ¬ phi t s x < g.a := fun z => d ((q g.a).1.mpr z)
      rw [if_neg d, if_pos (by omega)]
      exact litP_congr fun b _ => by
        rw [decide_eq_decide]
        exact (q b.1).1
theorem Placed.dT {g g' : Gdn} {t s : Int} (h : Placed g g' t s) (ht : t ≠ 0) (x : Int) : PL.dT g' x = if 0 < t then PL.dT g (phi t s x) else -(PL.dT g (phi t s x)) := by
  unfold PL.dT litL litR
  rw [h.b, h.litP, h.litP]
  by_cases c : 0 < t
  · have q := fun p => phi_pos (s := s) (x := x) (p := p) c
    rw [if_pos c, litP_congr (q := fun p => decide (p ≤ phi t s x)) fun b _ => by rw [decide_eq_decide]; exact (q b.1).1, litP_congr (p := fun p => decide (x < p * t + s)) (q := fun p => decide (phi t s x < p)) fun b _ => by rw [decide_eq_decide]; exact (q b.1).2]
  · have q := fun p => phi_neg (s := s) (x := x) (p := p) (show t < 0 by omega)
    rw [if_neg c, litP_congr (q := fun p => decide (phi t s x < p)) fun b _ => by rw [decide_eq_decide]; exact (q b.1).1, litP_congr (p := fun p => decide (x < p * t + s)) (q := fun p => decide (p ≤ phi t s x)) fun b _ => by rw [decide_eq_decide]; exact (q b.1).2]
    omega
def absT (t : Int) : Int := if 0 < t then t else -t
def loT (t s A B : Int) : Int := if 0 < t then A * t + s else B * t + s
theorem scale_pos {t s : Int} (h : 0 < t) (f : Int → Int) : ∀ (n : Nat) (A : Int), isum (fun x => f ((x - s) / t)) (A * t + s) ((A + n) * t + s) = t * isum f A (A + n)
  | 0, A => by
    rw [show A + ((0 : Nat) : Int) = A by omega, isum_self, isum_self, Int.mul_zero]
  | n + 1, A => by
    have e : A + ((n + 1 : Nat) : Int) = (A + 1) + (n : Int) := by omega
    have m1 : A * t + s ≤ (A + 1) * t + s := by
      rw [Int.add_mul]
      omega
    have m2 : (A + 1) * t + s ≤ ((A + 1) + (n : Int)) * t + s := by
      have := Int.mul_le_mul_of_nonneg_right (show A + 1 ≤ A + 1 + (n : Int) by omega) (Int.le_of_lt h)
      omega
    rw [e, isum_add (f := fun x => f ((x - s) / t)) m1 m2, isum_add (f := f) (show A ≤ A + 1 by omega) (show A + 1 ≤ A + 1 + (n : Int) by omega), scale_pos h f n (A + 1), isum_one,
      isum_const' (f := fun x => f ((x - s) / t)) (c := f A) m1 fun x x0 x1 => by
        have : (x - s) / t = A := by
          have h1 : A ≤ (x - s) / t := (Int.le_ediv_iff_mul_le h).mpr (by omega)
          have h2 : (x - s) / t < A + 1 := (Int.ediv_lt_iff_lt_mul h).mpr (by omega)
          omega
        rw [this], Int.mul_add, show (A + 1) * t + s - (A * t + s) = t by rw [Int.add_mul]; omega]
theorem isum_phi {t s : Int} (ht : t ≠ 0) (f : Int → Int) {A B : Int} (h : A ≤ B) : isum (fun x => f (phi t s x)) (loT t s A B) (loT t s B A) = absT t * isum f A B := by
  unfold loT absT
  obtain ⟨n, rfl⟩ : ∃ n : Nat, B = A + n := ⟨(B - A).toNat, by omega⟩
  by_cases c : 0 < t
  · rw [if_pos c, if_pos c, if_pos c, ← scale_pos c f n A]
    exact isum_congr fun x _ _ => by
      unfold phi
      rw [if_pos c]
  · rw [if_neg c, if_neg c, if_neg c]
    have e : isum (fun x => f (phi t s x)) ((A + n) * t + s) (A * t + s) = isum (fun x => (fun y => f ((y - (1 - s)) / (-t))) (-x)) ((A + n) * t + s) (A * t + s) := isum_congr fun x _ _ => by
      unfold phi
      rw [if_neg c]
      show f ((s - x - 1) / -t) = f ((-x - (1 - s)) / -t)
      rw [show s - x - 1 = -x - (1 - s) by omega]
    have le : (A + n) * t + s ≤ A * t + s := by
      have := Int.mul_le_mul_of_nonpos_right (show A ≤ A + n by omega) (show t ≤ 0 by omega)
      omega
    rw [e, isum_rev (f := fun y => f ((y - (1 - s)) / (-t))) le, ← scale_pos (t := -t) (s := 1 - s) (by omega) f n A]
    rw [Int.mul_neg, Int.mul_neg, show 1 - (A * t + s) = -(A * t) + (1 - s) by omega, show 1 - ((A + n) * t + s) = -((A + n) * t) + (1 - s) by omega]
theorem phi_in {t s x A B : Int} (ht : t ≠ 0) : (loT t s A B ≤ x ∧ x < loT t s B A) ↔ (A ≤ phi t s x ∧ phi t s x < B) := by
  unfold loT
  by_cases c : 0 < t
  · rw [if_pos c, if_pos c, (phi_pos c).1, (phi_pos c).2]
  · rw [if_neg c, if_neg c, (phi_neg (show t < 0 by omega)).1, (phi_neg (show t < 0 by omega)).2]
    omega
theorem phi_out {t s x K : Int} (ht : t ≠ 0) : (x < loT t s (-K) K → phi t s x < -K ∨ K ≤ phi t s x) ∧ (loT t s K (-K) ≤ x → phi t s x < -K ∨ K ≤ phi t s x) := by
  have := phi_in (x := x) (A := -K) (B := K) (s := s) ht
  constructor
  · intro h
    have n : ¬ (-K ≤ phi t s x ∧ phi t s x < K) := fun z => by
      have := this.mpr z
      omega
    omega
  · intro h
    have n : ¬ (-K ≤ phi t s x ∧ phi t s x < K) := fun z => by
      have := this.mpr z
      omega
    omega
theorem phi_hit {t s y : Int} (ht : t ≠ 0) : ∃ x, phi t s x = y := by
  by_cases c : 0 < t
  · refine ⟨y * t + s, ?_⟩
    unfold phi
    rw [if_pos c, show y * t + s - s = y * t by omega]
    exact Int.mul_ediv_cancel _ ht
  · refine ⟨(y + 1) * t + s, ?_⟩
    have h1 := (phi_neg (t := t) (s := s) (x := (y + 1) * t + s) (p := y + 1) (by omega)).1.mp (Int.le_refl _)
    have h2 := (phi_neg (t := t) (s := s) (x := (y + 1) * t + s) (p := y) (by omega)).2.mp (by
      rw [Int.add_mul]
      omega)
    omega
theorem loT_le {t s A B : Int} (h : A ≤ B) : loT t s A B ≤ loT t s B A := by
  unfold loT
  by_cases c : 0 < t
  · rw [if_pos c, if_pos c]
    have := Int.mul_le_mul_of_nonneg_right h (Int.le_of_lt c)
    omega
  · rw [if_neg c, if_neg c]
    have := Int.mul_le_mul_of_nonpos_right h (show t ≤ 0 by omega)
    omega
/-- the way of a placed garden -/
theorem Placed.way {g g' : Gdn} {t s R K : Int} (h : Placed g g' t s) (ht : t ≠ 0) (hc : 1 ≤ g.b) (hK : 0 ≤ K) (hm : ∀ m ∈ marksG g, -K ≤ m ∧ m ≤ K) (h1 : -R ≤ loT t s (-K) K) (h2 : loT t s K (-K) ≤ R) : wayR R g' = absT t * wayR K g := by
  have le := loT_le (t := t) (s := s) (show -K ≤ K by omega)
  unfold wayR
  rw [← isum_phi (s := s) ht (fun x => 2 * cdiv (PL.byd g x) g.b) (show -K ≤ K by omega)]
  have z : ∀ x, phi t s x < -K ∨ K ≤ phi t s x → 2 * cdiv (PL.byd g' x) g'.b = 0 := fun x q => by
    rw [h.byd ht, h.b, byd_out (q.imp (fun q m hm' => by have := hm m hm'; omega) fun q m hm' => by have := hm m hm'; omega), cdiv_zero hc]
    rfl
  rw [isum_add (f := fun x => 2 * cdiv (PL.byd g' x) g'.b) h1 (by omega : loT t s (-K) K ≤ R), isum_add (f := fun x => 2 * cdiv (PL.byd g' x) g'.b) le h2, isum_zero (a := -R) fun x _ q => z x ((phi_out ht).1 q), isum_zero (b := R) fun x q _ => z x ((phi_out ht).2 q)]
  rw [isum_congr (f := fun x => 2 * cdiv (PL.byd g' x) g'.b) (g := fun x => 2 * cdiv (PL.byd g (phi t s x)) g.b) fun x _ _ => by rw [h.byd ht, h.b]]
  omega
theorem Placed.self (g : Gdn) : Placed g g 1 0 := ⟨by omega, rfl, by
  refine List.Perm.of_eq ?_
  refine ((List.map_congr_left fun b _ => ?_).trans (List.map_id _)).symm
  show (b.1 * 1 + 0, b.2) = b
  rw [Int.mul_one, Int.add_zero]⟩
theorem way_any {g : Gdn} {R K : Int} (hc : 1 ≤ g.b) (hK : 0 ≤ K) (hm : ∀ m ∈ marksG g, -K ≤ m ∧ m ≤ K) (hR : K ≤ R) : wayR R g = wayR K g := by
  have := (Placed.self g).way (R := R) (by decide) hc hK hm (by unfold loT; rw [if_pos (by decide)]; omega) (by unfold loT; rw [if_pos (by decide)]; omega)
  rw [this]
  show 1 * _ = _
  rw [Int.one_mul]
/-- all in one: places of g within K, of g' within R -/
theorem Placed.way2 {g g' : Gdn} {t s R K : Int} (h : Placed g g' t s) (ht : t ≠ 0) (hc : 1 ≤ g.b) (hK : 0 ≤ K) (hm : ∀ m ∈ marksG g, -K ≤ m ∧ m ≤ K) (hR : K ≤ R) (h1 : -R ≤ loT t s (-K) K) (h2 : loT t s K (-K) ≤ R) : wayR R g' = absT t * wayR R g := by
  rw [h.way ht hc hK hm h1 h2, way_any hc hK hm hR]
theorem Placed.can {g g' : Gdn} {t s : Int} (h : Placed g g' t s) (c : Int) : Placed ⟨g.a, c, g.c⟩ ⟨g'.a, c, g'.c⟩ t s := ⟨h.a, rfl, h.c⟩
theorem Placed.tap {g g' : Gdn} {t s : Int} (h : Placed g g' t s) (p : Int) : Placed ⟨p, g.b, g.c⟩ ⟨p * t + s, g'.b, g'.c⟩ t s := ⟨rfl, h.b, h.c⟩
theorem Placed.lohi {g g' : Gdn} {t s : Int} (h : Placed g g' t s) (ht : t ≠ 0) (p : Int) : loP g' (p * t + s) = loT t s (loP g p) (hiP g p) ∧ hiP g' (p * t + s) = loT t s (hiP g p) (loP g p) := by
  unfold loP hiP loT
  rw [h.a]
  by_cases c : 0 < t
  · rw [if_pos c, if_pos c]
    have m1 : p * t < g.a * t ↔ p < g.a := Int.mul_lt_mul_right c
    have m2 : g.a * t < p * t ↔ g.a < p := Int.mul_lt_mul_right c
    by_cases d : p < g.a
    · rw [if_pos (by omega), if_pos d, if_neg (by omega), if_neg (by omega)]
      exact ⟨rfl, rfl⟩
    · by_cases e : g.a < p
      · rw [if_neg (by omega), if_neg d, if_pos (by omega), if_pos e]
        exact ⟨rfl, rfl⟩
      · rw [if_neg (by omega), if_neg d, if_neg (by omega), if_neg e]
        exact ⟨rfl, rfl⟩
  · rw [if_neg c, if_neg c]
    have m1 : g.a * t < p * t ↔ p < g.a := by
      have := Int.mul_lt_mul_right (a := -t) (b := p) (c := g.a) (by omega)
      rw [Int.mul_neg, Int.mul_neg] at this
      omega
    have m2 : p * t < g.a * t ↔ g.a < p := by
      have := Int.mul_lt_mul_right (a := -t) (b := g.a) (c := p) (by omega)
      rw [Int.mul_neg, Int.mul_neg] at this
      omega
    by_cases d : p < g.a
    · have := m1.mpr d
      rw [if_neg (by omega), if_neg (by omega), if_pos (by omega), if_pos d]
      exact ⟨rfl, rfl⟩
    · by_cases e : g.a < p
      · have := m2.mpr e
        rw [if_pos (by omega), if_pos e, if_neg (by omega), if_neg (by omega)]
        exact ⟨rfl, rfl⟩
      · have : p = g.a := by omega
        subst this
        simp
def room (g : Gdn) (x : Int) : Int := (-(byd g x)) % g.b
def FreeIs (g : Gdn) (p : Int) (r : Option Int) : Prop := (p = g.a ∧ r = none) ∨ (p ≠ g.a ∧ ∃ k, r = some k ∧ 0 ≤ k ∧ k < g.b ∧ (∀ x, loP g p ≤ x → x < hiP g p → k ≤ room g x) ∧ ∃ x, loP g p ≤ x ∧ x < hiP g p ∧ k = room g x)
theorem free_one {g g' : Gdn} {p p' T : Int} {r r' : Option Int} (hT : 0 < T) (h : FreeIs g p r) (h' : FreeIs g' p' r') (ha : p = g.a ↔ p' = g'.a)
    (h1 : ∀ x, loP g p ≤ x → x < hiP g p → ∃ x', loP g' p' ≤ x' ∧ x' < hiP g' p' ∧ room g' x' = T * room g x) (h2 : ∀ x', loP g' p' ≤ x' → x' < hiP g' p' → ∃ x, loP g p ≤ x ∧ x < hiP g p ∧ room g' x' = T * room g x) : r' = r.map (T * ·) := by
  rcases h with ⟨e, rfl⟩ | ⟨e, k, rfl, _, _, k1, x, x0, x1, rfl⟩
  · rcases h' with ⟨e', rfl⟩ | ⟨e', _⟩
    · rfl
    · exact absurd (ha.mp e) e'
  · rcases h' with ⟨e', rfl⟩ | ⟨e', k', rfl, _, _, k2, x', y0, y1, rfl⟩
    · exact absurd (ha.mpr e') e
    · obtain ⟨z', z0, z1, z2⟩ := h1 x x0 x1
      obtain ⟨w, w0, w1, w2⟩ := h2 x' y0 y1
      have q1 := k2 z' z0 z1
      have q2 := k1 w w0 w1
      have q3 := Int.mul_le_mul_of_nonneg_left q2 (Int.le_of_lt hT)
      show some _ = some (T * room g x)
      congr 1
      omega
theorem Placed.free {g g' : Gdn} {t s p : Int} {r r' : Option Int} (h : Placed g g' t s) (ht : t ≠ 0) (h1 : FreeIs g p r) (h2 : FreeIs g' (p * t + s) r') : r' = r := by
  have lh := h.lohi ht p
  have rm : ∀ x, room g' x = 1 * room g (phi t s x) := fun x => by
    unfold room
    rw [h.byd ht, h.b, Int.one_mul]
  have := free_one (T := 1) (by decide) h1 h2 (by
    rw [h.a]
    constructor
    · intro e
      rw [e]
    · intro e
      have : p * t = g.a * t := by omega
      exact Int.eq_of_mul_eq_mul_right ht this) (fun x x0 x1 => by
        obtain ⟨y, hy⟩ := phi_hit (t := t) (s := s) (y := x) ht
        have q := (phi_in (x := y) (s := s) (A := loP g p) (B := hiP g p) ht).mpr (by rw [hy]; exact ⟨x0, x1⟩)
        exact ⟨y, by rw [lh.1]; exact q.1, by rw [lh.2]; exact q.2, by rw [rm, hy]⟩) fun x x0 x1 => by
        rw [lh.1] at x0
        rw [lh.2] at x1
        have q := (phi_in (x := x) (s := s) (A := loP g p) (B := hiP g p) ht).mp ⟨x0, x1⟩
        exact ⟨phi t s x, q.1, q.2, rm x⟩
  rw [this]
  cases r with
  | none => rfl
  | some k =>
    show some (1 * k) = _
    rw [Int.one_mul]
theorem Best.one {g : Gdn} {f l f' l' : Int} (h : Best g f l) (h' : Best g f' l') : f = f' ∧ l = l' := by
  have nn : ∀ {f l : Int}, Best g f l → ∀ t, f ≤ t → 0 ≤ PL.dT g t := fun {f l} h t ht => by
    by_cases c : t < l
    · have := h.mid t ht c
      omega
    · have := h.hi t (by omega)
      omega
  have np : ∀ {f l : Int}, Best g f l → ∀ t, t < l → PL.dT g t ≤ 0 := fun {f l} h t ht => by
    by_cases c : t < f
    · have := h.lo t c
      omega
    · have := h.mid t (by omega) ht
      omega
  constructor
  · rcases Int.lt_trichotomy f f' with c | c | c
    · have := h'.lo f c
      have := nn h f (Int.le_refl _)
      omega
    · exact c
    · have := h.lo f' c
      have := nn h' f' (Int.le_refl _)
      omega
  · rcases Int.lt_trichotomy l l' with c | c | c
    · have := h.hi l (Int.le_refl _)
      have := np h' l c
      omega
    · exact c
    · have := h'.hi l' (Int.le_refl _)
      have := np h l' c
      omega
theorem Placed.best {g g' : Gdn} {t s f l : Int} (h : Placed g g' t s) (ht : t ≠ 0) (hb : Best g f l) : Best g' (loT t s f l) (loT t s l f) := by
  obtain ⟨bf, hbf, e1⟩ := hb.mf
  obtain ⟨bl, hbl, e2⟩ := hb.ml
  have mem : ∀ b ∈ unTup g.c, ∃ b' ∈ unTup g'.c, b'.1 = b.1 * t + s := fun b q => ⟨_, h.c.mem_iff.mpr (List.mem_map.mpr ⟨b, q, rfl⟩), rfl⟩
  have cs : ∀ x, PL.dT g' x = if 0 < t then PL.dT g (phi t s x) else -(PL.dT g (phi t s x)) := h.dT ht
  have pin := fun x => phi_in (x := x) (s := s) (A := f) (B := l) ht
  refine ⟨loT_le hb.le, ?_, ?_, fun x hx => ?_, fun x x0 x1 => ?_, fun x hx => ?_⟩
  · unfold loT
    by_cases c : 0 < t
    · rw [if_pos c, ← e1]
      exact mem bf hbf
    · rw [if_neg c, ← e2]
      exact mem bl hbl
  · unfold loT
    by_cases c : 0 < t
    · rw [if_pos c, ← e2]
      exact mem bl hbl
    · rw [if_neg c, ← e1]
      exact mem bf hbf
  · rw [cs]
    unfold loT at hx
    by_cases c : 0 < t
    · rw [if_pos c] at hx ⊢
      exact hb.lo _ ((phi_pos c).2.mp hx)
    · rw [if_neg c] at hx ⊢
      have := hb.hi _ ((phi_neg (show t < 0 by omega)).2.mp hx)
      omega
  · have q := (pin x).mp ⟨x0, x1⟩
    rw [cs, hb.mid _ q.1 q.2]
    split <;> rfl
  · rw [cs]
    unfold loT at hx
    by_cases c : 0 < t
    · rw [if_pos c] at hx ⊢
      exact hb.hi _ ((phi_pos c).1.mp hx)
    · rw [if_neg c] at hx ⊢
      have := hb.lo _ ((phi_neg (show t < 0 by omega)).1.mp hx)
      omega
theorem cdiv_mul {n c T : Int} (hc : 1 ≤ c) (hT : 0 < T) : cdiv (T * n) (c * T) = cdiv n c := by
  have hcT : 1 ≤ c * T := by
    have := Int.mul_pos (show 0 < c by omega) hT
    omega
  have key : ∀ k, cdiv (T * n) (c * T) ≤ k ↔ cdiv n c ≤ k := fun k => by
    rw [cdiv_iff hcT, cdiv_iff hc]
    have e : k * (c * T) = T * (k * c) := by rw [← Int.mul_assoc, Int.mul_comm]
    rw [e]
    constructor
    · exact fun q => Int.le_of_mul_le_mul_left q hT
    · exact fun q => Int.mul_le_mul_of_nonneg_left q (Int.le_of_lt hT)
  have q1 := (key (cdiv n c)).mpr (Int.le_refl _)
  have q2 := (key (cdiv (T * n) (c * T))).mp (Int.le_refl _)
  omega
structure Times (g g' : Gdn) (T : Int) : Prop where
  a : g'.a = g.a
  b : g'.b = g.b * T
  c : unTup g'.c = (unTup g.c).map fun b => (b.1, b.2 * T)
theorem Times.byd {g g' : Gdn} {T : Int} (h : Times g g' T) (x : Int) : PL.byd g' x = T * PL.byd g x := by
  unfold PL.byd
  rw [h.a, h.c, litP_mul, litP_mul]
  split <;> rfl
theorem Times.way {g g' : Gdn} {T R : Int} (h : Times g g' T) (hc : 1 ≤ g.b) (hT : 0 < T) : wayR R g' = wayR R g := isum_congr fun x _ _ => by
  rw [h.byd, h.b, cdiv_mul hc hT]
theorem Times.rises {g g' : Gdn} {T : Int} (h : Times g g' T) (hc : 1 ≤ g.b) (hT : 0 < T) : risesG g' = risesG g := by
  unfold risesG
  rw [h.c, List.map_map]
  refine List.map_congr_left fun b _ => ?_
  show (b.1, PL.dT g' b.1) = _
  unfold PL.dT litL litR
  rw [h.c, litP_mul, litP_mul, h.b, cdiv_mul hc hT, cdiv_mul hc hT]
theorem mul_emod {n c T : Int} (hc : 1 ≤ c) (hT : 0 < T) : (-(T * n)) % (c * T) = T * ((-n) % c) := by
  rw [show -(T * n) = T * (-n) by rw [Int.mul_neg], Int.mul_comm c T, Int.mul_emod_mul_of_pos _ _ hT]
theorem Times.free {g g' : Gdn} {T p : Int} {r r' : Option Int} (h : Times g g' T) (hc : 1 ≤ g.b) (hT : 0 < T) (h1 : FreeIs g p r) (h2 : FreeIs g' p r') : r' = r.map (T * ·) := by
  have lh : loP g' p = loP g p ∧ hiP g' p = hiP g p := by
    unfold loP hiP
    rw [h.a]
    exact ⟨rfl, rfl⟩
  have rm : ∀ x, room g' x = T * room g x := fun x => by
    unfold room
    rw [h.byd, h.b, mul_emod hc hT]
  refine free_one hT h1 h2 (by rw [h.a]) (fun x x0 x1 => ⟨x, by rw [lh.1]; exact x0, by rw [lh.2]; exact x1, rm x⟩) fun x x0 x1 => ⟨x, by rw [lh.1] at x0; exact x0, by rw [lh.2] at x1; exact x1, rm x⟩
end PL

namespace PL
open PySem L2 Enc PySem.W
theorem sumN_swap (F : Int → Int → Int) (a : Int) (n : Nat) : ∀ (m : Nat) (b : Int), sumN (fun k => sumN (fun x => F k x) a n) b m = sumN (fun x => sumN (fun k => F k x) b m) a n
  | 0, b => by
    show (0 : Int) = _
    have : ∀ (n : Nat) (a : Int), sumN (fun _ => (0 : Int)) a n = 0 := fun n => by
      intro a
      rw [sumN_const, Int.mul_zero]
    exact (this n a).symm
  | m + 1, b => by
    show sumN (fun x => F b x) a n + sumN (fun k => sumN (fun x => F k x) a n) (b + 1) m = _
    rw [sumN_swap F a n m (b + 1), ← sumN_plus]
    rfl
theorem isum_swap (F : Int → Int → Int) (a a' b b' : Int) : isum (fun k => isum (fun x => F k x) a a') b b' = isum (fun x => isum (fun k => F k x) b b') a a' := sumN_swap F a _ _ b
theorem sum_range (f : Int → Int) {c : Int} : ((rangeL 0 c).map f).sum = isum f 0 c := by
  have : ∀ (n : Nat) (a : Int), ((List.range n).map fun i : Nat => f (a + (i : Int))).sum = sumN f a n := fun n => by
    induction n with
    | zero => exact fun _ => rfl
    | succ n ih =>
      intro a
      rw [List.range_succ_eq_map, List.map_cons, List.sum_cons, List.map_map]
      show f (a + ((0 : Nat) : Int)) + _ = f a + _
      rw [show a + ((0 : Nat) : Int) = a by omega, ← ih (a + 1)]
      congr 2
      refine List.map_congr_left fun i _ => ?_
      show f (a + ((i + 1 : Nat) : Int)) = f (a + 1 + (i : Int))
      congr 1
      omega
  unfold rangeL isum
  rw [List.map_map, ← this _ 0]
  rfl
theorem rg3_ok {n c : Int} (h0 : 0 ≤ n) (h1 : n ≤ 1000000) (c0 : 1 ≤ c) (c1 : c ≤ 1000000) : rg3Ok 0 n c := by
  refine ⟨by omega, by omega, ?_⟩
  have e : 0 ≤ Builtin.Range.rangeSize 0 n c ∧ Builtin.Range.rangeSize 0 n c ≤ 1000000 := by
    unfold Builtin.Range.rangeSize
    rw [if_pos (by omega)]
    split
    · have h2 := Int.ediv_nonneg (show 0 ≤ n - 0 - 1 by omega) (show 0 ≤ c by omega)
      have h3 : (n - 0 - 1) / c ≤ n - 0 - 1 := Int.ediv_le_self _ (by omega)
      omega
    · omega
  unfold Builtin.Range.small
  generalize Builtin.Range.rangeSize 0 n c = k at e
  simp only [Builtin.Range.rangeFitsLong, Bool.and_eq_true, Bool.or_eq_true, decide_eq_true_eq, beq_iff_eq]
  refine ⟨by omega, .inr ?_⟩
  rw [if_pos (by omega), Bool.and_eq_true, decide_eq_true_eq, decide_eq_true_eq]
  omega
/-- how many of a list are greater than d -/
def above (d : Int) (l : List Int) : Nat := (l.filter fun y => decide (d < y)).length
theorem above_perm {l m : List Int} (h : l.Perm m) (d : Int) : above d l = above d m := (h.filter _).length_eq
theorem above_app (d : Int) (l m : List Int) : above d (l ++ m) = above d l + above d m := by
  unfold above
  rw [List.filter_append, List.length_append]
theorem above_le (d : Int) (l : List Int) : above d l ≤ l.length := List.length_filter_le _ _
theorem above_ix {d : Int} : ∀ {l : List Int}, l.Pairwise (fun a b => b ≤ a) → ∀ {i : Nat} {x : Int}, l[i]? = some x → (d < x ↔ i < above d l)
  | [], _, i, x, h => by simp at h
  | y :: r, hp, i, x, h => by
    have hp' := List.pairwise_cons.mp hp
    by_cases c : d < y
    · have e : above d (y :: r) = above d r + 1 := by
        unfold above
        rw [List.filter_cons_of_pos (by exact decide_eq_true c), List.length_cons]
      rw [e]
      cases i with
      | zero =>
        obtain rfl : y = x := Option.some.inj h
        exact ⟨fun _ => Nat.succ_pos _, fun _ => c⟩
      | succ i =>
        have := above_ix (d := d) hp'.2 (i := i) (x := x) h
        omega
    · have e : above d (y :: r) = 0 := by
        unfold above
        rw [List.length_eq_zero_iff, List.filter_eq_nil_iff]
        intro z hz
        rw [decide_eq_true_eq]
        rcases List.mem_cons.mp hz with rfl | hz
        · exact c
        · have := hp'.1 z hz
          omega
      rw [e]
      have hx : x ≤ y := by
        cases i with
        | zero =>
          obtain rfl : y = x := Option.some.inj h
          exact Int.le_refl _
        | succ i => exact hp'.1 x (List.mem_of_getElem? (i := i) h)
      omega
theorem isum_step {n M : Int} (h0 : 0 ≤ n) (h1 : n ≤ M) : isum (fun d => if d < n then 1 else 0) 0 M = n := by
  rw [isum_add (f := fun d => if d < n then 1 else 0) h0 h1, isum_const' (c := 1) h0 fun x _ q => if_pos q, isum_zero fun x q _ => if_neg (by omega)]
  omega
/-- every c-th of a falling list, summed -/
theorem falling_sum {l : List Int} {c M : Int} (hc : 1 ≤ c) (hp : l.Pairwise (fun a b => b ≤ a)) (hl : ∀ y ∈ l, 0 ≤ y ∧ y ≤ M) : ((List.range (cdiv l.length c).toNat).map fun j : Nat => l.getD (j * c.toNat) 0).sum = isum (fun d => cdiv (above d l) c) 0 M := by
  have hm := cdiv_nn hc (show (0 : Int) ≤ (l.length : Int) by omega)
  have inr : ∀ k : Int, 0 ≤ k → k < cdiv l.length c → ∃ x, l[k.toNat * c.toNat]? = some x := fun k k0 k1 => by
    have q : ¬ cdiv l.length c ≤ k := by omega
    rw [cdiv_iff hc] at q
    have e : ((k.toNat * c.toNat : Nat) : Int) = k * c := by
      rw [Int.natCast_mul, Int.toNat_of_nonneg k0, Int.toNat_of_nonneg (by omega)]
    exact ⟨l[k.toNat * c.toNat]'(by omega), List.getElem?_eq_getElem _⟩
  have e1 : ((List.range (cdiv l.length c).toNat).map fun j : Nat => l.getD (j * c.toNat) 0).sum = isum (fun k => l.getD (k.toNat * c.toNat) 0) 0 (cdiv l.length c) := by
    rw [← sum_range]
    unfold rangeL
    rw [List.map_map, Int.sub_zero]
    congr 1
    refine List.map_congr_left fun j _ => ?_
    show _ = l.getD ((0 + (j : Int)).toNat * c.toNat) 0
    rw [Int.zero_add, Int.toNat_natCast]
  rw [e1]
  have e2 : isum (fun k => l.getD (k.toNat * c.toNat) 0) 0 (cdiv l.length c) = isum (fun k => isum (fun d => if d < l.getD (k.toNat * c.toNat) 0 then 1 else 0) 0 M) 0 (cdiv l.length c) := isum_congr fun k k0 k1 => by
    obtain ⟨x, hx⟩ := inr k k0 k1
    have q := hl x (List.mem_of_getElem? hx)
    rw [List.getD_eq_getElem?_getD, hx, isum_step (by exact q.1) (by exact q.2)]
  rw [e2, isum_swap]
  refine isum_congr fun d _ _ => ?_
  have ab := above_le d l
  have n0 := cdiv_nn hc (show (0 : Int) ≤ (above d l : Int) by omega)
  have n1 := cdiv_mono hc (show (above d l : Int) ≤ (l.length : Int) by omega)
  rw [isum_congr (g := fun k => if k < cdiv (above d l) c then 1 else 0) fun k k0 k1 => ?_, isum_step n0 n1]
  obtain ⟨x, hx⟩ := inr k k0 k1
  rw [List.getD_eq_getElem?_getD, hx]
  have q := above_ix (d := d) hp hx
  have e : ((k.toNat * c.toNat : Nat) : Int) = k * c := by
    rw [Int.natCast_mul, Int.toNat_of_nonneg k0, Int.toNat_of_nonneg (by omega)]
  have q2 : k < cdiv (above d l) c ↔ k * c < (above d l : Int) := by
    have := cdiv_iff (n := (above d l : Int)) (k := k) hc
    omega
  show (if d < x then (1 : Int) else 0) = _
  by_cases z : d < x
  · rw [if_pos z, if_pos (q2.mpr (by have := q.mp z; omega))]
  · rw [if_neg z, if_neg fun w => z (q.mpr (by have := q2.mp w; omega))]
end PL

namespace PL
open PySem L2 Enc
theorem bd_int {i : Int} (h : -1000000000000000000000000000000 ≤ i ∧ i ≤ 1000000000000000000000000000000) : Bd 61 0 (enc i) := Bd.int (by
  have : i.natAbs ≤ 1000000000000000000000000000000 := by omega
  exact Nat.lt_of_le_of_lt this (by decide))
theorem bd_ints {l : List Int} (h : ∀ i ∈ l, -1000000000000000000000000000000 ≤ i ∧ i ≤ 1000000000000000000000000000000) (hl : l.length ≤ 1000) : Bd 63002 1 (enc l) :=
  Bd.listE (n := 61) (h := 0) (k := 1000) (fun x hx => bd_int (h x hx)) hl
theorem Gok.bd {g : Gdn} (h : Gok g) : Bd 16000 3 (enc g) := by
  have hc : Bd (40 * (129 + 2) + 3) 2 (enc g.c) := Bd.tupE (n := 129) (h := 1) (fun x hx => by
    have := h.pl x hx
    exact Bd.pair (bd_int (by omega)) (bd_int (by omega))) h.len
  have ht := h.tap
  have hb := h.can
  exact Bd.mono (Bd.t3 (n := 5243) (h := 2) ((bd_int (by omega)).mono (by omega) (by omega)) ((bd_int (by omega)).mono (by omega) (by omega)) (hc.mono (by omega) (by omega))) (by omega) (by omega)
theorem Gok.repr {g : Gdn} (h : Gok g) : repF g = some (enc g).shown := repF_of h.bd (by decide) (by decide)
theorem ints_repr {l : List Int} (h : ∀ i ∈ l, -1000000000000000000000000000000 ≤ i ∧ i ≤ 1000000000000000000000000000000) (hl : l.length ≤ 1000) : repF l = some (enc l).shown := repF_of (bd_ints h hl) (by decide) (by decide)
theorem way_bd {g : Gdn} (h : Gok g) : 0 ≤ wayR 4000000 g ∧ wayR 4000000 g ≤ 640000000000000000000 := by
  have hc := h.can
  have hb := fun x => h.byd x
  have q := fun x => cdiv_nn hc.1 (hb x).1
  have q2 := fun x => cdiv_le hc.1 (hb x).1
  unfold wayR
  refine ⟨isum_nn fun x _ _ => by have := q x; omega, ?_⟩
  have := isum_le (f := fun x => 2 * cdiv (PL.byd g x) g.b) (g := fun _ => 80000000000000) (a := -4000000) (b := 4000000) fun x _ _ => by
    have h1 := q2 x
    have h2 := hb x
    show 2 * cdiv (PL.byd g x) g.b ≤ 80000000000000
    omega
  rw [isum_const (by omega)] at this
  omega
end PL

namespace PL
open PySem L2 Enc PP
theorem b_beyond_ok {g : Gdn} (h : Gok g) : f_b_beyond (g, ()) = some ((strG g).map fun t => ⟨2 * (t.b - t.a), t.c⟩) := by
  refine f_of ?_
  simp only [m_b_beyond, nf1, nf2, nf3, nf4, nf7, cutL_tail]
  have hl := h.len
  have hm := h.marks.2
  rw [guard_true (lenOk_le (by simp)), guard_true (lenOk_le (by omega)), guard_true (lenOk_le (by rw [List.length_map]; simp only [List.length_cons, List.length_nil]; omega)), guard_true (by rw [List.length_cons, List.length_map]; omega), lp_app (fun x : Int × Int => (⟨2 * (x.2 - x.1), byd g x.1⟩ : Pr Int Int)) (by
    rw [List.length_zip]
    show min (marksG g).length _ ≤ _
    omega)]
  · unfold strG
    rw [List.map_map]
    rfl
  · intro y x hx
    have n : Nb g x.1 x.2 := nb_of hx
    have lt := n.lt
    obtain ⟨k1, k2⟩ := mem_zip_tl (a := x.1) (b := x.2) hx
    have m1 := h.marks.1 x.1 (List.mem_of_getElem? k2.1)
    have m2 := h.marks.1 x.2 (List.mem_of_getElem? k2.2)
    have e : (lcM (fun x8 : Int × Int => if decide (x.2 ≤ g.a) = true then pureM (decide (x8.1 ≤ x.1)) else pureM (decide (x.2 ≤ x8.1))) (fun x8 : Int × Int => (pureM x8.2 : M Unit Int)) (unTup g.c)) = pureM (((unTup g.c).filter fun x8 => if x.2 ≤ g.a then decide (x8.1 ≤ x.1) else decide (x.2 ≤ x8.1)).map (·.2)) := by
      refine lcM_pure (fun x8 _ => ?_) fun _ _ _ => rfl
      by_cases c : x.2 ≤ g.a
      · rw [if_pos (decide_eq_true c), if_pos c]
      · rw [if_neg (by rw [decide_eq_false c]; exact Bool.false_ne_true), if_neg c]
    have e2 : (((unTup g.c).filter fun x8 => if x.2 ≤ g.a then decide (x8.1 ≤ x.1) else decide (x.2 ≤ x8.1)).map (·.2)).sum = byd g x.1 := by
      show litP (fun p => if x.2 ≤ g.a then decide (p ≤ x.1) else decide (x.2 ≤ p)) (unTup g.c) = _
      unfold byd
      by_cases c : x.2 ≤ g.a
      · rw [if_neg (by omega)]
        exact litP_congr fun b _ => by rw [if_pos c]
      · have := n.tap
        rw [if_pos (by omega)]
        refine litP_congr fun b hb => ?_
        have := n.pl b hb
        rw [if_neg c, decide_eq_decide]
        omega
    rw [guard_true (lenOk_le (by omega)), e]
    simp only [nf1]
    rw [guard_true ⟨by decide, wide_of (by omega) (by omega)⟩, e2]
theorem b_least_ok {g : Gdn} (h : Gok g) {R : Int} (hR : 4000000 ≤ R) : f_b_least (g, ()) = some (wayR R g) := by
  refine f_of ?_
  simp only [m_b_least, nf1, nf2, nf3, nf4, nf7, b_beyond_ok h]
  have hc := h.can
  have hs := h.str
  have hm := h.marks
  rw [guard_true (lenOk_le (by rw [List.length_map]; omega)), lcM_pure (q := fun _ => true) (g := fun x : Pr Int Int => x.a * cdiv x.b g.b) (fun _ _ => rfl) (fun x hx _ => ?_), List.filter_eq_self.mpr fun _ _ => rfl]
  · simp only [nf1]
    unfold wayR
    rw [← str_sum (g := g) (R := R) (fun m hm' => by have := hm.1 m hm'; omega) (fun n => 2 * cdiv n g.b) (by rw [cdiv_zero hc.1]; rfl), List.map_map]
    refine congrArg (fun l : List Int => (pureM (List.sum l) : M Unit Int)) (List.map_congr_left fun t ht => ?_)
    show 2 * (t.b - t.a) * cdiv t.c g.b = (t.b - t.a) * (2 * cdiv t.c g.b)
    rw [Int.mul_comm 2, Int.mul_assoc]
  · obtain ⟨t, ht, rfl⟩ := List.mem_map.mp hx
    have q := hs.2 t ht
    have q1 := cdiv_nn hc.1 q.2.2.2.1
    have q2 := cdiv_le hc.1 q.2.2.2.1
    show guardM (divOk (-t.c) g.b) (guardM (mulOk (2 * (t.b - t.a)) (-(-t.c / g.b))) (pureM (2 * (t.b - t.a) * -(-t.c / g.b)))) = pureM (2 * (t.b - t.a) * cdiv t.c g.b)
    rw [cdiv_neg hc.1, guard_true ⟨by omega, wide_of (by omega) (by omega)⟩, guard_true ⟨wide_of (by omega) (by omega), wide_of (by omega) (by omega)⟩]
end PL

namespace PP
open PySem L2 PL PL.Enc
def m_is_number (u : Int × Int × Int × Unit) : M Unit (Fl Unit Empty Bool) :=
  (retS (andM (mapM1 (fun y : Int => (fun n => n == "int" || n == "bool") (tyName (enc y))) (pureM u.1)) (andM (notM (mapM1 (fun y : Int => (fun n => n == "bool") (tyName (enc y))) (pureM u.1))) (chainM (fun i j => decide (i ≤ j)) (fun i j => decide (i ≤ j)) (pureM u.2.1) (pureM u.1) (pureM u.2.2.1)))))
def f_is_number (u : Int × Int × Int × Unit) : Option Bool := (retM none (m_is_number u) ()).map (·.1)
def m_is_place (u : Int × Unit) : M Unit (Fl Unit Empty Bool) :=
  (retS (callF f_is_number (pairM (pureM u.1) (pairM (subM (pureM (0 : Int)) (pureM (1000000 : Int))) (pairM (pureM (1000000 : Int)) (pureM ()))))))
def f_is_place (u : Int × Unit) : Option Bool := (retM none (m_is_place u) ()).map (·.1)
def m_is_bed (u : (Int × Int) × Unit) : M Unit (Fl Unit Empty Bool) :=
  (seqM (iteM (orM (notM (mapM1 (fun y : (Int × Int) => (fun n => n == "tuple") (tyName (enc y))) (pureM u.1))) (neIM (fun1M (fun _ : (Int × Int) => some (2 : Int)) (pureM u.1)) (pureM (2 : Int)))) (retS (pureM false)) (pureM (.nx ()))) (fun s1 : Unit => (retS (andM (callF f_is_place (pairM (mapM1 (fun y : (Int × Int) => y.1) (pureM u.1)) (pureM ()))) (callF f_is_number (pairM (mapM1 (fun y : (Int × Int) => y.2) (pureM u.1)) (pairM (pureM (1 : Int)) (pairM (pureM (1000000000 : Int)) (pureM ())))))))))
def f_is_bed (u : (Int × Int) × Unit) : Option Bool := (retM none (m_is_bed u) ()).map (·.1)
def m_first_wrong_bed (u : (Tup (Int × Int)) × Unit) : M Unit (Fl Unit Empty (Option Int)) :=
  (seqM (setS (subM (subM (pureM (0 : Int)) (pureM (1000000 : Int))) (pureM (1 : Int)))) (fun before1 : Int => (seqM (forS (enumM (mapM1 unTup (pureM u.1))) (fun (s2 : (Int)) (x3 : (Int × (Int × Int))) => (seqM (iteM (orM (notM (callF f_is_bed (pairM (pureM x3.2) (pureM ())))) (leM (mapM1 (fun y : (Int × Int) => y.1) (pureM x3.2)) (pureM s2))) (retS (mapM1 some (pureM x3.1))) (pureM (.nx ()))) (fun s4 : Unit => (seqM (setS (mapM1 (fun y : (Int × Int) => y.1) (pureM x3.2))) (fun before5 : Int => (pureM (.nx (before5)))))))) (before1)) (fun s6 : (Int) => (retS (pureM (none : Option Int)))))))
def f_first_wrong_bed (u : (Tup (Int × Int)) × Unit) : Option (Option Int) := (retM none (m_first_wrong_bed u) ()).map (·.1)
def m_garden_error (u : (T3 Int Int (Tup (Int × Int))) × Unit) : M Unit (Fl Unit Empty (Option ((Option Int) × Str))) :=
  (seqM (iteM (orM (notM (mapM1 (fun y : (T3 Int Int (Tup (Int × Int))) => (fun n => n == "tuple") (tyName (enc y))) (pureM u.1))) (neIM (fun1M (fun _ : (T3 Int Int (Tup (Int × Int))) => some (3 : Int)) (pureM u.1)) (pureM (3 : Int)))) (retS (mapM1 some (tup2M (pureM (none : Option Int)) (pureM ("garden" : Str))))) (pureM (.nx ()))) (fun s1 : Unit => (seqM (setS (pureM u.1)) (fun y2 : (T3 Int Int (Tup (Int × Int))) => (seqM (iteM (notM (callF f_is_place (pairM (pureM y2.a) (pureM ())))) (retS (mapM1 some (tup2M (pureM (none : Option Int)) (pureM ("tap" : Str))))) (pureM (.nx ()))) (fun s3 : Unit => (seqM (iteM (notM (callF f_is_number (pairM (pureM y2.b) (pairM (pureM (1 : Int)) (pairM (pureM (1000000 : Int)) (pureM ())))))) (retS (mapM1 some (tup2M (pureM (none : Option Int)) (pureM ("can" : Str))))) (pureM (.nx ()))) (fun s4 : Unit => (seqM (iteM (orM (notM (mapM1 (fun y : (Tup (Int × Int)) => (fun n => n == "tuple") (tyName (enc y))) (pureM y2.c))) (gtM (fun1M (fun l : (Tup (Int × Int)) => some ((unTup l).length : Int)) (pureM y2.c)) (pureM (12 : Int)))) (retS (mapM1 some (tup2M (pureM (none : Option Int)) (pureM ("beds" : Str))))) (pureM (.nx ()))) (fun s5 : Unit => (seqM (setS (callF f_first_wrong_bed (pairM (pureM y2.c) (pureM ())))) (fun index6 : (Option Int) => (retS (iteM (mapM1 Option.isNone (pureM index6)) (pureM (none : Option ((Option Int) × Str))) (mapM1 some (tup2M (pureM index6) (pureM ("bed" : Str))))))))))))))))))
def f_garden_error (u : (T3 Int Int (Tup (Int × Int))) × Unit) : Option (Option ((Option Int) × Str)) := (retM none (m_garden_error u) ()).map (·.1)
def m_is_garden (u : (T3 Int Int (Tup (Int × Int))) × Unit) : M Unit (Fl Unit Empty Bool) :=
  (retS (mapM1 Option.isNone (callF f_garden_error (pairM (pureM u.1) (pureM ())))))
def f_is_garden (u : (T3 Int Int (Tup (Int × Int))) × Unit) : Option Bool := (retM none (m_is_garden u) ()).map (·.1)
theorem f_any {A : Type} {o : Option A} {m : M Unit (Fl Unit Empty A)} (h : OkM KU 0 (retM o m) fun _ => True) : ∃ v, (retM o m ()).map (·.1) = some v := by
  obtain ⟨a, s', e, _, _⟩ := h () (Nat.le_refl _)
  exact ⟨a, by rw [e]; rfl⟩
theorem ob_any {S N1 N L R : Type} {K : Cnt S} {c : Nat} {b : Bool} {m n : M S (Fl N1 L R)} {k : N1 → M S (Fl N L R)} {T : Fl N L R → Prop} (h1 : OkM K c (seqM m k) T) (h2 : OkM K c (seqM n k) T) : OkM K c (seqM (if b = true then m else n) k) T := by
  cases b
  · exact h2
  · exact h1
theorem ob_rt {S R : Type} {K : Cnt S} {c : Nat} {o : Option R} {m : M S (Fl Unit Empty R)} {T : R → Prop} (h : OkM K c m fun r => ∃ v, r = .rt v ∧ T v) : OkM K c (retM o m) T :=
  ob_bind (e := 0) h (Nat.le_refl _) fun r hr => by
    obtain ⟨v, rfl, hv⟩ := hr
    exact ob_pure hv
theorem number_ok (x lo hi : Int) : f_is_number (x, lo, hi, ()) = some (decide (lo ≤ x) && decide (x ≤ hi)) := by
  refine f_of ?_
  simp only [m_is_number, nf1, nf2, nf3, nf4, nf7]
  have t0 : tyName (enc x) = "int" := rfl
  have t1 : (tyName (enc x) == "int") = true := by rw [t0]; decide
  have t2 : (tyName (enc x) == "bool") = false := by rw [t0]; decide
  rw [t1, t2]
  rfl
theorem place_ok (x : Int) : f_is_place (x, ()) = some (decide (-1000000 ≤ x) && decide (x ≤ 1000000)) := by
  refine f_of ?_
  simp only [m_is_place, nf1, nf2, nf3, nf4, nf7, number_ok]
  rfl
theorem bed_ok (b : Int × Int) : f_is_bed (b, ()) = some ((decide (-1000000 ≤ b.1) && decide (b.1 ≤ 1000000)) && (decide (1 ≤ b.2) && decide (b.2 ≤ 1000000000))) := by
  refine f_of ?_
  have t0 : tyName (enc b) = "tuple" := rfl
  have t1 : (tyName (enc b) == "tuple") = true := by rw [t0]; decide
  simp only [m_is_bed, nf1, nf2, nf3, nf4, nf7, t1, place_ok, number_ok]
  cases hb : (decide (-1000000 ≤ b.1) && decide (b.1 ≤ 1000000)) <;> simp
theorem wrong_ok (bs : Tup (Int × Int)) (h : (unTup bs).length ≤ 1000) : ∃ r, f_first_wrong_bed (bs, ()) = some r := by
  have key : OkM KU 0 (retM none (m_first_wrong_bed (bs, ()))) fun _ => True := by
    simp only [m_first_wrong_bed, nfK, nf2, nf3, nf4, nf7, enumM, bed_ok]
    refine ob_lp 1000 0 0 (fun _ _ => True) (by rw [List.length_map, List.length_zipIdx]; exact h) (by omega) trivial (fun pre x post s e _ => ?_) fun _ _ => ob_pure trivial
    exact ob_any (ob_pure trivial) (ob_pure trivial)
  exact f_any key
theorem error_ok (g : Gdn) (h : (unTup g.c).length ≤ 1000) : ∃ r, f_garden_error (g, ()) = some r := by
  obtain ⟨w, ew⟩ := wrong_ok g.c h
  have t0 : tyName (enc g) = "tuple" := rfl
  have t1 : (tyName (enc g) == "tuple") = true := by rw [t0]; decide
  have t2 : tyName (enc g.c) = "tuple" := rfl
  have t3 : (tyName (enc g.c) == "tuple") = true := by rw [t2]; decide
  have key : OkM KU 0 (retM none (m_garden_error (g, ()))) fun _ => True := by
    simp only [m_garden_error, nfK, nf2, nf3, nf4, nf7, enumM, t1, t3, place_ok, number_ok, ew]
    refine ob_rt ?_
    refine ob_any (ob_pure ⟨_, rfl, trivial⟩) (ob_any (ob_pure ⟨_, rfl, trivial⟩) (ob_any (ob_pure ⟨_, rfl, trivial⟩) (ob_any (ob_pure ⟨_, rfl, trivial⟩) ?_)))
    cases w with
    | none => exact ob_pure ⟨_, rfl, trivial⟩
    | some w => exact ob_pure ⟨_, rfl, trivial⟩
  exact f_any key
theorem garden_any (g : Gdn) (h : (unTup g.c).length ≤ 1000) : ∃ r, f_is_garden (g, ()) = some r := by
  obtain ⟨r, e⟩ := error_ok g h
  refine ⟨r.isNone, f_of ?_⟩
  simp only [m_is_garden, nf1, nf2, nf3, nf4, nf7, e]
end PP

namespace PP
open PySem L2 PL PL.Enc
def m_packed (u : (List (Int × Int)) × Int × Unit) : M Unit (Fl Unit Empty ((List ((List (Int × Int)) × Int)) × (List (Int × Int)))) :=
  (seqM (setS (pairM (pureM ([] : (List ((List (Int × Int)) × Int)))) (pairM (lstM (pureM ([] : List (Int × Int)))) (pairM (pureM u.2.1) (pureM ()))))) (fun uv1 : ((List ((List (Int × Int)) × Int)) × (List (Int × Int)) × Int × Unit) => (seqM (forS (pureM u.1) (fun (s2 : ((List ((List (Int × Int)) × Int)) × (List (Int × Int)) × Int)) (x3 : (Int × Int)) => (seqM (setS (pureM x3.2)) (fun rest4 : Int => (seqM (iteM (neDM (pureM s2.2.1) (lstM (pureM ([] : List (Int × Int))))) (seqM (setS (fun2M (fun i j : Int => some (minI i j)) (pureM s2.2.2) (pureM rest4))) (fun part5 : Int => (seqM (setS (pairM (lstM (appM (pureM s2.2.1) (consM (tup2M (pureM x3.1) (pureM part5)) (pureM ([] : List (Int × Int)))))) (pairM (subM (pureM s2.2.2) (pureM part5)) (pairM (subM (pureM rest4) (pureM part5)) (pureM ()))))) (fun uv6 : ((List (Int × Int)) × Int × Int × Unit) => (seqM (iteM (eqIM (pureM uv6.2.1) (pureM (0 : Int))) (seqM (appS s2.1 (tup2M (pureM uv6.1) (pureM (1 : Int)))) (fun y7 : ((List (Int × Int)) × Int) => (seqM (setS (pairM (lstM (pureM ([] : List (Int × Int)))) (pairM (pureM u.2.1) (pureM ())))) (fun uv8 : ((List (Int × Int)) × Int × Unit) => (pureM (.nx ((s2.1 ++ [y7]), uv8.1, uv8.2.1))))))) (pureM (.nx (s2.1, uv6.1, uv6.2.1)))) (fun s9 : ((List ((List (Int × Int)) × Int)) × (List (Int × Int)) × Int) => (pureM (.nx (s9.1, s9.2.1, s9.2.2, uv6.2.2.1))))))))) (pureM (.nx (s2.1, s2.2.1, s2.2.2, rest4)))) (fun s10 : ((List ((List (Int × Int)) × Int)) × (List (Int × Int)) × Int × Int) => (seqM (iteM (geM (pureM s10.2.2.2) (pureM u.2.1)) (seqM (appS s10.1 (tup2M (lstM (consM (tup2M (pureM x3.1) (pureM u.2.1)) (pureM ([] : List (Int × Int))))) (divM (pureM s10.2.2.2) (pureM u.2.1)))) (fun y11 : ((List (Int × Int)) × Int) => (pureM (.nx ((s10.1 ++ [y11])))))) (pureM (.nx (s10.1)))) (fun s12 : ((List ((List (Int × Int)) × Int))) => (seqM (iteM (gtM (modM (pureM s10.2.2.2) (pureM u.2.1)) (pureM (0 : Int))) (seqM (setS (pairM (lstM (consM (tup2M (pureM x3.1) (modM (pureM s10.2.2.2) (pureM u.2.1))) (pureM ([] : List (Int × Int))))) (pairM (subM (pureM u.2.1) (modM (pureM s10.2.2.2) (pureM u.2.1))) (pureM ())))) (fun uv13 : ((List (Int × Int)) × Int × Unit) => (pureM (.nx (uv13.1, uv13.2.1))))) (pureM (.nx (s10.2.1, s10.2.2.1)))) (fun s14 : ((List (Int × Int)) × Int) => (pureM (.nx (s12, s14.1, s14.2)))))))))))) (uv1.1, uv1.2.1, uv1.2.2.1)) (fun s15 : ((List ((List (Int × Int)) × Int)) × (List (Int × Int)) × Int) => (retS (tup2M (pureM s15.1) (pureM s15.2.1)))))))
def f_packed (u : (List (Int × Int)) × Int × Unit) : Option ((List ((List (Int × Int)) × Int)) × (List (Int × Int))) := (retM none (m_packed u) ()).map (·.1)
def m_litres_in (u : (List (Int × Int)) × Unit) : M Unit (Fl Unit Empty Int) :=
  (retS (fun1M (fun l : List Int => some l.sum) (compM (pureM u.1) (fun x1 : (Int × Int) => (pureM true)) (fun x1 : (Int × Int) => (pureM x1.2)))))
def f_litres_in (u : (List (Int × Int)) × Unit) : Option Int := (retM none (m_litres_in u) ()).map (·.1)
def m_put_together (u : (List (Int × Int)) × (List (Int × Int)) × Int × Unit) : M Unit (Fl Unit Empty (List (List (Int × Int)))) :=
  (seqM (iteM (leM (addM (callF f_litres_in (pairM (pureM u.1) (pureM ()))) (callF f_litres_in (pairM (pureM u.2.1) (pureM ())))) (pureM u.2.2.1)) (retS (compM (lstM (consM (lstM (appM (pureM u.1) (appM (pureM u.2.1) (pureM ([] : List (Int × Int)))))) (pureM ([] : List (List (Int × Int)))))) (fun x1 : (List (Int × Int)) => (neDM (pureM x1) (lstM (pureM ([] : List (Int × Int)))))) (fun x1 : (List (Int × Int)) => (pureM x1)))) (pureM (.nx ()))) (fun s2 : Unit => (retS (lstM (consM (pureM u.1) (consM (pureM u.2.1) (pureM ([] : List (List (Int × Int))))))))))
def f_put_together (u : (List (Int × Int)) × (List (Int × Int)) × Int × Unit) : Option (List (List (Int × Int))) := (retM none (m_put_together u) ()).map (·.1)
def m_best_plan (u : (T3 Int Int (Tup (Int × Int))) × Unit) : M Unit (Fl Unit Empty (Tup ((Tup (Int × Int)) × Int))) :=
  (seqM (setS (pureM u.1)) (fun y1 : (T3 Int Int (Tup (Int × Int))) => (seqM (setS (callF f_packed (pairM (compM (mapM1 unTup (pureM y1.c)) (fun x2 : (Int × Int) => (ltM (mapM1 (fun y : (Int × Int) => y.1) (pureM x2)) (pureM y1.a))) (fun x2 : (Int × Int) => (pureM x2))) (pairM (pureM y1.b) (pureM ()))))) (fun y3 : ((List ((List (Int × Int)) × Int)) × (List (Int × Int))) => (seqM (setS (callF f_packed (pairM (compM (mapM1 unTup (mapM1 revT (pureM y1.c))) (fun x4 : (Int × Int) => (gtM (mapM1 (fun y : (Int × Int) => y.1) (pureM x4)) (pureM y1.a))) (fun x4 : (Int × Int) => (pureM x4))) (pairM (pureM y1.b) (pureM ()))))) (fun y5 : ((List ((List (Int × Int)) × Int)) × (List (Int × Int))) => (seqM (setS (lstM (appM (pureM y3.1) (appM (pureM y5.1) (pureM ([] : List ((List (Int × Int)) × Int))))))) (fun found6 : (List ((List (Int × Int)) × Int)) => (seqM (setS (callF f_litres_in (pairM (compM (mapM1 unTup (pureM y1.c)) (fun x8 : (Int × Int) => (eqIM (mapM1 (fun y : (Int × Int) => y.1) (pureM x8)) (pureM y1.a))) (fun x8 : (Int × Int) => (pureM x8))) (pureM ())))) (fun wet7 : Int => (seqM (forS (callF f_put_together (pairM (pureM y3.2) (pairM (pureM y5.2) (pairM (pureM y1.b) (pureM ()))))) (fun (s9 : ((List ((List (Int × Int)) × Int)) × Int)) (x10 : (List (Int × Int))) => (seqM (setS (fun2M (fun i j : Int => some (minI i j)) (pureM s9.2) (subM (pureM y1.b) (callF f_litres_in (pairM (pureM x10) (pureM ())))))) (fun part11 : Int => (seqM (appS s9.1 (tup2M (lstM (appM (pureM x10) (appM (cutM (lstM (consM (tup2M (pureM y1.a) (pureM part11)) (pureM ([] : List (Int × Int))))) (pureM none) (mapM1 some (pureM part11))) (pureM ([] : List (Int × Int)))))) (pureM (1 : Int)))) (fun y12 : ((List (Int × Int)) × Int) => (seqM (setS (subM (pureM s9.2) (pureM part11))) (fun wet13 : Int => (pureM (.nx ((s9.1 ++ [y12]), wet13)))))))))) (found6, wet7)) (fun s14 : ((List ((List (Int × Int)) × Int)) × Int) => (seqM (setS (callF f_packed (pairM (iteM (gtM (pureM s14.2) (pureM (0 : Int))) (lstM (consM (tup2M (pureM y1.a) (pureM s14.2)) (pureM ([] : List (Int × Int))))) (lstM (pureM ([] : List (Int × Int))))) (pairM (pureM y1.b) (pureM ()))))) (fun y15 : ((List ((List (Int × Int)) × Int)) × (List (Int × Int))) => (seqM (setS (lstM (appM (pureM s14.1) (appM (pureM y15.1) (appM (cutM (lstM (consM (tup2M (pureM y15.2) (pureM (1 : Int))) (pureM ([] : List ((List (Int × Int)) × Int))))) (pureM none) (mapM1 some (fun1M (fun l : (List (Int × Int)) => some (l.length : Int)) (pureM y15.2)))) (pureM ([] : List ((List (Int × Int)) × Int)))))))) (fun found16 : (List ((List (Int × Int)) × Int)) => (retS (fun1M (fun l : (List ((Tup (Int × Int)) × Int)) => some (toTup l)) (sortM (compM (pureM found16) (fun x17 : ((List (Int × Int)) × Int) => (pureM true)) (fun x17 : ((List (Int × Int)) × Int) => (tup2M (fun1M (fun l : (List (Int × Int)) => some (toTup l)) (sortM (pureM x17.1))) (pureM x17.2)))))))))))))))))))))))
def f_best_plan (u : (T3 Int Int (Tup (Int × Int))) × Unit) : Option (Tup ((Tup (Int × Int)) × Int)) := (retM none (m_best_plan u) ()).map (·.1)
def m_certificate (u : (T3 Int Int (Tup (Int × Int))) × Int × Unit) : M Unit (Fl Unit Empty (Str × PyData)) :=
  (seqM (iteM (leM (callF f_least_way (pairM (pureM u.1) (pureM ()))) (pureM u.2.1)) (retS (tup2M (pureM ("plan" : Str)) (mapM1 enc (callF f_best_plan (pairM (pureM u.1) (pureM ())))))) (pureM (.nx ()))) (fun s1 : Unit => (retS (tup2M (pureM ("counts" : Str)) (mapM1 enc (callF f_counts_of (pairM (pureM u.1) (pureM ()))))))))
def f_certificate (u : (T3 Int Int (Tup (Int × Int))) × Int × Unit) : Option (Str × PyData) := (retM none (m_certificate u) ()).map (·.1)
abbrev Rws := List (Int × Int)
abbrev Itms := List (Rws × Int)
def stepA (can : Int) (s : Itms × Rws × Int) (b : Int × Int) : Itms × Rws × Int × Int :=
  if s.2.1 = [] then (s.1, s.2.1, s.2.2, b.2)
  else if s.2.2 - minI s.2.2 b.2 = 0 then (s.1 ++ [(s.2.1 ++ [(b.1, minI s.2.2 b.2)], 1)], [], can, b.2 - minI s.2.2 b.2)
  else (s.1, s.2.1 ++ [(b.1, minI s.2.2 b.2)], s.2.2 - minI s.2.2 b.2, b.2 - minI s.2.2 b.2)
def stepF (can : Int) (b : Int × Int) (t : Itms × Rws × Int × Int) : Itms := if can ≤ t.2.2.2 then t.1 ++ [([(b.1, can)], t.2.2.2 / can)] else t.1
def stepB (can : Int) (b : Int × Int) (t : Itms × Rws × Int × Int) : Itms × Rws × Int :=
  if 0 < t.2.2.2 % can then (stepF can b t, [(b.1, t.2.2.2 % can)], can - t.2.2.2 % can) else (stepF can b t, t.2.1, t.2.2.1)
def stepP (can : Int) (s : Itms × Rws × Int) (b : Int × Int) : Itms × Rws × Int := stepB can b (stepA can s b)
def packS (rows : Rws) (can : Int) : Itms × Rws × Int := rows.foldl (stepP can) ([], [], can)
def packL (rows : Rws) (can : Int) : Itms × Rws := ((packS rows can).1, (packS rows can).2.1)
theorem stepP_len (can : Int) (s : Itms × Rws × Int) (b : Int × Int) : (stepP can s b).1.length ≤ s.1.length + 2 ∧ (stepP can s b).2.1.length ≤ s.2.1.length + 1 := by
  unfold stepP stepB stepF stepA
  repeat' split
  all_goals simp_all <;> omega
theorem packed_ok {rows : Rws} {can : Int} (hc : 1 ≤ can ∧ can ≤ 1000000000000) (hl : rows.length ≤ 1000) : f_packed (rows, can, ()) = some (packL rows can) := by
  refine f_ok ?_
  show OkM KU 0 (retM none (m_packed (rows, can, ()))) _
  simp only [m_packed, nfK, nf2, nf3, nf4, nf7]
  refine ob_guard (lenOk_le (by simp)) ?_
  refine ob_lp 1000 0 0 (fun pre s => s = pre.foldl (stepP can) ([], [], can) ∧ s.1.length ≤ 2 * pre.length ∧ s.2.1.length ≤ pre.length) hl (by omega) ⟨rfl, Nat.zero_le _, Nat.le_refl _⟩ (fun pre b post s e hs => ?_) fun s hs => ?_
  · have pl : pre.length ≤ 1000 := by
      have := congrArg List.length e
      rw [List.length_append] at this
      omega
    obtain ⟨h0, h1, h2⟩ := hs
    have fin : stepP can s b = (pre ++ [b]).foldl (stepP can) ([], [], can) ∧ (stepP can s b).1.length ≤ 2 * (pre ++ [b]).length ∧ (stepP can s b).2.1.length ≤ (pre ++ [b]).length := by
      have := stepP_len can s b
      rw [List.foldl_append, ← h0, List.length_append, List.length_singleton]
      exact ⟨rfl, by omega, by omega⟩
    refine ob_guard (lenOk_le (by simp)) (ob_guard shp_two ?_)
    -- the rest of the loop, behind stepA
    have back : ∀ t : Itms × Rws × Int × Int, t = stepA can s b → t.1.length ≤ 3000 → OkM KU 0
        (seqM (if decide (can ≤ t.2.2.2) = true then guardM (lenOk [(b.1, can)].length) (guardM (divOk t.2.2.2 can) (guardM (lenOk (t.1.length + 1)) (pureM (Fl.nx (t.1 ++ [([(b.1, can)], t.2.2.2 / can)]))))) else pureM (Fl.nx t.1)) fun s12 =>
          guardM (modOk t.2.2.2 can) (seqM (if decide (0 < t.2.2.2 % can) = true then guardM (modOk t.2.2.2 can) (guardM (lenOk [(b.1, t.2.2.2 % can)].length) (guardM (modOk t.2.2.2 can) (pureM (Fl.nx ([(b.1, t.2.2.2 % can)], can - t.2.2.2 % can))))) else pureM (Fl.nx (t.2.1, t.2.2.1))) fun s14 => (pureM (Fl.nx (s12, s14.1, s14.2)) : M Unit (Fl (Itms × Rws × Int) (Itms × Rws × Int) (Itms × Rws))))) fun r => r = .nx (stepP can s b) := fun t ht tl => by
      have md : modOk t.2.2.2 can := by unfold modOk; omega
      have key : ∀ f : Itms, f = stepF can b t → OkM KU 0 (guardM (modOk t.2.2.2 can) (seqM (if decide (0 < t.2.2.2 % can) = true then guardM (modOk t.2.2.2 can) (guardM (lenOk [(b.1, t.2.2.2 % can)].length) (guardM (modOk t.2.2.2 can) (pureM (Fl.nx ([(b.1, t.2.2.2 % can)], can - t.2.2.2 % can))))) else pureM (Fl.nx (t.2.1, t.2.2.1))) fun s14 => (pureM (Fl.nx (f, s14.1, s14.2)) : M Unit (Fl (Itms × Rws × Int) (Itms × Rws × Int) (Itms × Rws))))) fun r => r = .nx (stepP can s b) := fun f hf => by
        refine ob_guard md ?_
        unfold stepP stepB
        rw [← ht]
        by_cases c : 0 < t.2.2.2 % can
        · rw [if_pos (decide_eq_true c), if_pos c]
          simp only [nfK]
          exact ob_guard md (ob_guard (lenOk_le (by simp)) (ob_guard md (ob_pure (by rw [hf]))))
        · rw [if_neg (by rw [decide_eq_false c]; exact Bool.false_ne_true), if_neg c]
          simp only [nfK]
          exact ob_pure (by rw [hf])
      by_cases c : can ≤ t.2.2.2
      · rw [if_pos (decide_eq_true c)]
        simp only [nfK]
        refine ob_guard (lenOk_le (by simp)) (ob_guard ⟨by omega, wide_of (by omega) (by omega)⟩ (ob_guard (lenOk_le (by omega)) (key _ ?_)))
        unfold stepF
        rw [if_pos c]
      · rw [if_neg (by rw [decide_eq_false c]; exact Bool.false_ne_true)]
        simp only [nfK]
        refine key _ ?_
        unfold stepF
        rw [if_neg c]
    refine OkM.mono (Q := fun r => r = .nx (stepP can s b)) ?_ (Nat.le_refl _) fun r hr => by
      rw [hr]
      exact fin
    by_cases c : s.2.1 = []
    · have ev : PyData.eqv (enc s.2.1) (enc ([] : Rws)) = true := (LE.same s.2.1 []).mpr c
      rw [ev]
      simp only [nfK, Bool.not_true, Bool.false_eq_true, if_false]
      exact back (s.1, s.2.1, s.2.2, b.2) (by unfold stepA; rw [if_pos c]) (by show s.1.length ≤ _; omega)
    · have ev : PyData.eqv (enc s.2.1) (enc ([] : Rws)) = false := eqv_no c
      rw [ev]
      simp only [nfK, Bool.not_false, if_true]
      refine ob_guard (lenOk_le (by rw [List.length_append, List.length_singleton]; omega)) ?_
      by_cases d : s.2.2 - minI s.2.2 b.2 = 0
      · rw [if_pos (decide_eq_true d)]
        simp only [nfK]
        refine ob_guard (lenOk_le (by omega)) (ob_guard (lenOk_le (by simp)) ?_)
        exact back (s.1 ++ [(s.2.1 ++ [(b.1, minI s.2.2 b.2)], 1)], [], can, b.2 - minI s.2.2 b.2) (by unfold stepA; rw [if_neg c, if_pos d]) (by show (s.1 ++ _).length ≤ _; rw [List.length_append, List.length_singleton]; omega)
      · rw [if_neg (by rw [decide_eq_false d]; exact Bool.false_ne_true)]
        simp only [nfK]
        exact back (s.1, s.2.1 ++ [(b.1, minI s.2.2 b.2)], s.2.2 - minI s.2.2 b.2, b.2 - minI s.2.2 b.2) (by unfold stepA; rw [if_neg c, if_neg d]) (by show s.1.length ≤ _; omega)
  · refine ob_pure ?_
    unfold packL packS
    rw [← hs.1]
theorem pack_len (can : Int) : ∀ (rows : Rws) (s : Itms × Rws × Int), (rows.foldl (stepP can) s).1.length ≤ s.1.length + 2 * rows.length ∧ (rows.foldl (stepP can) s).2.1.length ≤ s.2.1.length + rows.length
  | [], s => ⟨Nat.le_refl _, Nat.le_refl _⟩
  | b :: rows, s => by
    have h1 := stepP_len can s b
    have h2 := pack_len can rows (stepP can s b)
    rw [List.foldl_cons, List.length_cons]
    omega
theorem packL_len (rows : Rws) (can : Int) : (packL rows can).1.length ≤ 2 * rows.length ∧ (packL rows can).2.length ≤ rows.length := by
  have := pack_len can rows ([], [], can)
  unfold packL packS
  simpa using this
def sumR (l : Rws) : Int := (l.map (·.2)).sum
theorem in_ok {l : Rws} (h : l.length ≤ 10000) : f_litres_in (l, ()) = some (sumR l) := by
  refine f_of ?_
  simp only [m_litres_in, nf1, nf2, nf3, nf4]
  rw [guard_true (lenOk_le (by omega))]
  rfl
def togL (a b : Rws) (can : Int) : List Rws := if sumR a + sumR b ≤ can then (if a ++ b = [] then [] else [a ++ b]) else [a, b]
theorem together_ok {a b : Rws} {can : Int} (ha : a.length ≤ 1000) (hb : b.length ≤ 1000) : f_put_together (a, b, can, ()) = some (togL a b can) := by
  refine f_ok ?_
  show OkM KU 0 (retM none (m_put_together (a, b, can, ()))) _
  simp only [m_put_together, nfK, nf2, nf3, nf4, nf7, in_ok (show a.length ≤ 10000 by omega), in_ok (show b.length ≤ 10000 by omega)]
  unfold togL
  by_cases c : sumR a + sumR b ≤ can
  · rw [if_pos (decide_eq_true c), if_pos c]
    simp only [nfK]
    have ll : (a ++ b).length ≤ 2000 := by
      rw [List.length_append]
      omega
    refine ob_guard (lenOk_le (by omega)) (ob_guard (lenOk_le (by simp)) (ob_guard (lenOk_le (by simp)) ?_))
    refine ob_filter (q := fun x => !decide (x = [])) (g := fun x => x) (fun x _ => ?_) (fun _ _ _ => rfl) (ob_pure ?_)
    · rw [guard_true (lenOk_le (by simp)), guard_true shp_two]
      by_cases d : x = []
      · rw [decide_eq_true d, (LE.same x []).mpr d]
      · rw [decide_eq_false d, eqv_no d]
    · by_cases d : a ++ b = []
      · rw [if_pos d, List.filter_cons_of_neg (by simp only [decide_eq_true d]; decide)]
        rfl
      · rw [if_neg d, List.filter_cons_of_pos (by simp only [decide_eq_false d]; decide)]
        rfl
  · rw [if_neg (by rw [decide_eq_false c]; exact Bool.false_ne_true), if_neg c]
    simp only [nfK]
    exact ob_guard (lenOk_le (by simp)) (ob_pure rfl)
theorem tog_len (a b : Rws) (can : Int) : (togL a b can).length ≤ 2 ∧ ∀ x ∈ togL a b can, x.length ≤ a.length + b.length := by
  unfold togL
  split
  · split
    · exact ⟨Nat.zero_le _, fun x hx => by cases hx⟩
    · refine ⟨by simp, fun x hx => ?_⟩
      rw [List.mem_singleton.mp hx, List.length_append]
      exact Nat.le_refl _
  · refine ⟨by simp, fun x hx => ?_⟩
    simp only [List.mem_cons, List.not_mem_nil, or_false] at hx
    rcases hx with rfl | rfl <;> omega
/-- the litres at the tap fill what is left -/
def fillP (tap can : Int) (s : Itms × Int) (rows : Rws) : Itms × Int :=
  (s.1 ++ [(rows ++ cutL none (some (minI s.2 (can - sumR rows))) [(tap, minI s.2 (can - sumR rows))], 1)], s.2 - minI s.2 (can - sumR rows))
def lefts (g : Gdn) : Rws := (unTup g.c).filter fun x => decide (x.1 < g.a)
def rights (g : Gdn) : Rws := (unTup g.c).reverse.filter fun x => decide (g.a < x.1)
def wetG (g : Gdn) : Int := sumR ((unTup g.c).filter fun x => decide (x.1 = g.a))
def fillG (g : Gdn) : Itms × Int := (togL (packL (lefts g) g.b).2 (packL (rights g) g.b).2 g.b).foldl (fillP g.a g.b) ((packL (lefts g) g.b).1 ++ (packL (rights g) g.b).1, wetG g)
def wetRows (g : Gdn) : Rws := if 0 < (fillG g).2 then [(g.a, (fillG g).2)] else []
def planL (g : Gdn) : Itms := (fillG g).1 ++ ((packL (wetRows g) g.b).1 ++ cutL none (some ((packL (wetRows g) g.b).2.length : Int)) [((packL (wetRows g) g.b).2, 1)])
def planG (g : Gdn) : Tup (Tup (Int × Int) × Int) := toTup (sortD ((planL g).map fun x => (toTup (sortD x.1), x.2)))
theorem cutL_len {A : Type} (o : Option Int) (l : List A) : (cutL none o l).length ≤ l.length := by
  unfold cutL
  rw [List.length_take, List.length_drop]
  omega
theorem best_plan_ok {g : Gdn} (h : Gok g) : f_best_plan (g, ()) = some (planG g) := by
  have hl := h.len
  have hc := h.can
  have l1 : (lefts g).length ≤ 40 := Nat.le_trans (List.length_filter_le _ _) hl
  have l2 : (rights g).length ≤ 40 := Nat.le_trans (List.length_filter_le _ _) (by rw [List.length_reverse]; exact hl)
  have p1 := packL_len (lefts g) g.b
  have p2 := packL_len (rights g) g.b
  have tg := tog_len (packL (lefts g) g.b).2 (packL (rights g) g.b).2 g.b
  have wl : (wetRows g).length ≤ 1 := by
    unfold wetRows
    split <;> simp
  have p3 := packL_len (wetRows g) g.b
  refine f_ok ?_
  show OkM KU 0 (retM none (m_best_plan (g, ()))) _
  simp only [m_best_plan, nfK, nf2, nf3, nf4, nf7]
  have ur : unTup (revT g.c) = (unTup g.c).reverse := rfl
  refine ob_guard (lenOk_le (by omega)) ?_
  refine ob_filter (q := fun x : Int × Int => decide (x.1 < g.a)) (g := fun x => x) (fun _ _ => rfl) (fun _ _ _ => rfl) ?_
  rw [show ((unTup g.c).filter fun x => decide (x.1 < g.a)).map (fun x => x) = lefts g from List.map_id' _, packed_ok hc (by omega)]
  simp only [nfK]
  refine ob_guard (lenOk_le (by rw [ur, List.length_reverse]; omega)) ?_
  rw [ur]
  refine ob_filter (q := fun x : Int × Int => decide (g.a < x.1)) (g := fun x => x) (fun _ _ => rfl) (fun _ _ _ => rfl) ?_
  rw [show ((unTup g.c).reverse.filter fun x => decide (g.a < x.1)).map (fun x => x) = rights g from List.map_id' _, packed_ok hc (by omega)]
  simp only [nfK]
  refine ob_guard (lenOk_le (by rw [List.length_append]; omega)) (ob_guard (lenOk_le (by omega)) ?_)
  refine ob_filter (q := fun x : Int × Int => decide (x.1 = g.a)) (g := fun x => x) (fun _ _ => rfl) (fun _ _ _ => rfl) ?_
  rw [show ((unTup g.c).filter fun x => decide (x.1 = g.a)).map (fun x => x) = (unTup g.c).filter fun x => decide (x.1 = g.a) from List.map_id' _, in_ok (Nat.le_trans (List.length_filter_le _ _) (by omega)), together_ok (by omega) (by omega)]
  simp only [nfK]
  refine ob_lp 2 0 0 (fun pre s => s = pre.foldl (fillP g.a g.b) ((packL (lefts g) g.b).1 ++ (packL (rights g) g.b).1, wetG g) ∧ s.1.length ≤ 160 + pre.length) tg.1 (by omega) ⟨rfl, by rw [List.length_append]; simp only [List.length_nil]; omega⟩ (fun pre rows post s e hs => ?_) fun s hs => ?_
  · have hr := tg.2 rows (by rw [e]; exact List.mem_append_right _ List.mem_cons_self)
    have pl : pre.length ≤ 2 := by
      have := congrArg List.length e
      rw [List.length_append] at this
      omega
    have cl := cutL_len (some (minI s.2 (g.b - sumR rows))) [(g.a, minI s.2 (g.b - sumR rows))]
    rw [in_ok (by omega)]
    simp only [nfK]
    have cl' : (cutL none (some (minI s.2 (g.b - sumR rows))) [(g.a, minI s.2 (g.b - sumR rows))]).length ≤ 1 := cl
    have sl := hs.2
    refine ob_guard (lenOk_le (by simp)) (ob_guard (lenOk_le (by rw [List.length_append]; omega)) (ob_guard (lenOk_le (by omega)) (ob_pure ⟨?_, ?_⟩)))
    · show fillP g.a g.b s rows = _
      rw [List.foldl_append, ← hs.1]
      rfl
    · show (s.1 ++ _).length ≤ _
      rw [List.length_append, List.length_append, List.length_singleton, List.length_singleton]
      omega
  · have e0 : s = fillG g := hs.1
    subst e0
    have fl := hs.2
    have tl := tg.1
    have ew : (if decide (0 < (fillG g).2) = true then guardM (lenOk [(g.a, (fillG g).2)].length) (pureM [(g.a, (fillG g).2)]) else guardM (lenOk ([] : Rws).length) (pureM []) : M Unit Rws) = pureM (wetRows g) := by
      unfold wetRows
      by_cases c : 0 < (fillG g).2
      · rw [if_pos (decide_eq_true c), if_pos c, guard_true (lenOk_le (by simp))]
      · rw [if_neg (by rw [decide_eq_false c]; exact Bool.false_ne_true), if_neg c, guard_true (lenOk_le (by simp))]
    rw [ew]
    simp only [nfK]
    rw [packed_ok hc (by omega)]
    simp only [nfK]
    have cl := cutL_len (some ((packL (wetRows g) g.b).2.length : Int)) [((packL (wetRows g) g.b).2, (1 : Int))]
    have cl' : (cutL none (some ((packL (wetRows g) g.b).2.length : Int)) [((packL (wetRows g) g.b).2, (1 : Int))]).length ≤ 1 := cl
    have ll : ((fillG g).1 ++ ((packL (wetRows g) g.b).1 ++ cutL none (some ((packL (wetRows g) g.b).2.length : Int)) [((packL (wetRows g) g.b).2, (1 : Int))])).length ≤ 1000 := by
      rw [List.length_append, List.length_append]
      omega
    refine ob_guard (lenOk_le (by simp)) (ob_guard (lenOk_le (by omega)) ?_)
    have eL : ∀ L : Itms, (lcM (fun _ : Rws × Int => (pureM true : M Unit Bool)) (fun x17 : Rws × Int => bindM (sortM (pureM x17.1)) fun a => pureM (toTup a, x17.2)) L) = pureM (L.map fun x => (toTup (sortD x.1), x.2)) := fun L => by
      have q : (lcM (fun _ : Rws × Int => (pureM true : M Unit Bool)) (fun x17 : Rws × Int => (pureM (toTup (sortD x17.1), x17.2) : M Unit (Tup (Int × Int) × Int))) L) = pureM (L.map fun x => (toTup (sortD x.1), x.2)) := by
        rw [lcM_pure (q := fun _ => true) (g := fun x : Rws × Int => (toTup (sortD x.1), x.2)) (fun _ _ => rfl) (fun _ _ _ => rfl), List.filter_eq_self.mpr fun _ _ => rfl]
      exact q
    rw [guard_true (lenOk_le (by omega)), eL]
    exact ob_pure rfl
theorem certificate_ok {g : Gdn} (h : Gok g) (n : Int) : f_certificate (g, n, ()) = some (if wayR 4000000 g ≤ n then (("plan" : Str), enc (planG g)) else (("counts" : Str), enc (toTup ((strG g).map fun t => cdiv t.c g.b)))) := by
  refine f_of ?_
  simp only [m_certificate, nf1, nf2, nf3, nf4, nf7, least_ok h (Int.le_refl 4000000), best_plan_ok h, counts_ok h]
  by_cases c : wayR 4000000 g ≤ n
  · rw [if_pos (decide_eq_true c), if_pos c]
  · rw [if_neg (by rw [decide_eq_false c]; exact Bool.false_ne_true), if_neg c]
end PP

namespace PP
open PySem L2 PL PL.Enc
def cnt (f : Rws → Int) (L : Itms) : Int := (L.map fun x => x.2 * f x.1).sum
theorem cnt_nil (f : Rws → Int) : cnt f [] = 0 := rfl
theorem cnt_app (f : Rws → Int) (L M : Itms) : cnt f (L ++ M) = cnt f L + cnt f M := by
  unfold cnt
  rw [List.map_append, List.sum_append]
theorem cnt_one (f : Rws → Int) (x : Rws × Int) : cnt f [x] = x.2 * f x.1 := by
  unfold cnt
  simp
theorem cnt_congr {f g : Rws → Int} {L : Itms} (h : ∀ x ∈ L, f x.1 = g x.1) : cnt f L = cnt g L := by
  unfold cnt
  rw [List.map_congr_left fun x hx => by rw [h x hx]]
theorem cnt_mul (c : Int) (f : Rws → Int) : ∀ L : Itms, cnt (fun r => c * f r) L = c * cnt f L
  | [] => by rw [cnt_nil, cnt_nil, Int.mul_zero]
  | x :: L => by
    have ih := cnt_mul c f L
    unfold cnt at ih ⊢
    rw [List.map_cons, List.sum_cons, List.map_cons, List.sum_cons, ih, Int.mul_add, Int.mul_left_comm]
theorem sumR_lit (l : Rws) : sumR l = litP (fun _ => true) l := (litP_all fun _ _ => rfl).symm
/-- the first place of a trip is not behind x -/
def fr (σ x : Int) : Rws → Int
  | [] => 0
  | b :: _ => if σ * b.1 ≤ x then 1 else 0
structure Good (σ : Int) (pre rows : Rws) : Prop where
  ne : rows ≠ []
  row : ∀ r ∈ rows, 1 ≤ r.2 ∧ ∃ b ∈ pre, b.1 = r.1
  asc : (rows.map fun r => σ * r.1).Pairwise (· < ·)
theorem Good.more {σ : Int} {pre rows : Rws} {b : Int × Int} (h : Good σ pre rows) : Good σ (pre ++ [b]) rows :=
  ⟨h.ne, fun r hr => by
    obtain ⟨h1, c, hc, e⟩ := h.row r hr
    exact ⟨h1, c, List.mem_append_left _ hc, e⟩, h.asc⟩
structure PInv (σ can : Int) (pre : Rws) (s : Itms × Rws × Int) : Prop where
  room : (s.2.1 = [] ∧ s.2.2 = can) ∨ (Good σ pre s.2.1 ∧ sumR s.2.1 = can - s.2.2 ∧ 0 < s.2.2 ∧ s.2.2 < can)
  lit : ∀ q, cnt (litP q) s.1 + litP q s.2.1 = litP q pre
  full : ∀ x ∈ s.1, 1 ≤ x.2 ∧ sumR x.1 = can ∧ Good σ pre x.1
  num : ∀ x, cnt (fr σ x) s.1 + fr σ x s.2.1 = cdiv (litP (fun p => decide (σ * p ≤ x)) pre) can
/-- behind the begun trip -/
structure AInv (σ can : Int) (pre : Rws) (b : Int × Int) (t : Itms × Rws × Int × Int) : Prop where
  rest : 0 ≤ t.2.2.2 ∧ t.2.2.2 ≤ b.2
  room : (t.2.1 = [] ∧ t.2.2.1 = can) ∨ (Good σ (pre ++ [b]) t.2.1 ∧ t.2.2.2 = 0 ∧ sumR t.2.1 = can - t.2.2.1 ∧ 0 < t.2.2.1 ∧ t.2.2.1 < can)
  lit : ∀ q, cnt (litP q) t.1 + litP q t.2.1 = litP q pre + if q b.1 = true then b.2 - t.2.2.2 else 0
  full : ∀ x ∈ t.1, 1 ≤ x.2 ∧ sumR x.1 = can ∧ Good σ (pre ++ [b]) x.1
  num : ∀ x, cnt (fr σ x) t.1 + fr σ x t.2.1 = cdiv (litP (fun p => decide (σ * p ≤ x)) pre) can
theorem fr_app {σ x : Int} {rows more : Rws} (h : rows ≠ []) : fr σ x (rows ++ more) = fr σ x rows := by
  cases rows with
  | nil => exact absurd rfl h
  | cons b r => rfl
theorem litP_one (q : Int → Bool) (p l : Int) : litP q [(p, l)] = if q p = true then l else 0 := by
  rw [litP_cons]
  show _ + 0 = _
  rw [Int.add_zero]
theorem stepA_inv {σ can : Int} {pre : Rws} {s : Itms × Rws × Int} {b : Int × Int} (h : PInv σ can pre s) (hb : ∀ c ∈ pre, σ * c.1 < σ * b.1) (hl : 1 ≤ b.2) : AInv σ can pre b (stepA can s b) := by
  unfold stepA
  rcases h.room with ⟨e, er⟩ | ⟨gd, es, r0, r1⟩
  · rw [if_pos e]
    refine ⟨⟨by show 0 ≤ b.2; omega, Int.le_refl _⟩, .inl ⟨e, er⟩, fun q => ?_, fun x hx => ?_, h.num⟩
    · show cnt (litP q) s.1 + litP q s.2.1 = litP q pre + if q b.1 = true then b.2 - b.2 else 0
      rw [h.lit q]
      split <;> omega
    · have := h.full x hx
      exact ⟨this.1, this.2.1, this.2.2.more⟩
  · have hp : 1 ≤ minI s.2.2 b.2 ∧ minI s.2.2 b.2 ≤ s.2.2 ∧ minI s.2.2 b.2 ≤ b.2 := by
      unfold minI
      split <;> omega
    have eq : minI s.2.2 b.2 = s.2.2 ∨ minI s.2.2 b.2 = b.2 := by
      unfold minI
      split <;> omega
    have gd2 : Good σ (pre ++ [b]) (s.2.1 ++ [(b.1, minI s.2.2 b.2)]) := by
      refine ⟨by simp, fun r hr => ?_, ?_⟩
      · rcases List.mem_append.mp hr with hr | hr
        · exact gd.more.row r hr
        · rw [List.mem_singleton.mp hr]
          exact ⟨hp.1, b, List.mem_append_right _ (List.mem_singleton_self _), rfl⟩
      · rw [List.map_append, List.pairwise_append]
        refine ⟨gd.asc, List.pairwise_singleton _ _, fun x hx y hy => ?_⟩
        obtain ⟨r, hr, rfl⟩ := List.mem_map.mp hx
        rw [List.map_cons, List.map_nil, List.mem_singleton] at hy
        subst hy
        obtain ⟨_, c, hc, e⟩ := gd.row r hr
        rw [← e]
        exact hb c hc
    have sm : sumR (s.2.1 ++ [(b.1, minI s.2.2 b.2)]) = can - s.2.2 + minI s.2.2 b.2 := by
      unfold sumR at es ⊢
      rw [List.map_append, List.sum_append, es]
      simp
    rw [if_neg gd.ne]
    by_cases z : s.2.2 - minI s.2.2 b.2 = 0
    · rw [if_pos z]
      refine ⟨⟨by show 0 ≤ b.2 - minI s.2.2 b.2; omega, by show b.2 - minI s.2.2 b.2 ≤ b.2; omega⟩, .inl ⟨rfl, rfl⟩, fun q => ?_, fun x hx => ?_, fun x => ?_⟩
      · show cnt (litP q) (s.1 ++ [_]) + litP q [] = _ + if q b.1 = true then b.2 - (b.2 - minI s.2.2 b.2) else 0
        rw [cnt_app, cnt_one, litP_app, litP_one, ← h.lit q]
        show _ + 1 * _ + 0 = _
        split <;> omega
      · rcases List.mem_append.mp hx with hx | hx
        · have := h.full x hx
          exact ⟨this.1, this.2.1, this.2.2.more⟩
        · rw [List.mem_singleton.mp hx]
          exact ⟨Int.le_refl _, by show sumR _ = can; rw [sm]; omega, gd2⟩
      · show cnt (fr σ x) (s.1 ++ [_]) + 0 = _
        rw [cnt_app, cnt_one, ← h.num x, fr_app gd.ne]
        show _ + 1 * _ + 0 = _
        omega
    · rw [if_neg z]
      have hmin : minI s.2.2 b.2 = b.2 := by omega
      refine ⟨⟨by show 0 ≤ b.2 - minI s.2.2 b.2; omega, by show b.2 - minI s.2.2 b.2 ≤ b.2; omega⟩, .inr ⟨gd2, by show b.2 - minI s.2.2 b.2 = 0; omega, by rw [sm]; show _ = can - (s.2.2 - minI s.2.2 b.2); omega, by show 0 < s.2.2 - minI s.2.2 b.2; omega, by show s.2.2 - minI s.2.2 b.2 < can; omega⟩, fun q => ?_, fun x hx => ?_, fun x => ?_⟩
      · show cnt (litP q) s.1 + litP q (s.2.1 ++ [_]) = _ + if q b.1 = true then b.2 - (b.2 - minI s.2.2 b.2) else 0
        rw [litP_app, litP_one, ← h.lit q]
        split <;> omega
      · have := h.full x hx
        exact ⟨this.1, this.2.1, this.2.2.more⟩
      · show cnt (fr σ x) s.1 + fr σ x (s.2.1 ++ [_]) = _
        rw [fr_app gd.ne, h.num x]
theorem fr_good {σ x : Int} {pre rows : Rws} (h : Good σ pre rows) (hx : ∀ c ∈ pre, σ * c.1 ≤ x) : fr σ x rows = 1 := by
  cases rows with
  | nil => exact absurd rfl h.ne
  | cons b r =>
    obtain ⟨_, c, hc, e⟩ := h.row b List.mem_cons_self
    show (if σ * b.1 ≤ x then (1 : Int) else 0) = 1
    rw [← e, if_pos (hx c hc)]
theorem cdiv_add {n c k : Int} (hc : 1 ≤ c) : cdiv (c * k + n) c = k + cdiv n c := by
  unfold cdiv
  rw [show c * k + n + c - 1 = (n + c - 1) + c * k by omega, Int.add_mul_ediv_left _ _ (by omega)]
  omega
theorem cdiv_parts {n c : Int} (hc : 1 ≤ c) (hn : 0 ≤ n) : cdiv n c = n / c + if 0 < n % c then 1 else 0 := by
  have e := Int.mul_ediv_add_emod n c
  have r0 := Int.emod_nonneg n (show c ≠ 0 by omega)
  have r1 := Int.emod_lt_of_pos n (show 0 < c by omega)
  have e2 : cdiv n c = cdiv (c * (n / c) + n % c) c := by rw [e]
  rw [e2, cdiv_add hc]
  congr 1
  rw [cdiv_big hc r0 (by omega)]
  by_cases z : n % c = 0
  · rw [if_pos z, if_neg (by omega)]
  · rw [if_neg z, if_pos (by omega)]
theorem stepB_inv {σ can : Int} {pre : Rws} {t : Itms × Rws × Int × Int} {b : Int × Int} (hcan : 1 ≤ can) (h : AInv σ can pre b t) (hb : ∀ c ∈ pre, σ * c.1 < σ * b.1) : PInv σ can (pre ++ [b]) (stepB can b t) := by
  have r0 := h.rest
  have e := Int.mul_ediv_add_emod t.2.2.2 can
  have m0 := Int.emod_nonneg t.2.2.2 (show can ≠ 0 by omega)
  have m1 := Int.emod_lt_of_pos t.2.2.2 (show 0 < can by omega)
  have d0 := Int.ediv_nonneg r0.1 (show 0 ≤ can by omega)
  have gone : ∀ l : Int, 1 ≤ l → Good σ (pre ++ [b]) [(b.1, l)] := fun l hl => ⟨by simp, fun r hr => by
    rw [List.mem_singleton.mp hr]
    exact ⟨hl, b, List.mem_append_right _ (List.mem_singleton_self _), rfl⟩, List.pairwise_singleton _ _⟩
  -- the trips that are full now
  have fl : ∀ x ∈ stepF can b t, 1 ≤ x.2 ∧ sumR x.1 = can ∧ Good σ (pre ++ [b]) x.1 := fun x hx => by
    unfold stepF at hx
    by_cases c : can ≤ t.2.2.2
    · rw [if_pos c] at hx
      rcases List.mem_append.mp hx with hx | hx
      · exact h.full x hx
      · rw [List.mem_singleton.mp hx]
        refine ⟨?_, by show can + 0 = can; omega, gone can hcan⟩
        show 1 ≤ t.2.2.2 / can
        exact (Int.le_ediv_iff_mul_le (by omega)).mpr (by omega)
    · rw [if_neg c] at hx
      exact h.full x hx
  have fq : ∀ f : Rws → Int, cnt f (stepF can b t) = cnt f t.1 + t.2.2.2 / can * f [(b.1, can)] := fun f => by
    unfold stepF
    by_cases c : can ≤ t.2.2.2
    · rw [if_pos c, cnt_app, cnt_one]
    · rw [if_neg c, Int.ediv_eq_zero_of_lt r0.1 (by omega), Int.zero_mul, Int.add_zero]
  -- what is wanted at most so far
  have less : ∀ x, σ * b.1 ≤ x → litP (fun p => decide (σ * p ≤ x)) pre = sumR pre := fun x hx => by
    rw [sumR_lit]
    exact litP_congr fun c hc => decide_eq_true (by have := hb c hc; omega)
  have all : ∀ x, σ * b.1 ≤ x → litP (fun p => decide (σ * p ≤ x)) (pre ++ [b]) = sumR pre + b.2 := fun x hx => by
    rw [litP_app, less x hx, show [b] = [(b.1, b.2)] from rfl, litP_one, if_pos (decide_eq_true hx)]
  have below : ∀ x, ¬ σ * b.1 ≤ x → litP (fun p => decide (σ * p ≤ x)) (pre ++ [b]) = litP (fun p => decide (σ * p ≤ x)) pre := fun x hx => by
    rw [litP_app, show [b] = [(b.1, b.2)] from rfl, litP_one, if_neg (by rw [decide_eq_false hx]; exact Bool.false_ne_true), Int.add_zero]
  have le_all : ∀ x, σ * b.1 ≤ x → ∀ c ∈ pre ++ [b], σ * c.1 ≤ x := fun x hx c hc => by
    rcases List.mem_append.mp hc with hc | hc
    · have := hb c hc
      omega
    · rw [List.mem_singleton.mp hc]
      exact hx
  have n1 : ∀ x, σ * b.1 ≤ x → cnt (fr σ x) t.1 = cnt (fun _ => 1) t.1 := fun x hx => cnt_congr fun y hy => fr_good (h.full y hy).2.2 (le_all x hx)
  have tot : can * cnt (fun _ => 1) t.1 + sumR t.2.1 = sumR pre + (b.2 - t.2.2.2) := by
    have := h.lit fun _ => true
    rw [if_pos rfl] at this
    rw [← cnt_mul, sumR_lit t.2.1, sumR_lit pre, ← this]
    congr 1
    exact cnt_congr fun y hy => by
      rw [Int.mul_one, ← sumR_lit, (h.full y hy).2.1]
  have fone : ∀ x l, fr σ x [(b.1, l)] = if σ * b.1 ≤ x then 1 else 0 := fun _ _ => rfl
  unfold stepB
  by_cases c : 0 < t.2.2.2 % can
  · rw [if_pos c]
    -- the begun trip was full or not there
    have eb : t.2.1 = [] ∧ t.2.2.1 = can := by
      rcases h.room with q | q
      · exact q
      · rw [q.2.1, Int.zero_emod] at c
        omega
    refine ⟨.inr ⟨gone _ (by omega), by show t.2.2.2 % can + 0 = can - (can - t.2.2.2 % can); omega, by show 0 < can - t.2.2.2 % can; omega, by show can - t.2.2.2 % can < can; omega⟩, fun q => ?_, fl, fun x => ?_⟩
    · show cnt (litP q) (stepF can b t) + litP q [(b.1, t.2.2.2 % can)] = _
      have := h.lit q
      rw [eb.1] at this
      rw [fq, litP_one, litP_one, litP_app, show [b] = [(b.1, b.2)] from rfl, litP_one]
      have z : litP q [] = 0 := rfl
      rw [z] at this
      by_cases w : q b.1 = true
      · rw [if_pos w] at this
        rw [if_pos w, if_pos w, if_pos w, Int.mul_comm]
        omega
      · rw [if_neg w] at this
        rw [if_neg w, if_neg w, if_neg w, Int.mul_zero]
        omega
    · show cnt (fr σ x) (stepF can b t) + fr σ x [(b.1, t.2.2.2 % can)] = _
      have nx := h.num x
      rw [eb.1] at nx
      have z : fr σ x [] = 0 := rfl
      rw [z, Int.add_zero] at nx
      rw [fq, fone, fone]
      by_cases w : σ * b.1 ≤ x
      · rw [if_pos w, all x w, n1 x w]
        rw [eb.1] at tot
        have z2 : sumR [] = 0 := rfl
        rw [show sumR pre + b.2 = can * cnt (fun _ => 1) t.1 + t.2.2.2 by omega, cdiv_add hcan, cdiv_parts hcan r0.1, if_pos c]
        omega
      · rw [if_neg w, below x w, nx]
        omega
  · rw [if_neg c]
    have mz : t.2.2.2 % can = 0 := by omega
    refine ⟨?_, fun q => ?_, fl, fun x => ?_⟩
    · rcases h.room with q | q
      · exact .inl q
      · exact .inr ⟨q.1, q.2.2⟩
    · show cnt (litP q) (stepF can b t) + litP q t.2.1 = _
      have := h.lit q
      rw [fq, litP_one, litP_app, show [b] = [(b.1, b.2)] from rfl, litP_one]
      by_cases w : q b.1 = true
      · rw [if_pos w] at this
        rw [if_pos w, if_pos w, Int.mul_comm]
        omega
      · rw [if_neg w] at this
        rw [if_neg w, if_neg w, Int.mul_zero]
        omega
    · show cnt (fr σ x) (stepF can b t) + fr σ x t.2.1 = _
      rw [fq, fone]
      by_cases w : σ * b.1 ≤ x
      · rw [if_pos w, all x w, n1 x w]
        rcases h.room with ⟨q, _⟩ | ⟨gd, rz, sm, q0, q1⟩
        · rw [q] at tot ⊢
          have z : sumR [] = 0 := rfl
          have z2 : fr σ x [] = 0 := rfl
          rw [show sumR pre + b.2 = can * cnt (fun _ => 1) t.1 + t.2.2.2 by omega, cdiv_add hcan, cdiv_parts hcan r0.1, if_neg c, z2]
          omega
        · rw [fr_good gd (le_all x w), show sumR pre + b.2 = can * cnt (fun _ => 1) t.1 + sumR t.2.1 by omega, cdiv_add hcan, cdiv_big hcan (by omega) (by omega), if_neg (by omega), rz, Int.zero_ediv]
          omega
      · rw [if_neg w, below x w, ← h.num x]
        omega
theorem pack_inv {σ can : Int} (hcan : 1 ≤ can) : ∀ (post pre : Rws) (s : Itms × Rws × Int), PInv σ can pre s → (∀ b ∈ post, 1 ≤ b.2) → ((pre ++ post).map fun b => σ * b.1).Pairwise (· < ·) → PInv σ can (pre ++ post) (post.foldl (stepP can) s)
  | [], pre, s, h, _, _ => by
    rw [List.append_nil]
    exact h
  | b :: post, pre, s, h, hl, ha => by
    have hb : ∀ c ∈ pre, σ * c.1 < σ * b.1 := fun c hc => by
      rw [List.map_append, List.pairwise_append] at ha
      exact ha.2.2 _ (List.mem_map.mpr ⟨c, hc, rfl⟩) _ (List.mem_map.mpr ⟨b, List.mem_cons_self, rfl⟩)
    have h1 : PInv σ can (pre ++ [b]) (stepP can s b) := stepB_inv hcan (stepA_inv h hb (hl b List.mem_cons_self)) hb
    have := pack_inv hcan post (pre ++ [b]) (stepP can s b) h1 (fun c hc => hl c (List.mem_cons_of_mem _ hc)) (by
      rw [List.append_assoc]
      exact ha)
    rw [List.append_assoc] at this
    exact this
theorem packed_inv {σ can : Int} (hcan : 1 ≤ can) {rows : Rws} (hl : ∀ b ∈ rows, 1 ≤ b.2) (ha : (rows.map fun b => σ * b.1).Pairwise (· < ·)) : PInv σ can rows (packS rows can) := by
  have := pack_inv (σ := σ) hcan rows [] ([], [], can) ⟨.inl ⟨rfl, rfl⟩, fun q => rfl, fun x hx => (by cases hx), fun x => by
    show (0 : Int) + 0 = cdiv 0 can
    rw [cdiv_zero hcan]
    rfl⟩ hl ha
  exact this
end PP

namespace PP
open PySem L2 PL PL.Enc
/-- gardens with rising places and litres at each bed -/
structure Asc (g : Gdn) : Prop where
  can : 1 ≤ g.b
  asc : ((unTup g.c).map (·.1)).Pairwise (· < ·)
  lit : ∀ b ∈ unTup g.c, 1 ≤ b.2
theorem lefts_inv {g : Gdn} (h : Asc g) : PInv 1 g.b (lefts g) (packS (lefts g) g.b) := by
  refine packed_inv h.can (fun b hb => h.lit b (List.mem_filter.mp hb).1) ?_
  rw [List.pairwise_map]
  refine List.Pairwise.filter _ ((List.pairwise_map.mp h.asc).imp fun {x y} q => ?_)
  omega
theorem rights_inv {g : Gdn} (h : Asc g) : PInv (-1) g.b (rights g) (packS (rights g) g.b) := by
  refine packed_inv h.can (fun b hb => h.lit b (List.mem_reverse.mp (List.mem_filter.mp hb).1)) ?_
  rw [List.pairwise_map]
  refine List.Pairwise.filter _ ?_
  rw [List.pairwise_reverse]
  exact (List.pairwise_map.mp h.asc).imp fun {x y} q => by omega
def oneL (g : Gdn) : Rws := (packS (lefts g) g.b).2.1
def oneR (g : Gdn) : Rws := (packS (rights g) g.b).2.1
def fullL (g : Gdn) : Itms := (packS (lefts g) g.b).1
def fullR (g : Gdn) : Itms := (packS (rights g) g.b).1
theorem left_place {g : Gdn} {b : Int × Int} (h : b ∈ lefts g) : b.1 < g.a ∧ b ∈ unTup g.c := ⟨of_decide_eq_true (List.mem_filter.mp h).2, (List.mem_filter.mp h).1⟩
theorem right_place {g : Gdn} {b : Int × Int} (h : b ∈ rights g) : g.a < b.1 ∧ b ∈ unTup g.c := ⟨of_decide_eq_true (List.mem_filter.mp h).2, List.mem_reverse.mp (List.mem_filter.mp h).1⟩
theorem one_sum {σ can : Int} {pre : Rws} {s : Itms × Rws × Int} (hc : 1 ≤ can) (h : PInv σ can pre s) : 0 ≤ sumR s.2.1 ∧ sumR s.2.1 < can ∧ (s.2.1 = [] ↔ sumR s.2.1 = 0) := by
  rcases h.room with ⟨e, _⟩ | ⟨gd, es, r0, r1⟩
  · rw [e]
    exact ⟨Int.le_refl _, by show (0 : Int) < can; omega, fun _ => rfl, fun _ => rfl⟩
  · exact ⟨by omega, by omega, fun z => absurd z gd.ne, fun z => by omega⟩
theorem cut1 {A : Type} (x : A) {w : Int} (hw : 0 ≤ w) : cutL none (some w) [x] = if 1 ≤ w then [x] else [] := by
  obtain ⟨n, rfl⟩ : ∃ n : Nat, w = n := ⟨w.toNat, by omega⟩
  rw [cutL_take]
  cases n with
  | zero => rfl
  | succ n =>
    rw [if_pos (by omega)]
    simp
/-- what fills up a trip from the tap -/
def wetIn (g : Gdn) (w : Int) : Rws := if 1 ≤ w then [(g.a, w)] else []
theorem wetIn_sum {g : Gdn} {w : Int} (hw : 0 ≤ w) : sumR (wetIn g w) = w := by
  unfold wetIn
  split
  · show w + 0 = w
    omega
  · show (0 : Int) = w
    omega
theorem sumR_app (l m : Rws) : sumR (l ++ m) = sumR l + sumR m := by
  unfold sumR
  rw [List.map_append, List.sum_append]
/-- the three ways in which the last trips of both sides go on -/
inductive Ends (g : Gdn) : Prop where
  | none (h1 : oneL g = []) (h2 : oneR g = []) (hf : fillG g = (fullL g ++ fullR g, wetG g))
  | both (w : Int) (hn : oneL g ++ oneR g ≠ []) (hs : sumR (oneL g) + sumR (oneR g) ≤ g.b) (hw : w = minI (wetG g) (g.b - (sumR (oneL g) + sumR (oneR g)))) (h0 : 0 ≤ w)
      (hf : fillG g = (fullL g ++ fullR g ++ [(oneL g ++ oneR g ++ wetIn g w, 1)], wetG g - w))
  | two (w v : Int) (h1 : oneL g ≠ []) (h2 : oneR g ≠ []) (hs : g.b < sumR (oneL g) + sumR (oneR g)) (hw : w = minI (wetG g) (g.b - sumR (oneL g))) (h0 : 0 ≤ w) (hv : v = minI (wetG g - w) (g.b - sumR (oneR g))) (h3 : 0 ≤ v)
      (hf : fillG g = (fullL g ++ fullR g ++ [(oneL g ++ wetIn g w, 1)] ++ [(oneR g ++ wetIn g v, 1)], wetG g - w - v))
theorem wet_nn {g : Gdn} (h : Asc g) : 0 ≤ wetG g := by
  unfold wetG
  rw [sumR_lit]
  have : ∀ l : Rws, (∀ b ∈ l, 1 ≤ b.2) → 0 ≤ litP (fun _ => true) l := fun l => by
    induction l with
    | nil => exact fun _ => Int.le_refl _
    | cons b l ih =>
      intro q
      rw [litP_cons, if_pos rfl]
      have := ih fun c hc => q c (List.mem_cons_of_mem _ hc)
      have := q b List.mem_cons_self
      omega
  exact this _ fun b hb => h.lit b (List.mem_filter.mp hb).1
theorem ends {g : Gdn} (h : Asc g) : Ends g := by
  have l := one_sum h.can (lefts_inv h)
  have r := one_sum h.can (rights_inv h)
  have w0 := wet_nn h
  have el : (packL (lefts g) g.b) = (fullL g, oneL g) := rfl
  have er : (packL (rights g) g.b) = (fullR g, oneR g) := rfl
  have l' : 0 ≤ sumR (oneL g) ∧ sumR (oneL g) < g.b ∧ (oneL g = [] ↔ sumR (oneL g) = 0) := l
  have r' : 0 ≤ sumR (oneR g) ∧ sumR (oneR g) < g.b ∧ (oneR g = [] ↔ sumR (oneR g) = 0) := r
  have mn : ∀ i j : Int, 0 ≤ i → 0 ≤ j → 0 ≤ minI i j := fun i j _ _ => by
    unfold minI
    split <;> omega
  have fl : ∀ (s : Itms × Int) (rows : Rws), 0 ≤ minI s.2 (g.b - sumR rows) → fillP g.a g.b s rows = (s.1 ++ [(rows ++ wetIn g (minI s.2 (g.b - sumR rows)), 1)], s.2 - minI s.2 (g.b - sumR rows)) := fun s rows q => by
    unfold fillP wetIn
    rw [cut1 _ q]
  by_cases c : sumR (oneL g) + sumR (oneR g) ≤ g.b
  · by_cases d : oneL g ++ oneR g = []
    · have d1 : oneL g = [] := List.append_eq_nil_iff.mp d |>.1
      have d2 : oneR g = [] := List.append_eq_nil_iff.mp d |>.2
      refine .none d1 d2 ?_
      unfold fillG togL
      rw [el, er]
      show (if sumR (oneL g) + sumR (oneR g) ≤ g.b then (if oneL g ++ oneR g = [] then [] else [oneL g ++ oneR g]) else [oneL g, oneR g]).foldl _ _ = _
      rw [if_pos c, if_pos d]
      rfl
    · have q := mn (wetG g) (g.b - (sumR (oneL g) + sumR (oneR g))) w0 (by omega)
      refine .both _ d c rfl q ?_
      unfold fillG togL
      rw [el, er]
      show (if sumR (oneL g) + sumR (oneR g) ≤ g.b then (if oneL g ++ oneR g = [] then [] else [oneL g ++ oneR g]) else [oneL g, oneR g]).foldl _ _ = _
      rw [if_pos c, if_neg d, List.foldl_cons, List.foldl_nil, fl _ _ (by rw [sumR_app]; exact q), sumR_app]
  · have q := mn (wetG g) (g.b - sumR (oneL g)) w0 (by omega)
    have q1 : minI (wetG g) (g.b - sumR (oneL g)) ≤ wetG g := by
      unfold minI
      split <;> omega
    have q2 := mn (wetG g - minI (wetG g) (g.b - sumR (oneL g))) (g.b - sumR (oneR g)) (by omega) (by omega)
    refine .two _ _ (fun z => ?_) (fun z => ?_) (by omega) rfl q rfl q2 ?_
    · have := l'.2.2.mp z
      omega
    · have := r'.2.2.mp z
      omega
    · unfold fillG togL
      rw [el, er]
      show (if sumR (oneL g) + sumR (oneR g) ≤ g.b then (if oneL g ++ oneR g = [] then [] else [oneL g ++ oneR g]) else [oneL g, oneR g]).foldl _ _ = _
      rw [if_neg c, List.foldl_cons, List.foldl_cons, List.foldl_nil, fl (fullL g ++ fullR g, wetG g) (oneL g) q, fl _ (oneR g) q2]
def tailG (g : Gdn) : Itms := (if g.b ≤ (fillG g).2 then [([(g.a, g.b)], (fillG g).2 / g.b)] else []) ++ if 0 < (fillG g).2 % g.b then [([(g.a, (fillG g).2 % g.b)], 1)] else []
theorem plan_eq {g : Gdn} (hc : 1 ≤ g.b) (hw : 0 ≤ (fillG g).2) : planL g = (fillG g).1 ++ tailG g := by
  unfold planL tailG wetRows
  congr 1
  generalize (fillG g).2 = w at hw
  have key : ∀ l : Rws, (l = [] ∨ ∃ x, l = [x]) → cutL none (some (l.length : Int)) [(l, (1 : Int))] = if l = [] then [] else [(l, 1)] := fun l hl => by
    rw [cut1 _ (by omega)]
    rcases hl with rfl | ⟨x, rfl⟩
    · rfl
    · rw [if_pos (by simp), if_neg (by simp)]
  by_cases c : 0 < w
  · rw [if_pos c]
    have e : packL [(g.a, w)] g.b = (if g.b ≤ w then [([(g.a, g.b)], w / g.b)] else [], if 0 < w % g.b then [(g.a, w % g.b)] else []) := by
      show ((stepB g.b (g.a, w) (stepA g.b ([], [], g.b) (g.a, w))).1, (stepB g.b (g.a, w) (stepA g.b ([], [], g.b) (g.a, w))).2.1) = _
      have ea : stepA g.b ([], [], g.b) (g.a, w) = ([], [], g.b, w) := rfl
      rw [ea]
      unfold stepB stepF
      show ((if 0 < w % g.b then _ else _ : Itms × Rws × Int).1, (if 0 < w % g.b then _ else _ : Itms × Rws × Int).2.1) = _
      by_cases d : 0 < w % g.b
      · rw [if_pos d, if_pos d]
        rfl
      · rw [if_neg d, if_neg d]
        rfl
    rw [e]
    show _ ++ cutL none (some ((if 0 < w % g.b then [(g.a, w % g.b)] else [] : Rws).length : Int)) [((if 0 < w % g.b then [(g.a, w % g.b)] else [] : Rws), (1 : Int))] = _
    by_cases d : 0 < w % g.b
    · rw [if_pos d, if_pos d, key _ (.inr ⟨_, rfl⟩), if_neg (show ¬ ([(g.a, w % g.b)] : Rws) = [] by simp)]
    · rw [if_neg d, if_neg d, key _ (.inl rfl), if_pos rfl]
  · have z : w = 0 := by omega
    subst z
    rw [if_neg c, if_neg (show ¬ g.b ≤ 0 by omega), if_neg (show ¬ 0 < (0 : Int) % g.b by rw [Int.zero_emod]; omega)]
    rfl
theorem cnt_tail {g : Gdn} (hc : 1 ≤ g.b) (hw : 0 ≤ (fillG g).2) (f : Rws → Int) : cnt f (tailG g) = (fillG g).2 / g.b * f [(g.a, g.b)] + if 0 < (fillG g).2 % g.b then f [(g.a, (fillG g).2 % g.b)] else 0 := by
  unfold tailG
  rw [cnt_app]
  congr 1
  · by_cases c : g.b ≤ (fillG g).2
    · rw [if_pos c, cnt_one]
    · rw [if_neg c, Int.ediv_eq_zero_of_lt hw (by omega), Int.zero_mul]
      rfl
  · split
    · rw [cnt_one, Int.one_mul]
    · rfl
theorem lits_tail {g : Gdn} (hc : 1 ≤ g.b) (hw : 0 ≤ (fillG g).2) (q : Int → Bool) : cnt (litP q) (tailG g) = if q g.a = true then (fillG g).2 else 0 := by
  rw [cnt_tail hc hw, litP_one, litP_one]
  have e := Int.mul_ediv_add_emod (fillG g).2 g.b
  have r := Int.emod_nonneg (fillG g).2 (show g.b ≠ 0 by omega)
  rw [Int.mul_comm] at e
  split
  · split <;> omega
  · rw [Int.mul_zero]
    split <;> rfl
theorem trips_tail {g : Gdn} (hc : 1 ≤ g.b) (hw : 0 ≤ (fillG g).2) : cnt (fun _ => 1) (tailG g) = cdiv (fillG g).2 g.b := by
  rw [cnt_tail hc hw, cdiv_parts hc hw, Int.mul_one]
theorem minI_le (i j : Int) : minI i j ≤ i ∧ minI i j ≤ j := by
  unfold minI
  split <;> omega
theorem wetIn_lit {g : Gdn} {w : Int} (hw : 0 ≤ w) (q : Int → Bool) : litP q (wetIn g w) = if q g.a = true then w else 0 := by
  unfold wetIn
  split
  · rw [litP_one]
  · have : w = 0 := by omega
    subst this
    show (0 : Int) = if q g.a = true then 0 else 0
    split <;> rfl
theorem fill_nn {g : Gdn} (h : Asc g) : 0 ≤ (fillG g).2 := by
  have w0 := wet_nn h
  rcases ends h with ⟨_, _, hf⟩ | ⟨w, _, _, hw, _, hf⟩ | ⟨w, v, _, _, _, hw, _, hv, _, hf⟩
  · rw [hf]
    exact w0
  · rw [hf]
    have := minI_le (wetG g) (g.b - (sumR (oneL g) + sumR (oneR g)))
    show 0 ≤ wetG g - w
    omega
  · rw [hf]
    have := minI_le (wetG g - w) (g.b - sumR (oneR g))
    show 0 ≤ wetG g - w - v
    omega
/-- the beds on the left, on the right and at the tap -/
theorem lit_three (g : Gdn) (q : Int → Bool) : litP q (unTup g.c) = litP q (lefts g) + litP q (rights g) + if q g.a = true then wetG g else 0 := by
  have er : litP q (rights g) = litP q ((unTup g.c).filter fun x => decide (g.a < x.1)) := litP_perm ((List.reverse_perm _).filter _)
  rw [er]
  unfold lefts wetG
  rw [sumR_lit]
  induction unTup g.c with
  | nil =>
    show (0 : Int) = 0 + 0 + if q g.a = true then 0 else 0
    split <;> rfl
  | cons b l ih =>
    rw [litP_cons, ih]
    rcases Int.lt_trichotomy b.1 g.a with c | c | c
    · rw [List.filter_cons_of_pos (by simpa using c), List.filter_cons_of_neg (by simp; omega), List.filter_cons_of_neg (by simp; omega), litP_cons]
      omega
    · rw [List.filter_cons_of_neg (by simp; omega), List.filter_cons_of_neg (by simp; omega), List.filter_cons_of_pos (by simpa using c), litP_cons, c]
      simp only [if_true]
      split <;> omega
    · rw [List.filter_cons_of_neg (by simp; omega), List.filter_cons_of_pos (by simpa using c), List.filter_cons_of_neg (by simp; omega), litP_cons]
      omega
/-- each bed gets what it wants -/
theorem plan_lit {g : Gdn} (h : Asc g) (q : Int → Bool) : cnt (litP q) (planL g) = litP q (unTup g.c) := by
  have l : cnt (litP q) (fullL g) + litP q (oneL g) = litP q (lefts g) := (lefts_inv h).lit q
  have r : cnt (litP q) (fullR g) + litP q (oneR g) = litP q (rights g) := (rights_inv h).lit q
  rw [plan_eq h.can (fill_nn h), cnt_app, lits_tail h.can (fill_nn h), lit_three]
  have z : litP q [] = 0 := rfl
  rcases ends h with ⟨h1, h2, hf⟩ | ⟨w, _, _, hw, h0, hf⟩ | ⟨w, v, _, _, _, hw, h0, hv, h3, hf⟩
  · rw [hf]
    show cnt (litP q) (fullL g ++ fullR g) + (if q g.a = true then wetG g else 0) = _
    rw [cnt_app]
    rw [h1, z] at l
    rw [h2, z] at r
    omega
  · rw [hf]
    show cnt (litP q) (fullL g ++ fullR g ++ [_]) + (if q g.a = true then wetG g - w else 0) = _
    rw [cnt_app, cnt_app, cnt_one, litP_app, litP_app, wetIn_lit h0]
    split <;> omega
  · rw [hf]
    show cnt (litP q) (fullL g ++ fullR g ++ [_] ++ [_]) + (if q g.a = true then wetG g - w - v else 0) = _
    rw [cnt_app, cnt_app, cnt_app, cnt_one, cnt_one, litP_app, litP_app, wetIn_lit h0, wetIn_lit h3]
    split <;> omega
theorem full_sum {σ can : Int} {pre : Rws} {s : Itms × Rws × Int} (h : PInv σ can pre s) : can * cnt (fun _ => 1) s.1 + sumR s.2.1 = sumR pre := by
  rw [← cnt_mul, sumR_lit s.2.1, sumR_lit pre, ← h.lit fun _ => true]
  congr 1
  exact cnt_congr fun y hy => by
    rw [Int.mul_one, ← sumR_lit, (h.full y hy).2.1]
theorem cdiv_1 {n c : Int} (h0 : 1 ≤ n) (h1 : n ≤ c) : cdiv n c = 1 := by
  rw [cdiv_big (by omega) (by omega) h1, if_neg (by omega)]
theorem cdiv_next {n c : Int} (h : 1 ≤ c) : cdiv (c + n) c = 1 + cdiv n c := by
  have := cdiv_add (n := n) (c := c) (k := 1) h
  rw [Int.mul_one] at this
  exact this
/-- the plan has the fewest trips -/
theorem plan_trips {g : Gdn} (h : Asc g) : cnt (fun _ => 1) (planL g) = cdiv ((unTup g.c).map (·.2)).sum g.b := by
  have hc := h.can
  have l : g.b * cnt (fun _ => 1) (fullL g) + sumR (oneL g) = sumR (lefts g) := full_sum (lefts_inv h)
  have r : g.b * cnt (fun _ => 1) (fullR g) + sumR (oneR g) = sumR (rights g) := full_sum (rights_inv h)
  have ls : 0 ≤ sumR (oneL g) ∧ sumR (oneL g) < g.b ∧ (oneL g = [] ↔ sumR (oneL g) = 0) := one_sum hc (lefts_inv h)
  have rs : 0 ≤ sumR (oneR g) ∧ sumR (oneR g) < g.b ∧ (oneR g = [] ↔ sumR (oneR g) = 0) := one_sum hc (rights_inv h)
  have w0 := wet_nn h
  have t : ((unTup g.c).map (·.2)).sum = sumR (lefts g) + sumR (rights g) + wetG g := by
    have := lit_three g fun _ => true
    rw [if_pos rfl, ← sumR_lit, ← sumR_lit, ← sumR_lit] at this
    exact this
  rw [plan_eq hc (fill_nn h), cnt_app, trips_tail hc (fill_nn h), t, ← l, ← r]
  have dist : ∀ n m s : Int, g.b * n + sumR (oneL g) + (g.b * m + sumR (oneR g)) + s = g.b * (n + m) + (sumR (oneL g) + sumR (oneR g) + s) := fun n m s => by
    rw [Int.mul_add]
    omega
  rw [dist, cdiv_add hc]
  rcases ends h with ⟨h1, h2, hf⟩ | ⟨w, hn, hs, hw, h0, hf⟩ | ⟨w, v, h1, h2, hs, hw, h0, hv, h3, hf⟩
  · rw [hf]
    show cnt (fun _ => 1) (fullL g ++ fullR g) + cdiv (wetG g) g.b = _
    rw [cnt_app, ls.2.2.mp h1, rs.2.2.mp h2, Int.add_zero, Int.zero_add]
  · rw [hf]
    show cnt (fun _ => 1) (fullL g ++ fullR g ++ [_]) + cdiv (wetG g - w) g.b = _
    rw [cnt_app, cnt_app, cnt_one]
    show _ + 1 * 1 + _ = _
    have sp : 1 ≤ sumR (oneL g) + sumR (oneR g) := by
      by_cases z : oneL g = []
      · by_cases z2 : oneR g = []
        · exact absurd (by rw [z, z2]; rfl) hn
        · have : ¬ sumR (oneR g) = 0 := fun q => z2 (rs.2.2.mpr q)
          omega
      · have : ¬ sumR (oneL g) = 0 := fun q => z (ls.2.2.mpr q)
        omega
    have mw : w = wetG g ∧ wetG g ≤ g.b - (sumR (oneL g) + sumR (oneR g)) ∨ w = g.b - (sumR (oneL g) + sumR (oneR g)) := by
      rw [hw]
      unfold minI
      split <;> omega
    rcases mw with ⟨e, q⟩ | e
    · rw [cdiv_1 (n := sumR (oneL g) + sumR (oneR g) + wetG g) (by omega) (by omega), show wetG g - w = 0 by omega, cdiv_zero hc]
      omega
    · rw [show sumR (oneL g) + sumR (oneR g) + wetG g = g.b + (wetG g - w) by omega, cdiv_next hc]
      omega
  · rw [hf]
    show cnt (fun _ => 1) (fullL g ++ fullR g ++ [_] ++ [_]) + cdiv (wetG g - w - v) g.b = _
    rw [cnt_app, cnt_app, cnt_app, cnt_one, cnt_one]
    show _ + 1 * 1 + 1 * 1 + _ = _
    have mw : w = wetG g ∧ wetG g ≤ g.b - sumR (oneL g) ∨ w = g.b - sumR (oneL g) := by
      rw [hw]
      unfold minI
      split <;> omega
    have mv : v = wetG g - w ∧ wetG g - w ≤ g.b - sumR (oneR g) ∨ v = g.b - sumR (oneR g) ∧ g.b - sumR (oneR g) ≤ wetG g - w := by
      rw [hv]
      unfold minI
      split <;> omega
    rw [show sumR (oneL g) + sumR (oneR g) + wetG g = g.b + (sumR (oneL g) + sumR (oneR g) + wetG g - g.b) by omega, cdiv_next hc]
    rcases mv with ⟨e, q⟩ | ⟨e, q⟩
    · rw [cdiv_1 (n := sumR (oneL g) + sumR (oneR g) + wetG g - g.b) (by omega) (by omega), show wetG g - w - v = 0 by omega, cdiv_zero hc]
      omega
    · have e2 : w = g.b - sumR (oneL g) := by omega
      rw [show sumR (oneL g) + sumR (oneR g) + wetG g - g.b = g.b + (wetG g - w - v) by omega, cdiv_next hc]
      omega
def hit (a x : Int) (rows : Rws) : Int := if (rows.any fun r => if x < a then decide (r.1 ≤ x) else decide (x < r.1)) = true then 1 else 0
theorem hit_app_wet {g : Gdn} (x w : Int) (rows : Rws) : hit g.a x (rows ++ wetIn g w) = hit g.a x rows := by
  unfold hit
  rw [List.any_append]
  have : ((wetIn g w).any fun r => if x < g.a then decide (r.1 ≤ x) else decide (x < r.1)) = false := by
    unfold wetIn
    split
    · rw [List.any_cons, List.any_nil, Bool.or_false]
      show (if x < g.a then decide (g.a ≤ x) else decide (x < g.a)) = false
      split
      · exact decide_eq_false (by omega)
      · exact decide_eq_false (by omega)
    · rfl
  rw [this, Bool.or_false]
theorem hit_tap (a x l : Int) : hit a x [(a, l)] = 0 := by
  unfold hit
  rw [List.any_cons, List.any_nil, Bool.or_false]
  show (if (if x < a then decide (a ≤ x) else decide (x < a)) = true then (1 : Int) else 0) = 0
  by_cases c : x < a
  · rw [if_pos c, decide_eq_false (by omega)]
    rfl
  · rw [if_neg c, decide_eq_false c]
    rfl
theorem hit_left {a x σ : Int} {pre rows : Rws} (h : rows = [] ∨ Good 1 pre rows) (hp : ∀ c ∈ pre, c.1 < a) : hit a x rows = if x < a then fr 1 x rows else 0 := by
  rcases h with rfl | gd
  · show (0 : Int) = if x < a then 0 else 0
    split <;> rfl
  · have pl : ∀ r ∈ rows, r.1 < a := fun r hr => by
      obtain ⟨_, c, hc, e⟩ := gd.row r hr
      rw [← e]
      exact hp c hc
    unfold hit
    by_cases c : x < a
    · rw [if_pos c]
      cases rows with
      | nil => exact absurd rfl gd.ne
      | cons b r =>
        have asc := List.pairwise_cons.mp (show ((1 * b.1) :: r.map fun r => 1 * r.1).Pairwise (· < ·) from gd.asc)
        show _ = if 1 * b.1 ≤ x then (1 : Int) else 0
        by_cases d : b.1 ≤ x
        · rw [if_pos (show 1 * b.1 ≤ x by omega), List.any_cons, if_pos c, decide_eq_true d, Bool.true_or, if_pos rfl]
        · rw [if_neg (show ¬ 1 * b.1 ≤ x by omega), if_neg]
          rw [List.any_eq_true]
          rintro ⟨y, hy, hy2⟩
          rw [if_pos c, decide_eq_true_eq] at hy2
          rcases List.mem_cons.mp hy with rfl | hy
          · exact d hy2
          · have := asc.1 (1 * y.1) (List.mem_map.mpr ⟨y, hy, rfl⟩)
            omega
    · rw [if_neg c, if_neg]
      rw [List.any_eq_true]
      rintro ⟨y, hy, hy2⟩
      rw [if_neg c, decide_eq_true_eq] at hy2
      have := pl y hy
      omega
theorem hit_right {a x : Int} {pre rows : Rws} (h : rows = [] ∨ Good (-1) pre rows) (hp : ∀ c ∈ pre, a < c.1) : hit a x rows = if x < a then 0 else fr (-1) (-x - 1) rows := by
  rcases h with rfl | gd
  · show (0 : Int) = if x < a then 0 else 0
    split <;> rfl
  · have pl : ∀ r ∈ rows, a < r.1 := fun r hr => by
      obtain ⟨_, c, hc, e⟩ := gd.row r hr
      rw [← e]
      exact hp c hc
    unfold hit
    by_cases c : x < a
    · rw [if_pos c, if_neg]
      rw [List.any_eq_true]
      rintro ⟨y, hy, hy2⟩
      rw [if_pos c, decide_eq_true_eq] at hy2
      have := pl y hy
      omega
    · rw [if_neg c]
      cases rows with
      | nil => exact absurd rfl gd.ne
      | cons b r =>
        have asc := List.pairwise_cons.mp (show ((-1 * b.1) :: r.map fun r => -1 * r.1).Pairwise (· < ·) from gd.asc)
        show _ = if -1 * b.1 ≤ -x - 1 then (1 : Int) else 0
        by_cases d : x < b.1
        · rw [if_pos (show -1 * b.1 ≤ -x - 1 by omega), List.any_cons, if_neg c, decide_eq_true d, Bool.true_or, if_pos rfl]
        · rw [if_neg (show ¬ -1 * b.1 ≤ -x - 1 by omega), if_neg]
          rw [List.any_eq_true]
          rintro ⟨y, hy, hy2⟩
          rw [if_neg c, decide_eq_true_eq] at hy2
          rcases List.mem_cons.mp hy with rfl | hy
          · exact d hy2
          · have := asc.1 (-1 * y.1) (List.mem_map.mpr ⟨y, hy, rfl⟩)
            omega
theorem beg_of {σ can : Int} {pre : Rws} {s : Itms × Rws × Int} (h : PInv σ can pre s) : s.2.1 = [] ∨ Good σ pre s.2.1 := by
  rcases h.room with q | q
  · exact .inl q.1
  · exact .inr q.1
theorem hit_app {a x : Int} (l m : Rws) (h : x < a ∧ hit a x m = 0 ∨ ¬ x < a ∧ hit a x l = 0) : hit a x (l ++ m) = hit a x l + hit a x m := by
  have any0 : ∀ r : Rws, hit a x r = 0 → (r.any fun r => if x < a then decide (r.1 ≤ x) else decide (x < r.1)) = false := fun r hr => by
    unfold hit at hr
    generalize (r.any fun r => if x < a then decide (r.1 ≤ x) else decide (x < r.1)) = q at hr
    cases q with
    | false => rfl
    | true => cases hr
  rcases h with ⟨_, h⟩ | ⟨_, h⟩
  · rw [h, Int.add_zero]
    unfold hit
    rw [List.any_append, any0 m h, Bool.or_false]
  · rw [h, Int.zero_add]
    unfold hit
    rw [List.any_append, any0 l h, Bool.false_or]
theorem cnt_zero : ∀ L : Itms, cnt (fun _ => 0) L = 0
  | [] => rfl
  | x :: L => by
    have ih := cnt_zero L
    unfold cnt at ih ⊢
    rw [List.map_cons, List.sum_cons, ih, Int.mul_zero, Int.add_zero]
/-- as many trips go over a stretch as cans are wanted beyond it -/
theorem plan_hit {g : Gdn} (h : Asc g) (x : Int) : cnt (hit g.a x) (planL g) = cdiv (byd g x) g.b := by
  have hc := h.can
  have li := lefts_inv h
  have ri := rights_inv h
  have pl : ∀ c ∈ lefts g, c.1 < g.a := fun c hc => (left_place hc).1
  have pr : ∀ c ∈ rights g, g.a < c.1 := fun c hc => (right_place hc).1
  have lo : hit g.a x (oneL g) = if x < g.a then fr 1 x (oneL g) else 0 := hit_left (σ := 1) (beg_of li) pl
  have ro : hit g.a x (oneR g) = if x < g.a then 0 else fr (-1) (-x - 1) (oneR g) := hit_right (beg_of ri) pr
  have lf : cnt (hit g.a x) (fullL g) = if x < g.a then cnt (fr 1 x) (fullL g) else 0 := by
    split
    · rename_i c
      exact cnt_congr fun y hy => by rw [hit_left (σ := 1) (.inr (li.full y hy).2.2) pl, if_pos c]
    · rename_i c
      rw [cnt_congr (g := fun _ => 0) fun y hy => by rw [hit_left (σ := 1) (.inr (li.full y hy).2.2) pl, if_neg c]]
      exact cnt_zero _
  have rf : cnt (hit g.a x) (fullR g) = if x < g.a then 0 else cnt (fr (-1) (-x - 1)) (fullR g) := by
    split
    · rename_i c
      rw [cnt_congr (g := fun _ => 0) fun y hy => by rw [hit_right (.inr (ri.full y hy).2.2) pr, if_pos c]]
      exact cnt_zero _
    · rename_i c
      exact cnt_congr fun y hy => by rw [hit_right (.inr (ri.full y hy).2.2) pr, if_neg c]
  have tl : cnt (hit g.a x) (tailG g) = 0 := by
    rw [cnt_tail hc (fill_nn h), hit_tap, hit_tap, Int.mul_zero]
    split <;> rfl
  have sum : cnt (hit g.a x) (fullL g) + hit g.a x (oneL g) + (cnt (hit g.a x) (fullR g) + hit g.a x (oneR g)) = cdiv (byd g x) g.b := by
    rw [lf, lo, rf, ro]
    unfold byd
    by_cases c : x < g.a
    · rw [if_pos c, if_pos c, if_pos c, if_pos c, if_neg (by omega)]
      have := li.num x
      rw [show (packS (lefts g) g.b).1 = fullL g from rfl, show (packS (lefts g) g.b).2.1 = oneL g from rfl] at this
      rw [this, Int.zero_add, Int.add_zero]
      congr 1
      rw [lit_three g fun p => decide (p ≤ x)]
      rw [if_neg (by rw [decide_eq_false (by omega)]; exact Bool.false_ne_true), litP_none (l := rights g) fun b hb => decide_eq_false (by have := pr b hb; omega), Int.add_zero, Int.add_zero]
      exact litP_congr fun b _ => by rw [Int.one_mul]
    · rw [if_neg c, if_neg c, if_neg c, if_neg c, if_pos (by omega)]
      have := ri.num (-x - 1)
      rw [show (packS (rights g) g.b).1 = fullR g from rfl, show (packS (rights g) g.b).2.1 = oneR g from rfl] at this
      rw [this, Int.zero_add, Int.zero_add]
      congr 1
      rw [lit_three g fun p => decide (x < p)]
      rw [if_neg (by rw [decide_eq_false (by omega)]; exact Bool.false_ne_true), litP_none (l := lefts g) fun b hb => decide_eq_false (by have := pl b hb; omega), Int.add_zero, Int.zero_add]
      exact litP_congr fun b _ => by
        rw [decide_eq_decide]
        omega
  rw [plan_eq hc (fill_nn h), cnt_app, tl, Int.add_zero, ← sum]
  have z : hit g.a x [] = 0 := rfl
  rcases ends h with ⟨h1, h2, hf⟩ | ⟨w, _, _, hw, h0, hf⟩ | ⟨w, v, _, _, _, hw, h0, hv, h3, hf⟩
  · rw [hf]
    show cnt (hit g.a x) (fullL g ++ fullR g) = _
    rw [cnt_app, h1, h2, z]
    omega
  · rw [hf]
    show cnt (hit g.a x) (fullL g ++ fullR g ++ [_]) = _
    rw [cnt_app, cnt_app, cnt_one, hit_app_wet, hit_app (oneL g) (oneR g) (by
      by_cases c : x < g.a
      · exact .inl ⟨c, by rw [ro, if_pos c]⟩
      · exact .inr ⟨c, by rw [lo, if_neg c]⟩)]
    omega
  · rw [hf]
    show cnt (hit g.a x) (fullL g ++ fullR g ++ [_] ++ [_]) = _
    rw [cnt_app, cnt_app, cnt_app, cnt_one, cnt_one, hit_app_wet, hit_app_wet]
    omega
end PP

namespace PP
open PySem L2 PL PL.Enc
/-- two trips that bring different litres somewhere -/
def Df (l m : Rws) : Prop := ∃ q : Int → Bool, litP q l ≠ litP q m
def PD (L : Itms) : Prop := L.Pairwise fun x y => Df x.1 y.1
theorem pd_add {L : Itms} {x : Rws × Int} (h : PD L) (hx : ∀ y ∈ L, Df y.1 x.1) : PD (L ++ [x]) := by
  unfold PD
  rw [List.pairwise_append]
  exact ⟨h, List.pairwise_singleton _ _, fun y hy z hz => by rw [List.mem_singleton.mp hz]; exact hx y hy⟩
theorem lit_pos {q : Int → Bool} : ∀ {l : Rws}, (∀ r ∈ l, 1 ≤ r.2) → (∃ r ∈ l, q r.1 = true) → 1 ≤ litP q l
  | [], _, h => by
    obtain ⟨r, hr, _⟩ := h
    cases hr
  | b :: l, h, hq => by
    rw [litP_cons]
    have nn : 0 ≤ litP q l := (litP_nn (b := (l.map (·.2)).sum) fun r hr => ⟨by have := h r (List.mem_cons_of_mem _ hr); omega, by
      have : ∀ m : Rws, (∀ x ∈ m, 1 ≤ x.2) → r ∈ m → r.2 ≤ (m.map (·.2)).sum := fun m => by
        induction m with
        | nil => exact fun _ z => by cases z
        | cons c m ih =>
          intro hm hrm
          rw [List.map_cons, List.sum_cons]
          have s0 : 0 ≤ (m.map (·.2)).sum := by
            have : ∀ k : Rws, (∀ x ∈ k, 1 ≤ x.2) → 0 ≤ (k.map (·.2)).sum := fun k => by
              induction k with
              | nil => exact fun _ => Int.le_refl _
              | cons d k ih2 =>
                intro hk
                rw [List.map_cons, List.sum_cons]
                have := ih2 fun x hx => hk x (List.mem_cons_of_mem _ hx)
                have := hk d List.mem_cons_self
                omega
            exact this m fun x hx => hm x (List.mem_cons_of_mem _ hx)
          rcases List.mem_cons.mp hrm with rfl | hrm
          · omega
          · have := ih (fun x hx => hm x (List.mem_cons_of_mem _ hx)) hrm
            have := hm c List.mem_cons_self
            omega
      exact this l (fun x hx => h x (List.mem_cons_of_mem _ hx)) hr⟩).1
    obtain ⟨r, hr, e⟩ := hq
    rcases List.mem_cons.mp hr with rfl | hr
    · rw [if_pos e]
      have := h r List.mem_cons_self
      omega
    · have := lit_pos (q := q) (l := l) (fun x hx => h x (List.mem_cons_of_mem _ hx)) ⟨r, hr, e⟩
      have := h b List.mem_cons_self
      split <;> omega
theorem good_no {σ : Int} {pre rows : Rws} {b : Int × Int} (h : Good σ pre rows) (hb : ∀ c ∈ pre, σ * c.1 < σ * b.1) : litP (fun p => decide (p = b.1)) rows = 0 :=
  litP_none fun r hr => decide_eq_false fun z => by
    obtain ⟨_, c, hc, e⟩ := h.row r hr
    have := hb c hc
    rw [e, z] at this
    omega
theorem good_yes {σ : Int} {pre rows : Rws} {b : Int × Int} (h : Good σ pre rows) (hb : ∀ c ∈ pre, σ * c.1 < σ * b.1) : 1 ≤ litP (fun p => !decide (p = b.1)) rows := by
  cases rows with
  | nil => exact absurd rfl h.ne
  | cons r rows =>
    refine lit_pos (fun x hx => (h.row x hx).1) ⟨r, List.mem_cons_self, ?_⟩
    obtain ⟨_, c, hc, e⟩ := h.row r List.mem_cons_self
    have := hb c hc
    rw [Bool.not_eq_true', decide_eq_false_iff_not]
    intro z
    rw [e, z] at this
    omega
theorem step_df {σ can : Int} {pre : Rws} {s : Itms × Rws × Int} {b : Int × Int} (hcan : 1 ≤ can) (h : PInv σ can pre s) (hd : PD s.1) (hb : ∀ c ∈ pre, σ * c.1 < σ * b.1) (hl : 1 ≤ b.2) : PD (stepP can s b).1 := by
  have old : ∀ x ∈ s.1, litP (fun p => decide (p = b.1)) x.1 = 0 := fun x hx => good_no (h.full x hx).2.2 hb
  -- behind the begun trip: what is new has litres at b, and elsewhere too
  have ha : PD (stepA can s b).1 ∧ ∀ x ∈ (stepA can s b).1, litP (fun p => decide (p = b.1)) x.1 = 0 ∨ 1 ≤ litP (fun p => !decide (p = b.1)) x.1 := by
    unfold stepA
    rcases h.room with ⟨e, er⟩ | ⟨gd, es, r0, r1⟩
    · rw [if_pos e]
      exact ⟨hd, fun x hx => .inl (old x hx)⟩
    · rw [if_neg gd.ne]
      have hp : 1 ≤ minI s.2.2 b.2 := by
        unfold minI
        split <;> omega
      split
      · refine ⟨pd_add hd fun y hy => ⟨fun p => decide (p = b.1), ?_⟩, fun x hx => ?_⟩
        · show litP _ y.1 ≠ litP _ (s.2.1 ++ [_])
          rw [old y hy, litP_app, litP_one, if_pos (decide_eq_true rfl), good_no gd hb]
          omega
        · rcases List.mem_append.mp hx with hx | hx
          · exact .inl (old x hx)
          · rw [List.mem_singleton.mp hx]
            right
            show 1 ≤ litP _ (s.2.1 ++ [_])
            rw [litP_app, litP_one]
            have := good_yes gd hb
            simp only [decide_true, Bool.not_true, Bool.false_eq_true, if_false]
            omega
      · exact ⟨hd, fun x hx => .inl (old x hx)⟩
  have hB : (stepP can s b).1 = stepF can b (stepA can s b) := by
    unfold stepP stepB
    split <;> rfl
  rw [hB]
  unfold stepF
  split
  · refine pd_add ha.1 fun y hy => ?_
    rcases ha.2 y hy with q | q
    · refine ⟨fun p => decide (p = b.1), ?_⟩
      show litP _ y.1 ≠ litP _ [(b.1, can)]
      rw [q, litP_one, if_pos (decide_eq_true rfl)]
      omega
    · refine ⟨fun p => !decide (p = b.1), ?_⟩
      show litP _ y.1 ≠ litP _ [(b.1, can)]
      rw [litP_one, decide_eq_true rfl]
      simp only [Bool.not_true, Bool.false_eq_true, if_false]
      omega
  · exact ha.1
theorem pack_df {σ can : Int} (hcan : 1 ≤ can) : ∀ (post pre : Rws) (s : Itms × Rws × Int), PInv σ can pre s → PD s.1 → (∀ b ∈ post, 1 ≤ b.2) → ((pre ++ post).map fun b => σ * b.1).Pairwise (· < ·) → PD (post.foldl (stepP can) s).1
  | [], pre, s, _, hd, _, _ => hd
  | b :: post, pre, s, h, hd, hl, ha => by
    have hb : ∀ c ∈ pre, σ * c.1 < σ * b.1 := fun c hc => by
      rw [List.map_append, List.pairwise_append] at ha
      exact ha.2.2 _ (List.mem_map.mpr ⟨c, hc, rfl⟩) _ (List.mem_map.mpr ⟨b, List.mem_cons_self, rfl⟩)
    have h1 : PInv σ can (pre ++ [b]) (stepP can s b) := stepB_inv hcan (stepA_inv h hb (hl b List.mem_cons_self)) hb
    exact pack_df hcan post (pre ++ [b]) (stepP can s b) h1 (step_df hcan h hd hb (hl b List.mem_cons_self)) (fun c hc => hl c (List.mem_cons_of_mem _ hc)) (by
      rw [List.append_assoc]
      exact ha)
theorem packed_df {σ can : Int} (hcan : 1 ≤ can) {rows : Rws} (hl : ∀ b ∈ rows, 1 ≤ b.2) (ha : (rows.map fun b => σ * b.1).Pairwise (· < ·)) : PD (packS rows can).1 := by
  refine pack_df (σ := σ) hcan rows [] ([], [], can) ⟨.inl ⟨rfl, rfl⟩, fun q => rfl, fun x hx => (by cases hx), fun x => by
    show (0 : Int) + 0 = cdiv 0 can
    rw [cdiv_zero hcan]
    rfl⟩ List.Pairwise.nil hl ha
theorem fullL_df {g : Gdn} (h : Asc g) : PD (fullL g) := by
  refine packed_df (σ := 1) h.can (fun b hb => h.lit b (List.mem_filter.mp hb).1) ?_
  rw [List.pairwise_map]
  refine List.Pairwise.filter _ ((List.pairwise_map.mp h.asc).imp fun {x y} q => ?_)
  omega
theorem fullR_df {g : Gdn} (h : Asc g) : PD (fullR g) := by
  refine packed_df (σ := -1) h.can (fun b hb => h.lit b (List.mem_reverse.mp (List.mem_filter.mp hb).1)) ?_
  rw [List.pairwise_map]
  refine List.Pairwise.filter _ ?_
  rw [List.pairwise_reverse]
  exact (List.pairwise_map.mp h.asc).imp fun {x y} q => by omega
theorem pd_app {L M : Itms} (h1 : PD L) (h2 : PD M) (h : ∀ x ∈ L, ∀ y ∈ M, Df x.1 y.1) : PD (L ++ M) := by
  unfold PD
  rw [List.pairwise_append]
  exact ⟨h1, h2, h⟩
/-- litres of a side's trips -/
theorem side_lit {g : Gdn} (h : Asc g) : (∀ x ∈ fullL g, litP (fun p => decide (p < g.a)) x.1 = g.b ∧ litP (fun p => decide (g.a < p)) x.1 = 0 ∧ litP (fun p => decide (p = g.a)) x.1 = 0) ∧
    (∀ x ∈ fullR g, litP (fun p => decide (g.a < p)) x.1 = g.b ∧ litP (fun p => decide (p < g.a)) x.1 = 0 ∧ litP (fun p => decide (p = g.a)) x.1 = 0) ∧
    (litP (fun p => decide (p < g.a)) (oneL g) = sumR (oneL g) ∧ litP (fun p => decide (g.a < p)) (oneL g) = 0 ∧ litP (fun p => decide (p = g.a)) (oneL g) = 0) ∧
    (litP (fun p => decide (g.a < p)) (oneR g) = sumR (oneR g) ∧ litP (fun p => decide (p < g.a)) (oneR g) = 0 ∧ litP (fun p => decide (p = g.a)) (oneR g) = 0) := by
  have li := lefts_inv h
  have ri := rights_inv h
  have lp : ∀ {rows : Rws}, rows = [] ∨ Good 1 (lefts g) rows → ∀ r ∈ rows, r.1 < g.a := fun {rows} q r hr => by
    rcases q with rfl | q
    · cases hr
    · obtain ⟨_, c, hc, e⟩ := q.row r hr
      rw [← e]
      exact (left_place hc).1
  have rp : ∀ {rows : Rws}, rows = [] ∨ Good (-1) (rights g) rows → ∀ r ∈ rows, g.a < r.1 := fun {rows} q r hr => by
    rcases q with rfl | q
    · cases hr
    · obtain ⟨_, c, hc, e⟩ := q.row r hr
      rw [← e]
      exact (right_place hc).1
  have lq : ∀ {rows : Rws}, rows = [] ∨ Good 1 (lefts g) rows → litP (fun p => decide (p < g.a)) rows = sumR rows ∧ litP (fun p => decide (g.a < p)) rows = 0 ∧ litP (fun p => decide (p = g.a)) rows = 0 := fun {rows} q =>
    ⟨by
      rw [sumR_lit]
      exact litP_congr fun r hr => decide_eq_true (lp q r hr), litP_none fun r hr => decide_eq_false (by have := lp q r hr; omega), litP_none fun r hr => decide_eq_false (by have := lp q r hr; omega)⟩
  have rq : ∀ {rows : Rws}, rows = [] ∨ Good (-1) (rights g) rows → litP (fun p => decide (g.a < p)) rows = sumR rows ∧ litP (fun p => decide (p < g.a)) rows = 0 ∧ litP (fun p => decide (p = g.a)) rows = 0 := fun {rows} q =>
    ⟨by
      rw [sumR_lit]
      exact litP_congr fun r hr => decide_eq_true (rp q r hr), litP_none fun r hr => decide_eq_false (by have := rp q r hr; omega), litP_none fun r hr => decide_eq_false (by have := rp q r hr; omega)⟩
  refine ⟨fun x hx => ?_, fun x hx => ?_, lq (beg_of li), rq (beg_of ri)⟩
  · have := li.full x hx
    have z := lq (.inr this.2.2)
    rw [this.2.1] at z
    exact z
  · have := ri.full x hx
    have z := rq (.inr this.2.2)
    rw [this.2.1] at z
    exact z
theorem tail_mem {g : Gdn} (hc : 1 ≤ g.b) (hw : 0 ≤ (fillG g).2) {x : Rws × Int} (hx : x ∈ tailG g) : ∃ l, x.1 = [(g.a, l)] ∧ 1 ≤ l ∧ l ≤ g.b ∧ 1 ≤ x.2 ∧ 0 < (fillG g).2 := by
  unfold tailG at hx
  have m1 := Int.emod_lt_of_pos (fillG g).2 (show 0 < g.b by omega)
  rcases List.mem_append.mp hx with hx | hx
  · split at hx
    · rename_i c
      rw [List.mem_singleton.mp hx]
      exact ⟨g.b, rfl, hc, Int.le_refl _, (Int.le_ediv_iff_mul_le (by omega)).mpr (by omega), by omega⟩
    · cases hx
  · split at hx
    · rename_i c
      rw [List.mem_singleton.mp hx]
      refine ⟨_, rfl, by omega, by omega, Int.le_refl _, ?_⟩
      by_cases z : (fillG g).2 = 0
      · rw [z, Int.zero_emod] at c
        omega
      · omega
    · cases hx
theorem tail_df {g : Gdn} (hc : 1 ≤ g.b) : PD (tailG g) := by
  have m1 := Int.emod_lt_of_pos (fillG g).2 (show 0 < g.b by omega)
  unfold tailG
  refine pd_app ?_ ?_ fun x hx y hy => ?_
  · split
    · exact List.pairwise_singleton _ _
    · exact List.Pairwise.nil
  · split
    · exact List.pairwise_singleton _ _
    · exact List.Pairwise.nil
  · split at hx
    · split at hy
      · rw [List.mem_singleton.mp hx, List.mem_singleton.mp hy]
        refine ⟨fun _ => true, ?_⟩
        show litP _ [(g.a, g.b)] ≠ litP _ [(g.a, (fillG g).2 % g.b)]
        rw [litP_one, litP_one, if_pos rfl, if_pos rfl]
        omega
      · cases hy
    · cases hx
/-- no two trips of the best plan are equal -/
theorem plan_df {g : Gdn} (h : Asc g) : PD (planL g) := by
  have hc := h.can
  obtain ⟨sl, sr, ol, or_⟩ := side_lit h
  have l1 : 0 ≤ sumR (oneL g) ∧ sumR (oneL g) < g.b ∧ (oneL g = [] ↔ sumR (oneL g) = 0) := one_sum hc (lefts_inv h)
  have r1 : 0 ≤ sumR (oneR g) ∧ sumR (oneR g) < g.b ∧ (oneR g = [] ↔ sumR (oneR g) = 0) := one_sum hc (rights_inv h)
  have base : PD (fullL g ++ fullR g) := pd_app (fullL_df h) (fullR_df h) fun x hx y hy => ⟨fun p => decide (p < g.a), by
    rw [(sl x hx).1, (sr y hy).2.1]
    omega⟩
  have wl : ∀ w, 0 ≤ w → litP (fun p => decide (p < g.a)) (wetIn g w) = 0 ∧ litP (fun p => decide (g.a < p)) (wetIn g w) = 0 := fun w h0 => by
    rw [wetIn_lit h0, wetIn_lit h0, if_neg (by rw [decide_eq_false (by omega)]; exact Bool.false_ne_true)]
    exact ⟨rfl, rfl⟩
  have tailq : ∀ x ∈ tailG g, litP (fun p => !decide (p = g.a)) x.1 = 0 ∧ 1 ≤ litP (fun p => decide (p = g.a)) x.1 := fun x hx => by
    obtain ⟨l, e, h1, _⟩ := tail_mem hc (fill_nn h) hx
    rw [e, litP_one, litP_one, decide_eq_true rfl]
    exact ⟨rfl, h1⟩
  have baseT : ∀ x ∈ fullL g ++ fullR g, ∀ y ∈ tailG g, Df x.1 y.1 := fun x hx y hy => ⟨fun p => decide (p = g.a), by
    have := (tailq y hy).2
    rcases List.mem_append.mp hx with hx | hx
    · rw [(sl x hx).2.2]
      omega
    · rw [(sr x hx).2.2]
      omega⟩
  rw [plan_eq hc (fill_nn h)]
  rcases ends h with ⟨h1, h2, hf⟩ | ⟨w, hn, hs, hw, h0, hf⟩ | ⟨w, v, h1, h2, hs, hw, h0, hv, h3, hf⟩
  · have e : (fillG g).1 = fullL g ++ fullR g := by rw [hf]
    rw [e]
    exact pd_app base (tail_df hc) baseT
  · have e : (fillG g).1 = fullL g ++ fullR g ++ [(oneL g ++ oneR g ++ wetIn g w, 1)] := by rw [hf]
    have ml : litP (fun p => decide (p < g.a)) (oneL g ++ oneR g ++ wetIn g w) = sumR (oneL g) := by
      rw [litP_app, litP_app, ol.1, or_.2.1, (wl w h0).1]
      omega
    have mr : litP (fun p => decide (g.a < p)) (oneL g ++ oneR g ++ wetIn g w) = sumR (oneR g) := by
      rw [litP_app, litP_app, ol.2.1, or_.1, (wl w h0).2]
      omega
    rw [e]
    refine pd_app (pd_add base fun y hy => ?_) (tail_df hc) fun x hx y hy => ?_
    · rcases List.mem_append.mp hy with hy | hy
      · exact ⟨fun p => decide (p < g.a), by rw [(sl y hy).1]; show _ ≠ litP _ (oneL g ++ oneR g ++ wetIn g w); rw [ml]; omega⟩
      · exact ⟨fun p => decide (g.a < p), by rw [(sr y hy).1]; show _ ≠ litP _ (oneL g ++ oneR g ++ wetIn g w); rw [mr]; omega⟩
    · rcases List.mem_append.mp hx with hx | hx
      · exact baseT x hx y hy
      · rw [List.mem_singleton.mp hx]
        obtain ⟨l, ey, _⟩ := tail_mem hc (fill_nn h) hy
        by_cases z : oneL g = []
        · have : ¬ oneR g = [] := fun z2 => hn (by rw [z, z2]; rfl)
          have nz : ¬ sumR (oneR g) = 0 := fun q => this (r1.2.2.mpr q)
          refine ⟨fun p => decide (g.a < p), ?_⟩
          show litP _ (oneL g ++ oneR g ++ wetIn g w) ≠ _
          rw [mr, ey, litP_one, if_neg (by rw [decide_eq_false (by omega)]; exact Bool.false_ne_true)]
          exact nz
        · have nz : ¬ sumR (oneL g) = 0 := fun q => z (l1.2.2.mpr q)
          refine ⟨fun p => decide (p < g.a), ?_⟩
          show litP _ (oneL g ++ oneR g ++ wetIn g w) ≠ _
          rw [ml, ey, litP_one, if_neg (by rw [decide_eq_false (by omega)]; exact Bool.false_ne_true)]
          exact nz
  · have e : (fillG g).1 = fullL g ++ fullR g ++ [(oneL g ++ wetIn g w, 1)] ++ [(oneR g ++ wetIn g v, 1)] := by rw [hf]
    have nl : ¬ sumR (oneL g) = 0 := fun q => h1 (l1.2.2.mpr q)
    have nr : ¬ sumR (oneR g) = 0 := fun q => h2 (r1.2.2.mpr q)
    have ml : litP (fun p => decide (p < g.a)) (oneL g ++ wetIn g w) = sumR (oneL g) ∧ litP (fun p => decide (g.a < p)) (oneL g ++ wetIn g w) = 0 := by
      rw [litP_app, litP_app, ol.1, ol.2.1, (wl w h0).1, (wl w h0).2]
      omega
    have mr : litP (fun p => decide (g.a < p)) (oneR g ++ wetIn g v) = sumR (oneR g) ∧ litP (fun p => decide (p < g.a)) (oneR g ++ wetIn g v) = 0 := by
      rw [litP_app, litP_app, or_.1, or_.2.1, (wl v h3).1, (wl v h3).2]
      omega
    rw [e]
    refine pd_app (pd_add (pd_add base fun y hy => ?_) fun y hy => ?_) (tail_df hc) fun x hx y hy => ?_
    · rcases List.mem_append.mp hy with hy | hy
      · exact ⟨fun p => decide (p < g.a), by rw [(sl y hy).1]; show _ ≠ litP _ (oneL g ++ wetIn g w); rw [ml.1]; omega⟩
      · exact ⟨fun p => decide (g.a < p), by rw [(sr y hy).1]; show _ ≠ litP _ (oneL g ++ wetIn g w); rw [ml.2]; omega⟩
    · rcases List.mem_append.mp hy with hy | hy
      · rcases List.mem_append.mp hy with hy | hy
        · exact ⟨fun p => decide (p < g.a), by rw [(sl y hy).1]; show _ ≠ litP _ (oneR g ++ wetIn g v); rw [mr.2]; omega⟩
        · exact ⟨fun p => decide (g.a < p), by rw [(sr y hy).1]; show _ ≠ litP _ (oneR g ++ wetIn g v); rw [mr.1]; omega⟩
      · rw [List.mem_singleton.mp hy]
        refine ⟨fun p => decide (p < g.a), ?_⟩
        show litP _ (oneL g ++ wetIn g w) ≠ litP _ (oneR g ++ wetIn g v)
        rw [ml.1, mr.2]
        exact nl
    · obtain ⟨l, ey, _⟩ := tail_mem hc (fill_nn h) hy
      rcases List.mem_append.mp hx with hx | hx
      · rcases List.mem_append.mp hx with hx | hx
        · exact baseT x hx y hy
        · rw [List.mem_singleton.mp hx]
          refine ⟨fun p => decide (p < g.a), ?_⟩
          show litP _ (oneL g ++ wetIn g w) ≠ _
          rw [ml.1, ey, litP_one, if_neg (by rw [decide_eq_false (by omega)]; exact Bool.false_ne_true)]
          exact nl
      · rw [List.mem_singleton.mp hx]
        refine ⟨fun p => decide (g.a < p), ?_⟩
        show litP _ (oneR g ++ wetIn g v) ≠ _
        rw [mr.1, ey, litP_one, if_neg (by rw [decide_eq_false (by omega)]; exact Bool.false_ne_true)]
        exact nr
/-- a trip of a plan, made so often -/
structure TV (g : Gdn) (x : Rws × Int) : Prop where
  ne : x.1 ≠ []
  tm : 1 ≤ x.2
  sm : sumR x.1 ≤ g.b
  row : ∀ r ∈ x.1, 1 ≤ r.2 ∧ ∃ b ∈ unTup g.c, b.1 = r.1
  nd : (x.1.map (·.1)).Nodup
theorem good_nd {σ : Int} {pre rows : Rws} (h : Good σ pre rows) : (rows.map (·.1)).Nodup := by
  refine List.pairwise_map.mpr ((List.pairwise_map.mp h.asc).imp fun {x y} q z => ?_)
  rw [z] at q
  omega
theorem wet_bed {g : Gdn} (h : 0 < wetG g) : ∃ b ∈ unTup g.c, b.1 = g.a := by
  unfold wetG at h
  cases e : (unTup g.c).filter fun x => decide (x.1 = g.a) with
  | nil =>
    rw [e] at h
    exact absurd h (by decide)
  | cons b l =>
    have : b ∈ (unTup g.c).filter fun x => decide (x.1 = g.a) := by rw [e]; exact List.mem_cons_self
    exact ⟨b, (List.mem_filter.mp this).1, of_decide_eq_true (List.mem_filter.mp this).2⟩
theorem plan_valid {g : Gdn} (h : Asc g) : ∀ x ∈ planL g, TV g x := by
  have hc := h.can
  have li := lefts_inv h
  have ri := rights_inv h
  have l1 : 0 ≤ sumR (oneL g) ∧ sumR (oneL g) < g.b ∧ (oneL g = [] ↔ sumR (oneL g) = 0) := one_sum hc li
  have r1 : 0 ≤ sumR (oneR g) ∧ sumR (oneR g) < g.b ∧ (oneR g = [] ↔ sumR (oneR g) = 0) := one_sum hc ri
  have w0 := wet_nn h
  have fL : ∀ x ∈ fullL g, TV g x := fun x hx => by
    obtain ⟨a, b, c⟩ := li.full x hx
    exact ⟨c.ne, a, by omega, fun r hr => by
      obtain ⟨h1, d, hd, e⟩ := c.row r hr
      exact ⟨h1, d, (left_place hd).2, e⟩, good_nd c⟩
  have fR : ∀ x ∈ fullR g, TV g x := fun x hx => by
    obtain ⟨a, b, c⟩ := ri.full x hx
    exact ⟨c.ne, a, by omega, fun r hr => by
      obtain ⟨h1, d, hd, e⟩ := c.row r hr
      exact ⟨h1, d, (right_place hd).2, e⟩, good_nd c⟩
  have oL : ∀ r ∈ oneL g, 1 ≤ r.2 ∧ (∃ b ∈ unTup g.c, b.1 = r.1) ∧ r.1 < g.a := fun r hr => by
    rcases beg_of li with e | c
    · rw [show oneL g = [] from e] at hr
      cases hr
    · obtain ⟨h1, d, hd, e⟩ := c.row r hr
      have := left_place hd
      exact ⟨h1, ⟨d, this.2, e⟩, by omega⟩
  have oR : ∀ r ∈ oneR g, 1 ≤ r.2 ∧ (∃ b ∈ unTup g.c, b.1 = r.1) ∧ g.a < r.1 := fun r hr => by
    rcases beg_of ri with e | c
    · rw [show oneR g = [] from e] at hr
      cases hr
    · obtain ⟨h1, d, hd, e⟩ := c.row r hr
      have := right_place hd
      exact ⟨h1, ⟨d, this.2, e⟩, by omega⟩
  have nL : ((oneL g).map (·.1)).Nodup := by
    rcases beg_of li with e | c
    · rw [show oneL g = [] from e]
      exact List.nodup_nil
    · exact good_nd c
  have nR : ((oneR g).map (·.1)).Nodup := by
    rcases beg_of ri with e | c
    · rw [show oneR g = [] from e]
      exact List.nodup_nil
    · exact good_nd c
  have wr : ∀ w, w ≤ wetG g → ∀ r ∈ wetIn g w, 1 ≤ r.2 ∧ (∃ b ∈ unTup g.c, b.1 = r.1) ∧ r.1 = g.a := fun w hw r hr => by
    unfold wetIn at hr
    split at hr
    · rw [List.mem_singleton.mp hr]
      exact ⟨by show 1 ≤ w; omega, wet_bed (by omega), rfl⟩
    · cases hr
  have nW : ∀ w, ((wetIn g w).map (·.1)).Nodup := fun w => by
    unfold wetIn
    split
    · exact List.pairwise_singleton _ _
    · exact List.nodup_nil
  have napp : ∀ {l m : Rws}, (l.map (·.1)).Nodup → (m.map (·.1)).Nodup → (∀ x ∈ l, ∀ y ∈ m, x.1 ≠ y.1) → ((l ++ m).map (·.1)).Nodup := fun {l m} a b c => by
    rw [List.map_append, List.nodup_append]
    exact ⟨a, b, fun x hx y hy => by
      obtain ⟨x', hx', rfl⟩ := List.mem_map.mp hx
      obtain ⟨y', hy', rfl⟩ := List.mem_map.mp hy
      exact c x' hx' y' hy'⟩
  have tl : (fillG g).2 ≤ wetG g → ∀ x ∈ tailG g, TV g x := fun hw x hx => by
    obtain ⟨l, e, h1, h2, h3, h4⟩ := tail_mem hc (fill_nn h) hx
    refine ⟨by rw [e]; simp, h3, by rw [e]; show l + 0 ≤ g.b; omega, fun r hr => ?_, by rw [e]; exact List.pairwise_singleton _ _⟩
    rw [e] at hr
    rw [List.mem_singleton.mp hr]
    exact ⟨h1, wet_bed (by omega)⟩
  intro x hx
  rw [plan_eq hc (fill_nn h)] at hx
  rcases ends h with ⟨h1, h2, hf⟩ | ⟨w, hn, hs, hw, h0, hf⟩ | ⟨w, v, h1, h2, hs, hw, h0, hv, h3, hf⟩
  · rcases List.mem_append.mp hx with hx | hx
    · rw [hf] at hx
      rcases List.mem_append.mp hx with hx | hx
      · exact fL x hx
      · exact fR x hx
    · exact tl (by rw [hf]; exact Int.le_refl _) x hx
  · have mw := minI_le (wetG g) (g.b - (sumR (oneL g) + sumR (oneR g)))
    rcases List.mem_append.mp hx with hx | hx
    · rw [hf] at hx
      rcases List.mem_append.mp hx with hx | hx
      · rcases List.mem_append.mp hx with hx | hx
        · exact fL x hx
        · exact fR x hx
      · rw [List.mem_singleton.mp hx]
        refine ⟨fun z => hn (List.append_eq_nil_iff.mp z).1, Int.le_refl _, ?_, fun r hr => ?_, ?_⟩
        · show sumR (oneL g ++ oneR g ++ wetIn g w) ≤ g.b
          rw [sumR_app, sumR_app, wetIn_sum h0]
          omega
        · rcases List.mem_append.mp hr with hr | hr
          · rcases List.mem_append.mp hr with hr | hr
            · exact ⟨(oL r hr).1, (oL r hr).2.1⟩
            · exact ⟨(oR r hr).1, (oR r hr).2.1⟩
          · have := wr w (by omega) r hr
            exact ⟨this.1, this.2.1⟩
        · refine napp (napp nL nR fun x hx y hy => ?_) (nW w) fun x hx y hy => ?_
          · have := (oL x hx).2.2
            have := (oR y hy).2.2
            omega
          · have := (wr w (by omega) y hy).2.2
            rcases List.mem_append.mp hx with hx | hx
            · have := (oL x hx).2.2
              omega
            · have := (oR x hx).2.2
              omega
    · exact tl (by rw [hf]; show wetG g - w ≤ wetG g; omega) x hx
  · have mw := minI_le (wetG g) (g.b - sumR (oneL g))
    have mv := minI_le (wetG g - w) (g.b - sumR (oneR g))
    rcases List.mem_append.mp hx with hx | hx
    · rw [hf] at hx
      rcases List.mem_append.mp hx with hx | hx
      · rcases List.mem_append.mp hx with hx | hx
        · rcases List.mem_append.mp hx with hx | hx
          · exact fL x hx
          · exact fR x hx
        · rw [List.mem_singleton.mp hx]
          refine ⟨fun z => h1 (List.append_eq_nil_iff.mp z).1, Int.le_refl _, ?_, fun r hr => ?_, ?_⟩
          · show sumR (oneL g ++ wetIn g w) ≤ g.b
            rw [sumR_app, wetIn_sum h0]
            omega
          · rcases List.mem_append.mp hr with hr | hr
            · exact ⟨(oL r hr).1, (oL r hr).2.1⟩
            · have := wr w (by omega) r hr
              exact ⟨this.1, this.2.1⟩
          · refine napp nL (nW w) fun x hx y hy => ?_
            have := (wr w (by omega) y hy).2.2
            have := (oL x hx).2.2
            omega
      · rw [List.mem_singleton.mp hx]
        refine ⟨fun z => h2 (List.append_eq_nil_iff.mp z).1, Int.le_refl _, ?_, fun r hr => ?_, ?_⟩
        · show sumR (oneR g ++ wetIn g v) ≤ g.b
          rw [sumR_app, wetIn_sum h3]
          omega
        · rcases List.mem_append.mp hr with hr | hr
          · exact ⟨(oR r hr).1, (oR r hr).2.1⟩
          · have := wr v (by omega) r hr
            exact ⟨this.1, this.2.1⟩
        · refine napp nR (nW v) fun x hx y hy => ?_
          have := (wr v (by omega) y hy).2.2
          have := (oR x hx).2.2
          omega
    · exact tl (by rw [hf]; show wetG g - w - v ≤ wetG g; omega) x hx
end PP

namespace PL
open PySem L2 Enc PySem.W PyProof.Rows
section
variable {A B : Type} [Enc A] [Enc B]
theorem ltT_irrefl (x : A) : ltT x x = false := lex_irrefl _
theorem ltT_trans {x y z : A} (h1 : ltT x y = true) (h2 : ltT y z = true) : ltT x z = true := lex_trans _ _ _ h1 h2
theorem ltT_asymm {x y : A} (h : ltT x y = true) : ltT y x = false := by
  cases e : ltT y x with
  | false => rfl
  | true =>
    have := ltT_trans h e
    rw [ltT_irrefl] at this
    exact this.symm
theorem toks_inj {x y : PyData} (h : alike x y = true) (e : keyToks x = keyToks y) : PyData.eqv x y = true := by
  cases q : PyData.eqv x y with
  | true => rfl
  | false =>
    have := (toks_eqv x y h).2 q [] [Sum.inl 0]
    rw [e, lex_pre, lex_irrefl] at this
    have t : PyProof.Rows.lexLt itemOrd [] [Sum.inl 0] = true := rfl
    rw [t] at this
    exact this.symm
theorem ltT_total [LE A] [AL A] {x y : A} (h : x ≠ y) : ltT x y = true ∨ ltT y x = true := by
  cases h1 : ltT x y with
  | true => exact .inl rfl
  | false =>
    cases h2 : ltT y x with
    | true => exact .inr rfl
    | false => exact absurd ((LE.same x y).mp (toks_inj (AL.al x y) (lex_total _ _ h1 h2))) h
theorem leD_eq (x y : A) : leD x y = !ltT y x := rfl
theorem sortD_le (l : List A) : (sortD l).Pairwise fun a b => ltT b a = false := by
  have h1 : (sortD l).Pairwise fun a b => leD a b = true := List.pairwise_mergeSort (fun a b c h1 h2 => by
    rw [leD_eq, Bool.not_eq_true'] at *
    cases e : ltT c a with
    | false => rfl
    | true =>
      rcases lex_negTrans _ (keyToks (enc b)) _ e with q | q
      · have q' : ltT c b = true := q
        rw [h2] at q'
        cases q'
      · have q' : ltT b a = true := q
        rw [h1] at q'
        cases q') (fun a b => by
    rw [Bool.or_eq_true, leD_eq, leD_eq, Bool.not_eq_true', Bool.not_eq_true']
    cases e : ltT b a with
    | false => exact .inl rfl
    | true => exact .inr (ltT_asymm e)) l
  exact h1.imp fun {a b} q => by
    rw [leD_eq, Bool.not_eq_true'] at q
    exact q
theorem ltT_pair [LE A] [AL A] [AL B] {x y : A × B} (hn : x.1 ≠ y.1) : ltT x y = ltT x.1 y.1 := by
  show dataLt (.tuple [enc x.1, enc x.2]) (.tuple [enc y.1, enc y.2]) = _
  rw [dataLt_pair (AL.al _ _) (AL.al _ _), if_neg fun z => hn ((LE.same _ _).mp z)]
  rfl
/-- sorted pairs with different firsts rise -/
theorem sortD_rise [LE A] [AL A] [AL B] {l : List (A × B)} (h : (l.map (·.1)).Nodup) : ((sortD l).map (·.1)).Pairwise fun a b => ltT a b = true := by
  have h2 : ((sortD l).map (·.1)).Nodup := ((sortD_perm l).map (·.1)).nodup_iff.mpr h
  have h3 : (sortD l).Pairwise fun a b => a.1 ≠ b.1 := List.pairwise_map.mp h2
  rw [List.pairwise_map]
  refine (List.pairwise_and_iff.mpr ⟨sortD_le l, h3⟩).imp fun {a b} q => ?_
  have q1 := q.1
  rw [ltT_pair (fun z => q.2 z.symm)] at q1
  rcases ltT_total q.2 with w | w
  · exact w
  · rw [q1] at w
    cases w
theorem nil_lt (t : Tup A) (h : unTup t ≠ []) : ltT (toTup [] : Tup A) t = true := by
  show dataLt (.tuple []) (.tuple (List.map enc (unTup t))) = true
  cases e : unTup t with
  | nil => exact absurd e h
  | cons b r =>
    rw [dataLt_tuple, List.map_cons, toks_all_cons]
    rfl
end
end PL

namespace PL
open PySem L2 Enc
def m_b_fewest (u : (T3 Int Int (Tup (Int × Int))) × Unit) : M Unit (Fl Unit Empty Int) :=
  (retS (negM (divM (negM (fun1M (fun l : List Int => some l.sum) (compM (mapM1 unTup (mapM1 (fun y : (T3 Int Int (Tup (Int × Int))) => y.c) (pureM u.1))) (fun x1 : (Int × Int) => (pureM true)) (fun x1 : (Int × Int) => (pureM x1.2))))) (mapM1 (fun y : (T3 Int Int (Tup (Int × Int))) => y.b) (pureM u.1)))))
def f_b_fewest (u : (T3 Int Int (Tup (Int × Int))) × Unit) : Option Int := (retM none (m_b_fewest u) ()).map (·.1)
def m_b_is_trip (u : (T3 Int Int (Tup (Int × Int))) × (Tup (Int × Int)) × Unit) : M Unit (Fl Unit Empty Bool) :=
  (seqM (setS (pairM (compM (mapM1 unTup (mapM1 (fun y : (T3 Int Int (Tup (Int × Int))) => y.c) (pureM u.1))) (fun x2 : (Int × Int) => (pureM true)) (fun x2 : (Int × Int) => (pureM x2.1))) (pairM (negM (powM (pureM (10 : Int)) (pureM (7 : Int)))) (pureM ())))) (fun uv1 : ((List Int) × Int × Unit) => (seqM (iteM (orM (notM (mapM1 (fun y : (Tup (Int × Int)) => (fun n => n == "tuple") (tyName (enc y))) (pureM u.2.1))) (eqDM (pureM u.2.1) (tupM (pureM ([] : List (Int × Int)))))) (retS (pureM false)) (pureM (.nx ()))) (fun s3 : Unit => (seqM (setS (pureM (0 : Int))) (fun total4 : Int => (seqM (forS (mapM1 unTup (pureM u.2.1)) (fun (s5 : (Int × Int)) (x6 : (Int × Int)) => (seqM (iteM (orM (notM (mapM1 (fun y : (Int × Int) => (fun n => n == "tuple") (tyName (enc y))) (pureM x6))) (neIM (fun1M (fun _ : (Int × Int) => some (2 : Int)) (pureM x6)) (pureM (2 : Int)))) (retS (pureM false)) (pureM (.nx ()))) (fun s7 : Unit => (seqM (iteM (neDM (compM (mapM1 unTup (mapM1 prTup (pureM x6))) (fun x8 : Int => (orM (mapM1 (fun y : Int => (fun n => n == "bool") (tyName (enc y))) (pureM x8)) (notM (mapM1 (fun y : Int => (fun n => n == "int" || n == "bool") (tyName (enc y))) (pureM x8))))) (fun x8 : Int => (pureM x8))) (lstM (pureM ([] : List Int)))) (retS (pureM false)) (pureM (.nx ()))) (fun s9 : Unit => (seqM (iteM (orM (leM (mapM1 (fun y : (Int × Int) => y.1) (pureM x6)) (pureM s5.1)) (orM (ninIM (mapM1 (fun y : (Int × Int) => y.1) (pureM x6)) (pureM uv1.1)) (ltM (mapM1 (fun y : (Int × Int) => y.2) (pureM x6)) (pureM (1 : Int))))) (retS (pureM false)) (pureM (.nx ()))) (fun s10 : Unit => (seqM (setS (pairM (mapM1 (fun y : (Int × Int) => y.1) (pureM x6)) (pairM (addM (pureM s5.2) (mapM1 (fun y : (Int × Int) => y.2) (pureM x6))) (pureM ())))) (fun uv11 : (Int × Int × Unit) => (pureM (.nx (uv11.1, uv11.2.1)))))))))))) (uv1.2.1, total4)) (fun s12 : (Int × Int) => (retS (leM (pureM s12.2) (mapM1 (fun y : (T3 Int Int (Tup (Int × Int))) => y.b) (pureM u.1))))))))))))
def f_b_is_trip (u : (T3 Int Int (Tup (Int × Int))) × (Tup (Int × Int)) × Unit) : Option Bool := (retM none (m_b_is_trip u) ()).map (·.1)
def m_b_trip_way (u : (T3 Int Int (Tup (Int × Int))) × (Tup (Int × Int)) × Unit) : M Unit (Fl Unit Empty Int) :=
  (seqM (setS (compM (mapM1 unTup (pureM u.2.1)) (fun x2 : (Int × Int) => (pureM true)) (fun x2 : (Int × Int) => (pureM x2.1)))) (fun places1 : (List Int) => (retS (mulM (pureM (2 : Int)) (subM (fun1M maxL (catM (lstM (consM (mapM1 (fun y : (T3 Int Int (Tup (Int × Int))) => y.a) (pureM u.1)) (pureM ([] : List Int)))) (pureM places1))) (fun1M minL (catM (lstM (consM (mapM1 (fun y : (T3 Int Int (Tup (Int × Int))) => y.a) (pureM u.1)) (pureM ([] : List Int)))) (pureM places1))))))))
def f_b_trip_way (u : (T3 Int Int (Tup (Int × Int))) × (Tup (Int × Int)) × Unit) : Option Int := (retM none (m_b_trip_way u) ()).map (·.1)
def m_b_plan (u : (T3 Int Int (Tup (Int × Int))) × (Tup ((Tup (Int × Int)) × Int)) × Unit) : M Unit (Fl Unit Empty (Option (List Int))) :=
  (seqM (iteM (notM (mapM1 (fun y : (Tup ((Tup (Int × Int)) × Int)) => (fun n => n == "tuple") (tyName (enc y))) (pureM u.2.1))) (retS (pureM (none : Option (List Int)))) (pureM (.nx ()))) (fun s1 : Unit => (seqM (setS (pairM (pureM (0 : Int)) (pairM (pureM (0 : Int)) (pairM (pureM (toDic [] : (Dic Int))) (pairM (tupM (pureM ([] : List (Int × Int)))) (pureM ())))))) (fun uv2 : (Int × Int × (Dic Int) × (Tup (Int × Int)) × Unit) => (seqM (forS (mapM1 unTup (pureM u.2.1)) (fun (s3 : (Int × Int × (Dic Int) × (Tup (Int × Int)))) (x4 : ((Tup (Int × Int)) × Int)) => (seqM (iteM (orM (notM (mapM1 (fun y : ((Tup (Int × Int)) × Int) => (fun n => n == "tuple") (tyName (enc y))) (pureM x4))) (orM (neIM (fun1M (fun _ : ((Tup (Int × Int)) × Int) => some (2 : Int)) (pureM x4)) (pureM (2 : Int))) (notM (callF f_b_is_trip (pairM (pureM u.1) (pairM (mapM1 (fun y : ((Tup (Int × Int)) × Int) => y.1) (pureM x4)) (pureM ()))))))) (retS (pureM (none : Option (List Int)))) (pureM (.nx ()))) (fun s5 : Unit => (seqM (iteM (orM (mapM1 (fun y : Int => (fun n => n == "bool") (tyName (enc y))) (mapM1 (fun y : ((Tup (Int × Int)) × Int) => y.2) (pureM x4))) (orM (notM (mapM1 (fun y : Int => (fun n => n == "int" || n == "bool") (tyName (enc y))) (mapM1 (fun y : ((Tup (Int × Int)) × Int) => y.2) (pureM x4)))) (orM (ltM (mapM1 (fun y : ((Tup (Int × Int)) × Int) => y.2) (pureM x4)) (pureM (1 : Int))) (leDM (mapM1 (fun y : ((Tup (Int × Int)) × Int) => y.1) (pureM x4)) (pureM s3.2.2.2))))) (retS (pureM (none : Option (List Int)))) (pureM (.nx ()))) (fun s6 : Unit => (seqM (setS (addM (pureM s3.1) (mulM (mapM1 (fun y : ((Tup (Int × Int)) × Int) => y.2) (pureM x4)) (callF f_b_trip_way (pairM (pureM u.1) (pairM (mapM1 (fun y : ((Tup (Int × Int)) × Int) => y.1) (pureM x4)) (pureM ()))))))) (fun way7 : Int => (seqM (setS (pairM (mapM1 (fun y : ((Tup (Int × Int)) × Int) => y.1) (pureM x4)) (pairM (addM (pureM s3.2.1) (mapM1 (fun y : ((Tup (Int × Int)) × Int) => y.2) (pureM x4))) (pureM ())))) (fun uv8 : ((Tup (Int × Int)) × Int × Unit) => (seqM (forS (mapM1 unTup (mapM1 (fun y : ((Tup (Int × Int)) × Int) => y.1) (pureM x4))) (fun (s9 : ((Dic Int))) (x10 : (Int × Int)) => (seqM (putS s9 (addM (getD2M (pureM s9) (pureM x10.1) (pureM (0 : Int))) (mulM (pureM x10.2) (mapM1 (fun y : ((Tup (Int × Int)) × Int) => y.2) (pureM x4)))) (pureM x10.1)) (fun wet11 : (Dic Int) => (pureM (.nx (wet11)))))) (s3.2.2.1)) (fun s12 : ((Dic Int)) => (pureM (.nx (way7, uv8.2.1, s12, uv8.1)))))))))))))) (uv2.1, uv2.2.1, uv2.2.2.1, uv2.2.2.2.1)) (fun s13 : (Int × Int × (Dic Int) × (Tup (Int × Int))) => (seqM (iteM (neDM (compM (mapM1 unTup (mapM1 (fun y : (T3 Int Int (Tup (Int × Int))) => y.c) (pureM u.1))) (fun x14 : (Int × Int) => (neIM (getD2M (pureM s13.2.2.1) (pureM x14.1) (pureM (0 : Int))) (pureM x14.2))) (fun x14 : (Int × Int) => (pureM x14.1))) (lstM (pureM ([] : List Int)))) (retS (pureM (none : Option (List Int)))) (pureM (.nx ()))) (fun s15 : Unit => (retS (mapM1 some (lstM (consM (pureM s13.1) (consM (pureM s13.2.1) (pureM ([] : List Int)))))))))))))))
def f_b_plan (u : (T3 Int Int (Tup (Int × Int))) × (Tup ((Tup (Int × Int)) × Int)) × Unit) : Option (Option (List Int)) := (retM none (m_b_plan u) ()).map (·.1)
theorem nodup_len : ∀ {l m : List Int}, l.Nodup → (∀ x ∈ l, x ∈ m) → l.length ≤ m.length
  | [], _, _, _ => Nat.zero_le _
  | x :: l, m, h, hm => by
    have h' := List.nodup_cons.mp h
    have hx := hm x List.mem_cons_self
    have ih := nodup_len (l := l) (m := m.erase x) h'.2 fun y hy => (List.mem_erase_of_ne (by intro z; rw [z] at hy; exact h'.1 hy)).mpr (hm y (List.mem_cons_of_mem _ hy))
    rw [List.length_erase_of_mem hx] at ih
    have := List.length_pos_of_mem hx
    rw [List.length_cons]
    omega
theorem b_fewest_ok {g : Gdn} (h : Gok g) : f_b_fewest (g, ()) = some (cdiv ((unTup g.c).map (·.2)).sum g.b) := by
  refine f_of ?_
  have hl := h.len
  have hc := h.can
  simp only [m_b_fewest, nf1, nf2, nf3, nf4]
  rw [guard_true (lenOk_le (by omega)), guard_true ⟨by omega, PL.wide_of (by omega) (by omega)⟩, cdiv_neg hc.1]
structure TripB (g : Gdn) (v : List (Int × Int)) : Prop where
  ne : v ≠ []
  row : ∀ r ∈ v, 1 ≤ r.2 ∧ ∃ b ∈ unTup g.c, b.1 = r.1
  asc : (v.map (·.1)).Pairwise (· < ·)
  sm : (v.map (·.2)).sum ≤ g.b
theorem TripB.len {g : Gdn} {v : List (Int × Int)} (h : TripB g v) : v.length ≤ (unTup g.c).length := by
  have := nodup_len (l := v.map (·.1)) (m := (unTup g.c).map (·.1)) (asc_nodup h.asc) fun x hx => by
    obtain ⟨r, hr, rfl⟩ := List.mem_map.mp hx
    obtain ⟨_, b, hb, e⟩ := h.row r hr
    exact List.mem_map.mpr ⟨b, hb, e⟩
  rw [List.length_map, List.length_map] at this
  exact this
theorem b_is_trip_ok {g : Gdn} (h : Gok g) {v : Tup (Int × Int)} (hv : TripB g (unTup v)) : f_b_is_trip (g, v, ()) = some true := by
  have hl := h.len
  have vl := hv.len
  refine f_ok ?_
  show OkM KU 0 (retM none (m_b_is_trip (g, v, ()))) _
  simp only [m_b_is_trip, nfK, nf2, nf3, nf4, nf7, nf8, nf9]
  have t0 : (tyName (enc v) == "tuple") = true := by
    rw [show tyName (enc v) = "tuple" from rfl]
    decide
  have tr : ∀ x : Int × Int, (tyName (enc x) == "tuple") = true := fun x => by
    rw [show tyName (enc x) = "tuple" from rfl]
    decide
  have ti : ∀ x : Int, (tyName (enc x) == "int") = true ∧ (tyName (enc x) == "bool") = false := fun x => by
    rw [show tyName (enc x) = "int" from rfl]
    decide
  have nv : v ≠ toTup [] := fun z => hv.ne z
  refine ob_guard (lenOk_le (by omega)) (ob_guard (by decide) ?_)
  rw [t0]
  simp only [Bool.not_true, Bool.false_eq_true, if_false, nfK]
  refine ob_guard (lenOk_le (by simp)) (ob_guard shp_two ?_)
  rw [eqv_no nv]
  simp only [Bool.false_eq_true, if_false, nfK]
  refine ob_lp (unTup v).length 0 0 (fun pre (s : Int × Int) => s.2 = (pre.map (·.2)).sum ∧ (s.1 = -10 ^ Int.toNat 7 ∧ pre = [] ∨ ∃ r, pre.getLast? = some r ∧ s.1 = r.1)) (Nat.le_refl _) (by omega) ⟨rfl, .inl ⟨rfl, rfl⟩⟩ (fun pre r post s e hs => ?_) fun s hs => ?_
  · have hr : r ∈ unTup v := by rw [e]; exact List.mem_append_right _ List.mem_cons_self
    have q := hv.row r hr
    obtain ⟨b, hb, eb⟩ := q.2
    have pb := h.pl b hb
    have dt : decide True = true := rfl
    rw [tr r]
    simp only [dt, Bool.not_true, Bool.or_self, Bool.false_eq_true, if_false, nfK]
    refine ob_guard (lenOk_le (by show (2 : Nat) ≤ _; decide)) ?_
    refine ob_filter (q := fun _ => false) (g := fun x : Int => x) (fun x _ => ?_) (fun _ _ h => by cases h) ?_
    · rw [(ti x).1, (ti x).2]
      rfl
    rw [List.filter_eq_nil_iff.mpr fun _ _ => Bool.false_ne_true]
    refine ob_guard (lenOk_le (by simp)) (ob_guard shp_two ?_)
    rw [(LE.same _ _).mpr (show ([] : List Int).map (fun x => x) = [] from rfl)]
    have lt : s.1 < r.1 := by
      rcases hs.2 with ⟨e1, _⟩ | ⟨c, hc, e1⟩
      · rw [e1, show (-10 ^ Int.toNat 7 : Int) = -10000000 by decide]
        omega
      · rw [e1]
        have asc := hv.asc
        rw [e, List.map_append, List.pairwise_append] at asc
        exact asc.2.2 c.1 (List.mem_map.mpr ⟨c, List.mem_of_getLast? hc, rfl⟩) r.1 (List.mem_map.mpr ⟨r, List.mem_cons_self, rfl⟩)
    have d1 : decide (r.1 ≤ s.1) = false := decide_eq_false (by omega)
    have d2 : decide (r.1 ∈ (unTup g.c).map Prod.fst) = true := decide_eq_true (List.mem_map.mpr ⟨b, hb, eb⟩)
    have d3 : decide (r.2 < 1) = false := decide_eq_false (by omega)
    simp only [nfK, d1, d2, d3, Bool.not_true, Bool.or_self, Bool.false_eq_true, if_false]
    refine ob_pure ⟨?_, .inr ⟨r, by simp, rfl⟩⟩
    show s.2 + r.2 = _
    rw [hs.1, List.map_append, List.sum_append]
    simp
  · refine ob_pure ?_
    exact decide_eq_true (by rw [hs.1]; exact hv.sm)
/-- the way of a trip -/
def tripW (a : Int) (rows : List (Int × Int)) : Int := isum (fun x => 2 * PP.hit a x rows) (-4000000) 4000000
theorem tripW_ok {a : Int} {rows : List (Int × Int)} (ha : -4000000 ≤ a ∧ a ≤ 4000000) (hr : ∀ r ∈ rows, -4000000 ≤ r.1 ∧ r.1 ≤ 4000000) : ∃ hi lo, maxL (a :: rows.map Prod.fst) = some hi ∧ minL (a :: rows.map Prod.fst) = some lo ∧ tripW a rows = 2 * (hi - lo) ∧ lo ≤ hi ∧ -4000000 ≤ lo ∧ hi ≤ 4000000 := by
  obtain ⟨hi, e1, m1, b1⟩ := maxL_some (l := a :: rows.map Prod.fst) (List.cons_ne_nil _ _)
  obtain ⟨lo, e2, m2, b2⟩ := minL_some (l := a :: rows.map Prod.fst) (List.cons_ne_nil _ _)
  have inr : ∀ x ∈ a :: rows.map Prod.fst, -4000000 ≤ x ∧ x ≤ 4000000 := fun x hx => by
    rcases List.mem_cons.mp hx with rfl | hx
    · exact ha
    · obtain ⟨r, hr', rfl⟩ := List.mem_map.mp hx
      exact hr r hr'
  have i1 := inr hi m1
  have i2 := inr lo m2
  have a1 := b1 a List.mem_cons_self
  have a2 := b2 a List.mem_cons_self
  have rb : ∀ r ∈ rows, lo ≤ r.1 ∧ r.1 ≤ hi := fun r hr' => ⟨b2 r.1 (List.mem_cons_of_mem _ (List.mem_map.mpr ⟨r, hr', rfl⟩)), b1 r.1 (List.mem_cons_of_mem _ (List.mem_map.mpr ⟨r, hr', rfl⟩))⟩
  have h0 : ∀ x, x < lo ∨ hi ≤ x → 2 * PP.hit a x rows = 0 := fun x hx => by
    have : ¬ (rows.any fun r => if x < a then decide (r.1 ≤ x) else decide (x < r.1)) = true := by
      rw [List.any_eq_true]
      rintro ⟨r, hr', q⟩
      have := rb r hr'
      split at q
      · have := of_decide_eq_true q
        omega
      · have := of_decide_eq_true q
        omega
    unfold PP.hit
    rw [if_neg this]
    rfl
  have h1 : ∀ x, lo ≤ x → x < hi → 2 * PP.hit a x rows = 2 := fun x x0 x1 => by
    have : (rows.any fun r => if x < a then decide (r.1 ≤ x) else decide (x < r.1)) = true := by
      rw [List.any_eq_true]
      by_cases c : x < a
      · have : lo ≠ a := by omega
        rcases List.mem_cons.mp m2 with z | z
        · exact absurd z this
        · obtain ⟨r, hr', e⟩ := List.mem_map.mp z
          exact ⟨r, hr', by rw [if_pos c]; exact decide_eq_true (by omega)⟩
      · have : hi ≠ a := by omega
        rcases List.mem_cons.mp m1 with z | z
        · exact absurd z this
        · obtain ⟨r, hr', e⟩ := List.mem_map.mp z
          exact ⟨r, hr', by rw [if_neg c]; exact decide_eq_true (by omega)⟩
    unfold PP.hit
    rw [if_pos this]
    rfl
  refine ⟨hi, lo, e1, e2, ?_, by omega, i2.1, i1.2⟩
  unfold tripW
  rw [isum_add (f := fun x => 2 * PP.hit a x rows) i2.1 (show lo ≤ 4000000 by omega), isum_add (f := fun x => 2 * PP.hit a x rows) (show lo ≤ hi by omega) i1.2, isum_zero (a := -4000000) fun x _ q => h0 x (.inl q), isum_zero (b := 4000000) fun x q _ => h0 x (.inr q), isum_const' (c := 2) (show lo ≤ hi by omega) h1]
  omega
theorem b_trip_way_ok {g : Gdn} {v : Tup (Int × Int)} (ha : -4000000 ≤ g.a ∧ g.a ≤ 4000000) (hr : ∀ r ∈ unTup v, -4000000 ≤ r.1 ∧ r.1 ≤ 4000000) (hl : (unTup v).length ≤ 1000) : f_b_trip_way (g, v, ()) = some (tripW g.a (unTup v)) := by
  refine f_of ?_
  simp only [m_b_trip_way, nfK, nf2, nf3, nf4, nf7, nf8, nf9]
  obtain ⟨hi, lo, e1, e2, e3, le, b1, b2⟩ := tripW_ok ha hr
  rw [guard_true (lenOk_le (by omega)), guard_true (lenOk_le (by simp)), guard_true (lenOk_le (by rw [List.length_map]; simp only [List.length_cons, List.length_nil]; omega)), e1]
  simp only [nfK]
  rw [guard_true (lenOk_le (by simp)), guard_true (lenOk_le (by rw [List.length_map]; simp only [List.length_cons, List.length_nil]; omega)), e2]
  simp only [nfK]
  rw [guard_true ⟨by decide, PL.wide_of (by omega) (by omega)⟩, e3]
theorem valD_put {A : Type} (l : Dic A) (k p : Int) (x : A) : valD (putD l k x) p = if p = k then some x else valD l p := by
  unfold valD putD
  have key : ∀ m : List (Int × A), ((m.map fun q => if q.1 = k then (q.1, x) else q).find? fun q => decide (q.1 = p)).map (·.2) = if p = k then (if (m.any fun q => decide (q.1 = k)) = true then some x else none) else (m.find? fun q => decide (q.1 = p)).map (·.2) := fun m => by
    induction m with
    | nil =>
      show none = _
      split <;> rfl
    | cons q m ih =>
      rw [List.map_cons, List.find?_cons, List.find?_cons, List.any_cons]
      by_cases h : q.1 = k
      · rw [if_pos h]
        by_cases hp : p = k
        · rw [if_pos hp, hp, decide_eq_true h, Bool.true_or, if_pos rfl]
          rfl
        · rw [if_neg hp]
          rw [if_neg hp] at ih
          have : ¬ q.1 = p := fun z => hp (z.symm.trans h)
          show Option.map _ (match decide (q.1 = p) with | true => some (q.1, x) | false => _) = _
          rw [decide_eq_false this]
          exact ih
      · rw [if_neg h]
        by_cases hp : p = k
        · rw [if_pos hp] at ih ⊢
          have : ¬ q.1 = p := fun z => h (z.trans hp)
          rw [decide_eq_false this, decide_eq_false h, Bool.false_or]
          exact ih
        · rw [if_neg hp] at ih ⊢
          by_cases z : q.1 = p
          · rw [decide_eq_true z]
          · rw [decide_eq_false z]
            exact ih
  by_cases h : ((unDic l).any fun p => decide (p.1 = k)) = true
  · rw [if_pos h]
    have := key (unDic l)
    rw [h, if_pos rfl] at this
    exact this
  · rw [if_neg h]
    show ((unDic l ++ [(k, x)]).find? fun q => decide (q.1 = p)).map (·.2) = _
    rw [List.find?_append]
    by_cases hp : p = k
    · rw [if_pos hp]
      have : (unDic l).find? (fun q => decide (q.1 = p)) = none := by
        rw [List.find?_eq_none]
        intro q hq z
        refine h (List.any_eq_true.mpr ⟨q, hq, ?_⟩)
        rw [← hp]
        exact z
      rw [this, hp]
      rw [Option.none_or, List.find?_cons]
      simp
    · rw [if_neg hp]
      have : List.find? (fun q : Int × A => decide (q.1 = p)) [(k, x)] = none := by
        rw [List.find?_cons]
        have : decide (k = p) = false := decide_eq_false fun z => hp z.symm
        simp [this]
      rw [this, Option.or_none]
def cntT (f : List (Int × Int) → Int) (l : List (Tup (Int × Int) × Int)) : Int := (l.map fun x => x.2 * f (unTup x.1)).sum
theorem cntT_app (f : List (Int × Int) → Int) (l m : List (Tup (Int × Int) × Int)) : cntT f (l ++ m) = cntT f l + cntT f m := by
  unfold cntT
  rw [List.map_append, List.sum_append]
theorem cntT_one (f : List (Int × Int) → Int) (x : Tup (Int × Int) × Int) : cntT f [x] = x.2 * f (unTup x.1) := by
  unfold cntT
  simp
structure PlanB (g : Gdn) (v : List (Tup (Int × Int) × Int)) : Prop where
  len : v.length ≤ 1000
  tr : ∀ x ∈ v, TripB g (unTup x.1) ∧ 1 ≤ x.2 ∧ x.2 ≤ 100000000000000
  up : (v.map (·.1)).Pairwise fun a b => ltT a b = true
  lit : ∀ b ∈ unTup g.c, cntT (litP fun p => decide (p = b.1)) v = b.2
theorem b_plan_ok {g : Gdn} (h : Gok g) {v : Tup (Tup (Int × Int) × Int)} (hv : PlanB g (unTup v)) : f_b_plan (g, v, ()) = some (some [cntT (tripW g.a) (unTup v), cntT (fun _ => 1) (unTup v)]) := by
  have hl := h.len
  have ht := h.tap
  have hc := h.can
  have t0 : (tyName (enc v) == "tuple") = true := by
    rw [show tyName (enc v) = "tuple" from rfl]
    decide
  have tr : ∀ x : Tup (Int × Int) × Int, (tyName (enc x) == "tuple") = true := fun x => by
    rw [show tyName (enc x) = "tuple" from rfl]
    decide
  have ti : ∀ x : Int, (tyName (enc x) == "int") = true ∧ (tyName (enc x) == "bool") = false := fun x => by
    rw [show tyName (enc x) = "int" from rfl]
    decide
  refine f_ok ?_
  show OkM KU 0 (retM none (m_b_plan (g, v, ()))) _
  simp only [m_b_plan, nfK, nf2, nf3, nf4, nf5, nf7, nf8, nf9]
  rw [t0]
  refine PP.ob_rt ?_
  simp only [Bool.not_true, Bool.false_eq_true, if_false, nfK]
  refine ob_guard (lenOk_le (by simp)) ?_
  refine ob_for 1000 0 0 (fun pre (s : Int × Int × Dic Int × Tup (Int × Int)) => s.1 = cntT (tripW g.a) pre ∧ s.2.1 = cntT (fun _ => 1) pre ∧ (∀ p, (valD s.2.2.1 p).getD 0 = cntT (litP fun q => decide (q = p)) pre) ∧ (unDic s.2.2.1).length ≤ 40 * pre.length ∧ (pre = [] ∧ s.2.2.2 = toTup [] ∨ ∃ x, pre.getLast? = some x ∧ s.2.2.2 = x.1)) hv.len (by omega) ⟨rfl, rfl, fun _ => rfl, Nat.zero_le _, .inl ⟨rfl, rfl⟩⟩ (fun pre x post s e hs => ?_) fun s hs => ?_
  · have hx : x ∈ unTup v := by rw [e]; exact List.mem_append_right _ List.mem_cons_self
    obtain ⟨tb, x1, x2⟩ := hv.tr x hx
    have pl : pre.length ≤ 1000 := by
      have := congrArg List.length e
      have := hv.len
      rw [List.length_append] at *
      omega
    have rb : ∀ r ∈ unTup x.1, -1000000 ≤ r.1 ∧ r.1 ≤ 1000000 := fun r hr => by
      obtain ⟨_, b, hb, eb⟩ := tb.row r hr
      have := h.pl b hb
      omega
    have tl := tb.len
    obtain ⟨s1, s2, s3, s4, s5⟩ := hs
    have lt : ltT s.2.2.2 x.1 = true := by
      rcases s5 with ⟨_, e5⟩ | ⟨y, hy, e5⟩
      · rw [e5]
        exact nil_lt _ tb.ne
      · rw [e5]
        have up := hv.up
        rw [e, List.map_append, List.pairwise_append] at up
        exact up.2.2 y.1 (List.mem_map.mpr ⟨y, List.mem_of_getLast? hy, rfl⟩) x.1 (List.mem_map.mpr ⟨x, List.mem_cons_self, rfl⟩)
    have d1 : decide (x.2 < 1) = false := decide_eq_false (by omega)
    have dt : decide True = true := rfl
    obtain ⟨_, _, _, _, wq, w1, w2, w3⟩ := tripW_ok (a := g.a) (rows := unTup x.1) ht fun r hr => by have := rb r hr; omega
    rw [tr x]
    simp only [Bool.not_true, Bool.false_eq_true, if_false, nfK, dt, b_is_trip_ok h tb, (ti x.2).1, (ti x.2).2, d1, lt, Bool.true_or, Bool.or_self, Bool.or_false, b_trip_way_ok (g := g) (v := x.1) ht (fun r hr => by have := rb r hr; omega) (by omega)]
    refine ob_guard ⟨PL.wide_of (by omega) (by omega), PL.wide_of (by omega) (by omega)⟩ ?_
    refine ob_for 40 0 0 (fun pre2 (d : Dic Int) => (∀ p, (valD d p).getD 0 = cntT (litP fun q => decide (q = p)) pre + x.2 * litP (fun q => decide (q = p)) pre2) ∧ (unDic d).length ≤ 40 * pre.length + pre2.length) (by omega) (by omega) ⟨fun p => by
      rw [s3 p]
      show _ = _ + x.2 * 0
      rw [Int.mul_zero, Int.add_zero], by rw [List.length_nil]; omega⟩ (fun pre2 r post2 d e2 hd => ?_) fun d hd => ?_
    · have hr : r ∈ unTup x.1 := by rw [e2]; exact List.mem_append_right _ List.mem_cons_self
      have pl2 : pre2.length ≤ 40 := by
        have := congrArg List.length e2
        rw [List.length_append] at this
        omega
      have rl : r.2 ≤ g.b := by
        have sm := tb.sm
        have : r.2 ≤ ((unTup x.1).map (·.2)).sum := by
          rw [e2, List.map_append, List.sum_append, List.map_cons, List.sum_cons]
          have nn : ∀ m : List (Int × Int), (∀ y ∈ m, y ∈ unTup x.1) → 0 ≤ (m.map (·.2)).sum := fun m => by
            induction m with
            | nil => exact fun _ => Int.le_refl _
            | cons y m ih =>
              intro hm
              rw [List.map_cons, List.sum_cons]
              have := ih fun z hz => hm z (List.mem_cons_of_mem _ hz)
              have := (tb.row y (hm y List.mem_cons_self)).1
              omega
          have n1 := nn pre2 fun y hy => by rw [e2]; exact List.mem_append_left _ hy
          have n2 := nn post2 fun y hy => by rw [e2]; exact List.mem_append_right _ (List.mem_cons_of_mem _ hy)
          omega
        omega
      have r1 := (tb.row r hr).1
      have hd2 := hd.2
      refine ob_guard ⟨PL.wide_of (by omega) (by omega), PL.wide_of (by omega) (by omega)⟩ (ob_guard (lenOk_le (by omega)) (ob_pure ⟨fun p => ?_, ?_⟩))
      · rw [valD_put, litP_app, litP_cons]
        show (if p = r.1 then some _ else valD d p).getD 0 = _ + x.2 * (_ + ((if decide (r.1 = p) = true then r.2 else 0) + 0))
        rw [Int.mul_add, Int.add_zero]
        by_cases c : p = r.1
        · rw [if_pos c, c, if_pos (decide_eq_true rfl)]
          show (valD d r.1).getD 0 + r.2 * x.2 = _
          rw [hd.1 r.1, Int.mul_comm r.2 x.2]
          omega
        · rw [if_neg c, if_neg (by rw [decide_eq_false fun z => c z.symm]; exact Bool.false_ne_true), hd.1 p]
          omega
      · have := putD_len d r.1 ((valD d r.1).getD 0 + r.2 * x.2)
        rw [List.length_append, List.length_singleton]
        omega
    · refine ob_pure ⟨?_, ?_, fun p => ?_, ?_, .inr ⟨x, by simp, rfl⟩⟩
      · show s.1 + x.2 * _ = _
        rw [cntT_app, cntT_one, s1]
      · show s.2.1 + x.2 = _
        rw [cntT_app, cntT_one, s2, Int.mul_one]
      · show (valD d p).getD 0 = _
        rw [hd.1 p, cntT_app, cntT_one]
      · show (unDic d).length ≤ _
        have := hd.2
        rw [List.length_append, List.length_singleton]
        omega
  · refine ob_guard (lenOk_le (by omega)) ?_
    have ef : ((unTup g.c).filter fun x => !decide ((valD s.2.2.1 x.1).getD 0 = x.2)) = [] := by
      rw [List.filter_eq_nil_iff]
      intro b hb
      rw [hs.2.2.1 b.1, hv.lit b hb]
      simp
    rw [ef]
    refine ob_guard (lenOk_le (by simp)) (ob_guard shp_two ?_)
    rw [(LE.same _ _).mpr (show ([] : List (Int × Int)).map Prod.fst = ([] : List Int) from rfl)]
    simp only [Bool.not_true, Bool.false_eq_true, if_false, nfK]
    refine ob_guard (lenOk_le (by simp)) (ob_pure ⟨_, rfl, ?_⟩)
    rw [hs.1, hs.2.1]
end PL

namespace PL
open PySem L2 Enc PP
theorem cntT_perm {f : List (Int × Int) → Int} {l m : List (Tup (Int × Int) × Int)} (h : l.Perm m) : cntT f l = cntT f m := perm_sum (h.map _)
theorem cntT_plan {f : List (Int × Int) → Int} (hf : ∀ r, f (sortD r) = f r) (g : Gdn) : cntT f (unTup (planG g)) = cnt f (planL g) := by
  show cntT f (sortD _) = _
  rw [cntT_perm (sortD_perm _)]
  unfold cntT cnt
  rw [List.map_map]
  refine congrArg List.sum (List.map_congr_left fun x _ => ?_)
  show x.2 * f (sortD x.1) = x.2 * f x.1
  rw [hf]
theorem hit_perm {a x : Int} {l m : List (Int × Int)} (h : l.Perm m) : hit a x l = hit a x m := by
  unfold hit
  have : (l.any fun r => if x < a then decide (r.1 ≤ x) else decide (x < r.1)) = m.any fun r => if x < a then decide (r.1 ≤ x) else decide (x < r.1) := by
    rw [Bool.eq_iff_iff, List.any_eq_true, List.any_eq_true]
    exact ⟨fun ⟨r, hr, q⟩ => ⟨r, h.mem_iff.mp hr, q⟩, fun ⟨r, hr, q⟩ => ⟨r, h.mem_iff.mpr hr, q⟩⟩
  rw [this]
theorem tripW_perm {a : Int} {l m : List (Int × Int)} (h : l.Perm m) : tripW a l = tripW a m := isum_congr fun x _ _ => by rw [hit_perm h]
theorem cnt_isum (F : Rws → Int → Int) (A B : Int) : ∀ L : Itms, cnt (fun r => isum (F r) A B) L = isum (fun x => cnt (fun r => F r x) L) A B
  | [] => (isum_zero fun _ _ _ => rfl).symm
  | x :: L => by
    have ih := cnt_isum F A B L
    unfold cnt at ih ⊢
    rw [List.map_cons, List.sum_cons, ih, ← isum_mul, ← isum_plus]
    refine isum_congr fun y _ _ => ?_
    rw [List.map_cons, List.sum_cons]
theorem plan_way {g : Gdn} (h : Asc g) : cnt (tripW g.a) (planL g) = wayR 4000000 g := by
  unfold tripW
  rw [cnt_isum (fun r x => 2 * hit g.a x r)]
  refine isum_congr fun x _ _ => ?_
  rw [cnt_mul, plan_hit h]
theorem sides_len (g : Gdn) : (lefts g).length + (rights g).length ≤ (unTup g.c).length := by
  have er : (rights g).length = ((unTup g.c).filter fun x => decide (g.a < x.1)).length := ((List.reverse_perm _).filter _).length_eq
  rw [er]
  unfold lefts
  induction unTup g.c with
  | nil => exact Nat.le_refl _
  | cons b l ih =>
    rw [List.length_cons]
    by_cases c : b.1 < g.a
    · rw [List.filter_cons_of_pos (by simpa using c), List.filter_cons_of_neg (by simp; omega), List.length_cons]
      omega
    · rw [List.filter_cons_of_neg (by simpa using c)]
      by_cases d : g.a < b.1
      · rw [List.filter_cons_of_pos (by simpa using d), List.length_cons]
        omega
      · rw [List.filter_cons_of_neg (by simpa using d)]
        omega
theorem plan_len {g : Gdn} (h : Asc g) : (planL g).length ≤ 2 * (unTup g.c).length + 4 := by
  have p1 : (fullL g).length ≤ 2 * (lefts g).length := (packL_len (lefts g) g.b).1
  have p2 : (fullR g).length ≤ 2 * (rights g).length := (packL_len (rights g) g.b).1
  have sl := sides_len g
  have tl : (tailG g).length ≤ 2 := by
    unfold tailG
    rw [List.length_append]
    split <;> split <;> simp
  rw [plan_eq h.can (fill_nn h), List.length_append]
  rcases ends h with ⟨_, _, hf⟩ | ⟨w, _, _, _, _, hf⟩ | ⟨w, v, _, _, _, _, _, _, _, hf⟩
  · rw [hf]
    show (fullL g ++ fullR g).length + _ ≤ _
    rw [List.length_append]
    omega
  · rw [hf]
    show (fullL g ++ fullR g ++ [_]).length + _ ≤ _
    rw [List.length_append, List.length_append, List.length_singleton]
    omega
  · rw [hf]
    show (fullL g ++ fullR g ++ [_] ++ [_]).length + _ ≤ _
    rw [List.length_append, List.length_append, List.length_append, List.length_singleton, List.length_singleton]
    omega
theorem le_cnt : ∀ {L : Itms}, (∀ x ∈ L, 1 ≤ x.2) → ∀ x ∈ L, x.2 ≤ cnt (fun _ => 1) L ∧ 0 ≤ cnt (fun _ => 1) L
  | y :: L, h, x, hx => by
    have nn : ∀ M : Itms, (∀ x ∈ M, 1 ≤ x.2) → 0 ≤ cnt (fun _ => 1) M := fun M => by
      induction M with
      | nil => exact fun _ => Int.le_refl _
      | cons z M ih =>
        intro hM
        have := ih fun x hx => hM x (List.mem_cons_of_mem _ hx)
        have := hM z List.mem_cons_self
        unfold cnt at *
        rw [List.map_cons, List.sum_cons, Int.mul_one]
        omega
    have e : cnt (fun _ => 1) (y :: L) = y.2 + cnt (fun _ => 1) L := by
      unfold cnt
      rw [List.map_cons, List.sum_cons, Int.mul_one]
    have n0 := nn L fun x hx => h x (List.mem_cons_of_mem _ hx)
    have y1 := h y List.mem_cons_self
    rw [e]
    rcases List.mem_cons.mp hx with rfl | hx
    · omega
    · have := le_cnt (L := L) (fun x hx => h x (List.mem_cons_of_mem _ hx)) x hx
      omega
theorem plan_item {g : Gdn} {x : Tup (Int × Int) × Int} (hx : x ∈ unTup (planG g)) : ∃ y ∈ planL g, x = (toTup (sortD y.1), y.2) := by
  have hx : x ∈ sortD _ := hx
  obtain ⟨y, hy, rfl⟩ := List.mem_map.mp ((sortD_perm _).mem_iff.mp hx)
  exact ⟨y, hy, rfl⟩
theorem planB {g : Gdn} (h : Gok g) (ha : Asc g) : PlanB g (unTup (planG g)) := by
  have hl := h.len
  have pv := plan_valid ha
  have pl := plan_len ha
  have tt := plan_trips ha
  have tb : ((unTup g.c).map (·.2)).sum ≤ 40000000000000 ∧ 0 ≤ ((unTup g.c).map (·.2)).sum := by
    have := h.lit fun _ => true
    rw [litP_all fun _ _ => rfl] at this
    exact ⟨this.2, this.1⟩
  refine ⟨?_, fun x hx => ?_, ?_, fun b hb => ?_⟩
  · show (sortD _).length ≤ 1000
    rw [(sortD_perm _).length_eq, List.length_map]
    omega
  · obtain ⟨y, hy, rfl⟩ := plan_item hx
    have tv := pv y hy
    have p := sortD_perm y.1
    refine ⟨⟨fun z => tv.ne ?_, fun r hr => tv.row r (p.mem_iff.mp hr), sortD_asc tv.nd, ?_⟩, tv.tm, ?_⟩
    · have := p.length_eq
      rw [show sortD y.1 = [] from z] at this
      exact List.length_eq_zero_iff.mp this.symm
    · show ((sortD y.1).map (·.2)).sum ≤ g.b
      rw [perm_sum (p.map _)]
      exact tv.sm
    · have := (le_cnt (fun z hz => (pv z hz).tm) y hy).1
      have c := cdiv_le ha.can tb.2
      rw [tt] at this
      show y.2 ≤ _
      omega
  · refine sortD_rise ?_
    rw [List.map_map]
    refine List.pairwise_map.mpr ((plan_df ha).imp fun {x y} q z => ?_)
    obtain ⟨f, hf⟩ := q
    refine hf ?_
    have e : sortD x.1 = sortD y.1 := z
    rw [← litP_perm (sortD_perm x.1), ← litP_perm (sortD_perm y.1), e]
  · rw [cntT_plan (fun r => litP_perm (sortD_perm r)), plan_lit ha]
    have key : ∀ {l : List (Int × Int)}, (l.map (·.1)).Pairwise (· < ·) → ∀ b ∈ l, litP (fun p => decide (p = b.1)) l = b.2 := fun {l} => by
      induction l with
      | nil => exact fun _ b hb => by cases hb
      | cons c l ih =>
        intro q b hb
        have q' := List.pairwise_cons.mp (show (c.1 :: l.map (·.1)).Pairwise (· < ·) from q)
        rw [litP_cons]
        rcases List.mem_cons.mp hb with rfl | hb
        · rw [if_pos (decide_eq_true rfl), litP_none fun x hx => decide_eq_false fun z => by
            have := q'.1 x.1 (List.mem_map.mpr ⟨x, hx, rfl⟩)
            omega, Int.add_zero]
        · have := q'.1 b.1 (List.mem_map.mpr ⟨b, hb, rfl⟩)
          rw [if_neg (by rw [decide_eq_false (by omega)]; exact Bool.false_ne_true), ih q'.2 b hb, Int.zero_add]
    exact key ha.asc b hb
/-- the law's look at the best plan -/
theorem b_best_ok {g : Gdn} (h : Gok g) (ha : Asc g) : f_b_plan (g, planG g, ()) = some (some [wayR 4000000 g, cdiv ((unTup g.c).map (·.2)).sum g.b]) := by
  rw [b_plan_ok h (planB h ha), cntT_plan (fun r => tripW_perm (sortD_perm r)), cntT_plan (fun _ => rfl), plan_way ha, plan_trips ha]
end PL

local macro_rules | `(tactic| walk_at "side") => `(tactic| first | with_reducible exact PL.shp_two | omega | decide | exact Nat.le_of_ble_eq_true rfl | exact PL.wide_of (by omega) (by omega) | exact ⟨by omega, PL.wide_of (by omega) (by omega)⟩ | exact ⟨PL.wide_of (by omega) (by omega), PL.wide_of (by omega) (by omega)⟩ | exact ⟨by omega, by omega⟩ | (unfold PL.modOk; omega) | (unfold PL.lenOk; omega) | ((try unfold PL.lenOk); simp only [List.length_append, List.length_cons, List.length_nil, List.length_map, List.length_replicate, List.length_dropLast, PL.len_rangeL]; omega))
local macro_rules | `(tactic| walk_at "step") => `(tactic| first | ((with_reducible refine PL.ob_guard ?hg ?_); case hg => (walk_at "side")) | ((with_reducible refine PL.ob_bnext ?h1 ?h2 (by omega) fun _ _ _ => ?_); (case h1 => (walk_at "side")); (case h2 => (walk_at "side"))) | ((with_reducible refine PL.ob_bnext1 ?h1 ?h2 (by omega) fun _ _ _ => ?_); (case h1 => (walk_at "side")); (case h2 => (walk_at "side"))) | ((with_reducible refine PL.ob_ix ?h0 ?h1 fun _ hx => ?_); (case h0 => omega); (case h1 => (simp only [List.length_append, List.length_cons, List.length_nil, List.length_map] at *; omega)); simp only [List.mem_append, List.mem_cons, List.not_mem_nil, or_false] at hx))
namespace K10
open PySem L2 PL PL.Enc
theorem next_eq : d__law_next = d_b_next := rfl
theorem garden_eq : d__law_garden = d_b_garden := rfl
theorem best_eq : f_best_plan = PP.f_best_plan := rfl
theorem least_eq : f__law_least = f_b_least := rfl
theorem beyond_eq : f__law_beyond = f_b_beyond := rfl
theorem way_eq : f_least_way = PP.f_least_way := rfl
theorem counts_eq : f_counts_of = PP.f_counts_of := rfl
theorem plan_eq2 : f__law_plan = f_b_plan := rfl
structure Nice (g : Gdn) : Prop where
  gok : Gok g
  asc : PP.Asc g
  len : (unTup g.c).length ≤ 12
theorem Nice.plen {g : Gdn} (h : Nice g) : (unTup (PP.planG g)).length ≤ 28 := by
  have := PL.plan_len h.asc
  have := h.len
  show (sortD _).length ≤ 28
  rw [(sortD_perm _).length_eq, List.length_map]
  omega
theorem nice_of {g : Gdn} (h1 : (unTup g.c).length ≤ 12) (h2 : -1000000 ≤ g.a ∧ g.a ≤ 1000000) (h3 : 1 ≤ g.b ∧ g.b ≤ 1000000) (h4 : ((unTup g.c).map (·.1)).Pairwise (· < ·)) (h5 : ∀ x ∈ unTup g.c, -1000000 ≤ x.1 ∧ x.1 ≤ 1000000 ∧ 1 ≤ x.2 ∧ x.2 ≤ 1000000000) : Nice g :=
  ⟨⟨by omega, by omega, by omega, fun x hx => by have := h5 x hx; omega⟩, ⟨h3.1, h4, fun x hx => (h5 x hx).2.2.1⟩, h1⟩
def certG (g : Gdn) (n : Int) : Cert := if wayR 4000000 g ≤ n then Cert.plan (PP.planG g) else Cert.counts (toTup ((strG g).map fun t => cdiv t.c g.b))
theorem cert_ok {g : Gdn} (h : Gok g) (n : Int) : f_certificate (g, n, ()) = some (certG g n) := by
  refine f_of ?_
  simp only [m_certificate, way_eq, best_eq, counts_eq, nf1, nf2, nf3, nf4, nf7, PP.least_ok h (Int.le_refl 4000000), PP.best_plan_ok h, PP.counts_ok h]
  unfold certG
  by_cases c : wayR 4000000 g ≤ n
  · rw [if_pos (decide_eq_true c), if_pos c]
    rfl
  · rw [if_neg (by rw [decide_eq_false c]; exact Bool.false_ne_true), if_neg c]
    rfl
theorem counts_ok {g : Gdn} (h : Gok g) {n : Int} (hn : n < wayR 4000000 g) : f__law_are_counts (g, n, toTup ((strG g).map fun t => cdiv t.c g.b), ()) = some true := by
  have hc := h.can
  have hs := h.str
  have hm := h.marks
  have t0 : (tyName (enc (toTup ((strG g).map fun t => cdiv t.c g.b))) == "tuple") = true := by
    rw [show tyName (enc (toTup ((strG g).map fun t => cdiv t.c g.b))) = "tuple" from rfl]
    decide
  have ti : ∀ x : Int, (tyName (enc x) == "int") = true ∧ (tyName (enc x) == "bool") = false := fun x => by
    rw [show tyName (enc x) = "int" from rfl]
    decide
  have ez : ((strG g).map fun t => (⟨2 * (t.b - t.a), t.c⟩ : Pr Int Int)).zip ((strG g).map fun t => cdiv t.c g.b) = (strG g).map fun t => ((⟨2 * (t.b - t.a), t.c⟩ : Pr Int Int), cdiv t.c g.b) := by
    rw [List.zip_map']
  have ut : unTup (toTup ((strG g).map fun t => cdiv t.c g.b)) = (strG g).map fun t => cdiv t.c g.b := rfl
  have ll : decide (((((strG g).map fun t => cdiv t.c g.b).length : Nat) : Int) = ((((strG g).map fun t => (⟨2 * (t.b - t.a), t.c⟩ : Pr Int Int)).length : Nat) : Int)) = true := decide_eq_true (by
    rw [List.length_map, List.length_map])
  refine f_ok ?_
  show OkM KU 0 (retM none (m__law_are_counts (g, n, _, ()))) _
  simp only [m__law_are_counts, beyond_eq, nfK, nf2, nf3, nf4, nf7, nf8, nf9, b_beyond_ok h, ut]
  rw [t0, ll, ez]
  refine PP.ob_rt ?_
  simp only [Bool.not_true, Bool.or_self, Bool.false_eq_true, if_false, nfK]
  refine ob_for 40 0 0 (fun pre (s : Int) => s = (pre.map fun x : Pr Int Int × Int => x.1.a * x.2).sum) (by rw [List.length_map]; omega) (by omega) rfl (fun pre x post s e hx => ?_) fun s hx => ?_
  · have hxm : x ∈ (strG g).map fun t => ((⟨2 * (t.b - t.a), t.c⟩ : Pr Int Int), cdiv t.c g.b) := by rw [e]; exact List.mem_append_right _ List.mem_cons_self
    obtain ⟨t, ht, rfl⟩ := List.mem_map.mp hxm
    have q := hs.2 t ht
    have c0 := cdiv_nn hc.1 q.2.2.2.1
    have c1 := cdiv_le hc.1 q.2.2.2.1
    have d1 : decide (cdiv t.c g.b < 0) = false := decide_eq_false (by omega)
    have d2 : decide (t.c ≤ g.b * (cdiv t.c g.b - 1)) = false := decide_eq_false fun z => by
      by_cases w : cdiv t.c g.b = 0
      · rw [w] at z
        have : g.b * (0 - 1) = -g.b := by omega
        omega
      · have := (cdiv_iff (n := t.c) (k := cdiv t.c g.b - 1) hc.1).mpr (by rw [Int.mul_comm]; exact z)
        omega
    simp only [(ti _).1, (ti _).2, d1, Bool.not_true, Bool.or_self, Bool.false_eq_true, if_false, nfK]
    refine ob_guard ⟨PL.wide_of (by omega) (by omega), PL.wide_of (by omega) (by omega)⟩ ?_
    simp only [d2, Bool.false_eq_true, if_false, nfK]
    refine ob_guard ⟨PL.wide_of (by omega) (by omega), PL.wide_of (by omega) (by omega)⟩ (ob_pure ?_)
    show s + _ = _
    rw [hx, List.map_append, List.sum_append]
    simp
  · refine ob_pure ⟨_, rfl, ?_⟩
    have e2 : s = wayR 4000000 g := by
      rw [hx, List.map_map]
      unfold wayR
      rw [← str_sum (g := g) (R := 4000000) (fun m hm' => by have := hm.1 m hm'; omega) (fun n => 2 * cdiv n g.b) (by rw [cdiv_zero hc.1]; rfl)]
      refine congrArg List.sum (List.map_congr_left fun t ht => ?_)
      show 2 * (t.b - t.a) * cdiv t.c g.b = (t.b - t.a) * (2 * cdiv t.c g.b)
      rw [Int.mul_comm 2, Int.mul_assoc]
    exact decide_eq_true (by omega)
theorem is_ok {g : Gdn} (h : Nice g) (n : Int) : f__law_is_certificate (g, n, certG g n, ()) = some true := by
  have t0 : ∀ c : Cert, (tyName (enc c) == "tuple") = true := fun c => by
    rw [show tyName (enc c) = "tuple" by cases c <;> rfl]
    decide
  have t1 : ∀ c : Cert, (tyName (enc c.word) == "str") = true := fun c => by
    rw [show tyName (enc c.word) = "str" from rfl]
    decide
  have dt : decide True = true := rfl
  refine f_ok ?_
  show OkM KU 0 (retM none (m__law_is_certificate (g, n, certG g n, ()))) _
  simp only [m__law_is_certificate, plan_eq2, nfK, nf2, nf3, nf4, nf7, nf8, nf9]
  rw [t0, t1]
  refine PP.ob_rt ?_
  simp only [dt, Bool.not_true, Bool.or_self, Bool.false_eq_true, if_false, nfK]
  unfold certG
  by_cases c : wayR 4000000 g ≤ n
  · rw [if_pos c]
    rw [if_pos (show decide (((Cert.plan (PP.planG g)).word) = ("plan" : Str)) = true from decide_eq_true rfl)]
    have ea : (Cert.plan (PP.planG g)).asPlan = some (PP.planG g) := rfl
    rw [ea]
    simp only [nfK, b_best_ok h.gok h.asc, Option.isSome_some, if_true]
    have a0 : atI [wayR 4000000 g, cdiv ((unTup g.c).map (·.2)).sum g.b] 0 = some (wayR 4000000 g) := rfl
    rw [a0]
    simp only [nfK]
    exact ob_pure ⟨_, rfl, decide_eq_true c⟩
  · rw [if_neg c]
    have w : (Cert.counts (toTup ((strG g).map fun t => cdiv t.c g.b))).word = ("counts" : Str) := rfl
    rw [w, if_neg (show ¬ decide (("counts" : Str) = ("plan" : Str)) = true by decide)]
    simp only [nfK]
    rw [if_pos (show decide True = true from rfl)]
    have ea : (Cert.counts (toTup ((strG g).map fun t => cdiv t.c g.b))).asCounts = some (toTup ((strG g).map fun t => cdiv t.c g.b)) := rfl
    rw [ea]
    simp only [nfK, counts_ok h.gok (show n < wayR 4000000 g by omega)]
    exact ob_pure ⟨_, rfl, rfl⟩
theorem bd_word (w : Str) (hw : w = ("plan" : Str) ∨ w = ("counts" : Str)) : Bd 20 0 (.str w) := by
  rcases hw with rfl | rfl
  · exact ⟨by decide +kernel, by decide +kernel, Nat.le_refl _, by decide +kernel⟩
  · exact ⟨by decide +kernel, by decide +kernel, Nat.le_refl _, by decide +kernel⟩
theorem cert_repr {g : Gdn} (h : Nice g) (n : Int) : repF (certG g n) = some (enc (certG g n)).shown := by
  have pb := planB h.gok h.asc
  have hc := h.gok.can
  have hl := h.len
  have bt : ∀ x ∈ unTup (PP.planG g), Bd (2 * (5243 + 2) + 3) 3 (enc x) := fun x hx => by
    obtain ⟨tb, x1, x2⟩ := pb.tr x hx
    have tl := tb.len
    refine Bd.pair (n := 5243) (h := 2) ?_ ((bd_int (by omega)).mono (by omega) (by omega))
    refine Bd.mono (Bd.tupE (n := 129) (h := 1) (k := 40) (fun r hr => ?_) (by omega)) (by omega) (by omega)
    have q := tb.row r hr
    obtain ⟨b, hb, e⟩ := q.2
    have pl := h.gok.pl b hb
    have rl : r.2 ≤ (((unTup x.1).map (·.2))).sum := by
      have key : ∀ m : List (Int × Int), (∀ y ∈ m, 1 ≤ y.2) → 0 ≤ (m.map (·.2)).sum ∧ ∀ y ∈ m, y.2 ≤ (m.map (·.2)).sum := fun m => by
        induction m with
        | nil => exact fun _ => ⟨Int.le_refl _, fun y hy => by cases hy⟩
        | cons z m ih =>
          intro hm
          have i := ih fun y hy => hm y (List.mem_cons_of_mem _ hy)
          have z1 := hm z List.mem_cons_self
          rw [List.map_cons, List.sum_cons]
          refine ⟨by omega, fun y hy => ?_⟩
          rcases List.mem_cons.mp hy with rfl | hy
          · omega
          · have := i.2 y hy
            omega
      exact (key _ fun y hy => (tb.row y hy).1).2 r hr
    have := tb.sm
    exact Bd.pair (bd_int (by omega)) (bd_int (by omega))
  have bp : Bd (28 * (10493 + 2) + 3) 4 (enc (PP.planG g)) := Bd.tupE (n := 10493) (h := 3) (k := 28) bt (h.plen)
  have hs := h.gok.str
  have bc : Bd (40 * (61 + 2) + 3) 1 (enc (toTup ((strG g).map fun t => cdiv t.c g.b))) := Bd.tupE (n := 61) (h := 0) (k := 40) (fun x hx => by
    obtain ⟨t, ht, rfl⟩ := List.mem_map.mp (show x ∈ (strG g).map fun t => cdiv t.c g.b from hx)
    have q := hs.2 t ht
    have c0 := cdiv_nn hc.1 q.2.2.2.1
    have c1 := cdiv_le hc.1 q.2.2.2.1
    exact bd_int (by omega)) (by show ((strG g).map _).length ≤ 40; rw [List.length_map]; omega)
  refine repF_of (n := 2 * (293863 + 2) + 3) (h := 5) ?_ (by decide) (by decide)
  unfold certG
  by_cases c : wayR 4000000 g ≤ n
  · rw [if_pos c]
    exact Bd.tup (n := 293863) (h := 4) (k := 2) (ds := [.str "plan", enc (PP.planG g)]) (fun d hd => by
      rcases List.mem_cons.mp hd with rfl | hd
      · exact (bd_word _ (.inl rfl)).mono (by omega) (by omega)
      · rw [List.mem_singleton.mp hd]
        exact bp) (by simp)
  · rw [if_neg c]
    exact Bd.tup (n := 293863) (h := 4) (k := 2) (ds := [.str "counts", enc (toTup ((strG g).map fun t => cdiv t.c g.b))]) (fun d hd => by
      rcases List.mem_cons.mp hd with rfl | hd
      · exact (bd_word _ (.inr rfl)).mono (by omega) (by omega)
      · rw [List.mem_singleton.mp hd]
        exact bc.mono (by omega) (by omega)) (by simp)
theorem law_ok : OkM KB 2000 m_law fun r => r = .rt true := by
  simp only [m_law, next_eq, garden_eq, least_eq, nfK, nf2, nf3, nf4, nf7, p10_6, p10_9]
  refine ob_guard ⟨by decide, by decide⟩ ?_
  refine ob_each 18 70 0 (by decide) (by decide) (fun x hx => ?_) ?_
  · have hx := mem_rangeL.mp hx
    refine ob_guard (lenOk_le (by simp)) (ob_guard (by unfold modOk; omega) ?_)
    obtain ⟨most, e1, hm⟩ : ∃ most : Int, atI [(12 : Int), 3, 6, 12] (x % 4) = some most ∧ (0 ≤ most ∧ most ≤ 12) := by
      have : x % 4 = 0 ∨ x % 4 = 1 ∨ x % 4 = 2 ∨ x % 4 = 3 := by omega
      rcases this with e | e | e | e
      · rw [e]
        exact ⟨12, rfl, by decide⟩
      · rw [e]
        exact ⟨3, rfl, by decide⟩
      · rw [e]
        exact ⟨6, rfl, by decide⟩
      · rw [e]
        exact ⟨12, rfl, by decide⟩
    rw [e1]
    simp only [nfK]
    refine ob_bind (d := 60) (e := 10) (ok_bgarden hm (by omega)) (by omega) fun g hg => ?_
    obtain ⟨far, lit, cn, f0, f1, l1, c1, hg, hs⟩ := hg
    have hgl := hg.len
    have hgt := hg.tap
    have hgc := hg.can
    have nice : Nice g := nice_of (by omega) (by omega) (by omega) hg.asc fun y hy => by have := hg.pl y hy; omega
    have wb := way_bd nice.gok
    rw [nice.gok.repr, b_least_ok nice.gok (Int.le_refl 4000000)]
    simp only [nfK]
    refine ob_guard ⟨by decide, PL.wide_of (by omega) (by omega)⟩ (ob_bnext (by omega) (by omega) (by omega) fun r r0 r1 => ob_guard (lenOk_le (by simp)) ?_)
    refine ob_each 6 0 0 (by simp) (by omega) (fun n _ => ?_) (ob_pure rfl)
    have dt : decide True = true := rfl
    have wd : atI [("counts" : Str), ("plan" : Str)] (b2I (decide (wayR 4000000 g ≤ n))) = some (certG g n).word := by
      unfold certG
      by_cases c : wayR 4000000 g ≤ n
      · rw [decide_eq_true c, if_pos c]
        rfl
      · rw [decide_eq_false c, if_neg c]
        rfl
    rw [cert_ok nice.gok n]
    simp only [nfK]
    refine ob_guard (lenOk_le (by simp)) ?_
    rw [wd]
    simp only [nfK, dt, Bool.not_true, Bool.false_eq_true, if_false, is_ok nice n, cert_repr nice n]
    have fin : (if decide ((certG g n).word = ("plan" : Str)) = true then bindM (ofO (certG g n).asPlan) fun a => pureM (decide (100 < (((unTup a).length : Nat) : Int))) else pureM false : M DkB Bool) = pureM false := by
      unfold certG
      by_cases c : wayR 4000000 g ≤ n
      · rw [if_pos c, if_pos (show decide (((Cert.plan (PP.planG g)).word) = ("plan" : Str)) = true from decide_eq_true rfl)]
        have pl := nice.plen
        show pureM (decide (100 < (((unTup (PP.planG g)).length : Nat) : Int))) = _
        rw [decide_eq_false (by omega)]
      · rw [if_neg c, if_neg (show ¬ decide (((Cert.counts (toTup ((strG g).map fun t => cdiv t.c g.b))).word) = ("plan" : Str)) = true from (by show ¬ decide (("counts" : Str) = ("plan" : Str)) = true; decide))]
    rw [fin]
    simp only [nfK, Bool.false_eq_true, if_false]
    exact ob_pure rfl
  · refine ob_guard (lenOk_le (by simp)) ?_
    have n1 : Nice (⟨0, 2, toTup [(1, 1), (3, 2)]⟩ : Gdn) := nice_of (by decide) (by decide) (by decide) (by decide) (by decide)
    have n2 : Nice (⟨0, 1, toTup []⟩ : Gdn) := nice_of (by decide) (by decide) (by decide) (by decide) (by decide)
    have s1 : certG (⟨0, 2, toTup [(1, 1), (3, 2)]⟩ : Gdn) 7 = Cert.counts (toTup [2, 1]) := by
      have hm := n1.gok.marks
      have em : marksG (⟨0, 2, toTup [(1, 1), (3, 2)]⟩ : Gdn) = [0, 1, 3] := inc_one (sortU_lt _) (by decide) fun k => mem_marksG.trans (by
        show (k = 0 ∨ ∃ b ∈ [((1 : Int), (1 : Int)), (3, 2)], b.1 = k) ↔ k ∈ [(0 : Int), 1, 3]
        simp only [List.mem_cons, List.not_mem_nil, or_false, exists_eq_or_imp, exists_eq_left]
        omega)
      have ew : wayR 4000000 (⟨0, 2, toTup [(1, 1), (3, 2)]⟩ : Gdn) = 8 := by
        unfold wayR
        rw [← str_sum (R := 4000000) (fun m hm' => by have := hm.1 m hm'; omega) (fun n => 2 * cdiv n 2) (by decide)]
        unfold strG
        rw [em]
        decide +kernel
      unfold certG
      rw [ew, if_neg (by decide)]
      unfold strG
      rw [em]
      congr 1
    have s2 : certG (⟨0, 1, toTup []⟩ : Gdn) 0 = Cert.plan (toTup []) := by
      have ew : wayR 4000000 (⟨0, 1, toTup []⟩ : Gdn) = 0 := isum_zero fun x _ _ => by
        have : byd (⟨0, 1, toTup []⟩ : Gdn) x = 0 := by
          unfold byd
          split <;> rfl
        rw [this, cdiv_zero (by decide)]
        rfl
      unfold certG
      rw [ew, if_pos (Int.le_refl _)]
      refine congrArg Cert.plan ?_
      have e : PP.planL (⟨0, 1, toTup []⟩ : Gdn) = [] := by decide +kernel
      unfold PP.planG
      rw [e]
      exact congrArg toTup (sortD_perm []).eq_nil
    rw [cert_ok n1.gok, s1]
    simp only [nfK]
    refine ob_guard (lenOk_le (by simp)) ?_
    have c1 : toCountsC (("counts" : Str), toTup [2, 1]) = some (Cert.counts (toTup [2, 1])) := rfl
    have c2 : toPlanC (("plan" : Str), (toTup [] : PlanT)) = some (Cert.plan (toTup [])) := rfl
    rw [c1]
    simp only [nfK]
    refine ob_guard shp_two ?_
    rw [(LE.same _ _).mpr rfl, if_pos rfl]
    simp only [nfK]
    refine ob_guard (lenOk_le (by simp)) ?_
    rw [cert_ok n2.gok, s2]
    simp only [nfK]
    refine ob_guard (lenOk_le (by simp)) ?_
    rw [c2]
    simp only [nfK]
    refine ob_guard shp_two (ob_pure ?_)
    rw [(LE.same _ _).mpr rfl]
theorem mk_at : ∀ ns : List Int, ns.length ≤ 63 → Wd ns → ∀ (Z : Addr → Prop) (H' : Hp) (v : V) (d : PyData), f__law_draws ns = some d → Rp Z H' v d → ∃ (t : DkBA) (s0 : DkB), v = .ref (rootB t) ∧ P0B cellsK ns s0 ∧ (fmB t).at_ s0 H' := mk_atK
theorem mk_there : ∀ ns : List Int, ns.length ≤ 63 → Wd ns → ∃ d, f__law_draws ns = some d := fun ns hl hw => ⟨_, draws_eqK hl hw⟩
theorem law_true (ns : List Int) (s0 : DkB) (_ : ns.length ≤ 63) (_ : Wd ns) (h0 : P0B cellsK ns s0) : ∃ s', retM none m_law s0 = some (true, s') :=
  law_ofB (fun ns => (cellsK_len ns).1) (by decide) law_ok ns s0 h0
end K10

namespace K10
open PySem L2 PL PL.Enc
theorem txt_mk {K : PySem.W.Frag} {h : Heap} {mg : Str → Option Value} (X : K.In h) (G : h.Ns mainGlobals mg)
    {f0 : Addr} {od0 an0 : Option Addr} {sl0 : Array (Option Value)} {oc0 kV0 dc0 pm0 cd0 ct0 : Value}
    {f1 : Addr} {od1 an1 : Option Addr} {sl1 : Array (Option Value)} {oc1 kV1 dc1 pm1 cd1 ct1 : Value}
    {f2 : Addr} {od2 an2 : Option Addr} {sl2 : Array (Option Value)} {oc2 kV2 dc2 pm2 cd2 ct2 : Value}
    {f3 : Addr} {od3 an3 : Option Addr} {sl3 : Array (Option Value)} {oc3 kV3 dc3 pm3 cd3 ct3 : Value}
    {f4 : Addr} {od4 an4 : Option Addr} {sl4 : Array (Option Value)} {oc4 kV4 dc4 pm4 cd4 ct4 : Value}
    {f5 : Addr} {od5 an5 : Option Addr} {sl5 : Array (Option Value)} {oc5 kV5 dc5 pm5 cd5 ct5 : Value}
    {f6 : Addr} {od6 an6 : Option Addr} {sl6 : Array (Option Value)} {oc6 kV6 dc6 pm6 cd6 ct6 : Value}
    {f7 : Addr} {od7 an7 : Option Addr} {sl7 : Array (Option Value)} {oc7 kV7 dc7 pm7 cd7 ct7 : Value}
    {f8 : Addr} {od8 an8 : Option Addr} {sl8 : Array (Option Value)} {oc8 kV8 dc8 pm8 cd8 ct8 : Value}
    {f9 : Addr} {od9 an9 : Option Addr} {sl9 : Array (Option Value)} {oc9 kV9 dc9 pm9 cd9 ct9 : Value}
    {f10 : Addr} {od10 an10 : Option Addr} {sl10 : Array (Option Value)} {oc10 kV10 dc10 pm10 cd10 ct10 : Value}
    {f11 : Addr} {od11 an11 : Option Addr} {sl11 : Array (Option Value)} {oc11 kV11 dc11 pm11 cd11 ct11 : Value}
    {f12 : Addr} {od12 an12 : Option Addr} {sl12 : Array (Option Value)} {oc12 kV12 dc12 pm12 cd12 ct12 : Value}
    {f13 : Addr} {od13 an13 : Option Addr} {sl13 : Array (Option Value)} {oc13 kV13 dc13 pm13 cd13 ct13 : Value}
    {f14 : Addr} {od14 an14 : Option Addr} {sl14 : Array (Option Value)} {oc14 kV14 dc14 pm14 cd14 ct14 : Value}
    {f15 : Addr} {od15 an15 : Option Addr} {sl15 : Array (Option Value)} {oc15 kV15 dc15 pm15 cd15 ct15 : Value}
    {f16 : Addr} {od16 an16 : Option Addr} {sl16 : Array (Option Value)} {oc16 kV16 dc16 pm16 cd16 ct16 : Value}
    {f17 : Addr} {od17 an17 : Option Addr} {sl17 : Array (Option Value)} {oc17 kV17 dc17 pm17 cd17 ct17 : Value}
    {f18 : Addr} {od18 an18 : Option Addr} {sl18 : Array (Option Value)} {oc18 kV18 dc18 pm18 cd18 ct18 : Value}
    {f19 : Addr} {od19 an19 : Option Addr} {sl19 : Array (Option Value)} {oc19 kV19 dc19 pm19 cd19 ct19 : Value}
    {f20 : Addr} {od20 an20 : Option Addr} {sl20 : Array (Option Value)} {oc20 kV20 dc20 pm20 cd20 ct20 : Value}
    {f21 : Addr} {od21 an21 : Option Addr} {sl21 : Array (Option Value)} {oc21 kV21 dc21 pm21 cd21 ct21 : Value}
    {f22 : Addr} {od22 an22 : Option Addr} {sl22 : Array (Option Value)} {oc22 kV22 dc22 pm22 cd22 ct22 : Value}
    {t_COUNTS : Tok}
    {t_LIMIT : Tok}
    {t_MAX_PLACE : Tok}
    {t_PLAN : Tok}
    (a0 : PySem.W.nsIn K mainGlobals "litres_from" = some (some (.ref f0))) (l0 : K.lookup f0 = some ⟨oc0, od0, .func (PySem.W.fnOf "litres_from" "litres_from" (defArgs (topS 3)) (defBody (topS 3)) (defScope (topS 3)) .none kV0 dc0 pm0 an0 cd0 ct0), sl0⟩) (c0 : PySem.W.codeIn K cd0 "litres_from" = true) (k0 : PySem.W.keepIn K (.ref f0) = true)
    (a1 : PySem.W.nsIn K mainGlobals "stretches_of" = some (some (.ref f1))) (l1 : K.lookup f1 = some ⟨oc1, od1, .func (PySem.W.fnOf "stretches_of" "stretches_of" (defArgs (topS 4)) (defBody (topS 4)) (defScope (topS 4)) .none kV1 dc1 pm1 an1 cd1 ct1), sl1⟩) (c1 : PySem.W.codeIn K cd1 "stretches_of" = true) (k1 : PySem.W.keepIn K (.ref f1) = true)
    (a2 : PySem.W.nsIn K mainGlobals "cans_for" = some (some (.ref f2))) (l2 : K.lookup f2 = some ⟨oc2, od2, .func (PySem.W.fnOf "cans_for" "cans_for" (defArgs (topS 8)) (defBody (topS 8)) (defScope (topS 8)) .none kV2 dc2 pm2 an2 cd2 ct2), sl2⟩) (c2 : PySem.W.codeIn K cd2 "cans_for" = true) (k2 : PySem.W.keepIn K (.ref f2) = true)
    (a3 : PySem.W.nsIn K mainGlobals "counts_of" = some (some (.ref f3))) (l3 : K.lookup f3 = some ⟨oc3, od3, .func (PySem.W.fnOf "counts_of" "counts_of" (defArgs (topS 9)) (defBody (topS 9)) (defScope (topS 9)) .none kV3 dc3 pm3 an3 cd3 ct3), sl3⟩) (c3 : PySem.W.codeIn K cd3 "counts_of" = true) (k3 : PySem.W.keepIn K (.ref f3) = true)
    (a4 : PySem.W.nsIn K mainGlobals "way_by" = some (some (.ref f4))) (l4 : K.lookup f4 = some ⟨oc4, od4, .func (PySem.W.fnOf "way_by" "way_by" (defArgs (topS 10)) (defBody (topS 10)) (defScope (topS 10)) .none kV4 dc4 pm4 an4 cd4 ct4), sl4⟩) (c4 : PySem.W.codeIn K cd4 "way_by" = true) (k4 : PySem.W.keepIn K (.ref f4) = true)
    (a5 : PySem.W.nsIn K mainGlobals "least_way" = some (some (.ref f5))) (l5 : K.lookup f5 = some ⟨oc5, od5, .func (PySem.W.fnOf "least_way" "least_way" (defArgs (topS 11)) (defBody (topS 11)) (defScope (topS 11)) .none kV5 dc5 pm5 an5 cd5 ct5), sl5⟩) (c5 : PySem.W.codeIn K cd5 "least_way" = true) (k5 : PySem.W.keepIn K (.ref f5) = true)
    (a6 : PySem.W.nsIn K mainGlobals "packed" = some (some (.ref f6))) (l6 : K.lookup f6 = some ⟨oc6, od6, .func (PySem.W.fnOf "packed" "packed" (defArgs (topS 12)) (defBody (topS 12)) (defScope (topS 12)) .none kV6 dc6 pm6 an6 cd6 ct6), sl6⟩) (c6 : PySem.W.codeIn K cd6 "packed" = true) (k6 : PySem.W.keepIn K (.ref f6) = true)
    (a7 : PySem.W.nsIn K mainGlobals "litres_in" = some (some (.ref f7))) (l7 : K.lookup f7 = some ⟨oc7, od7, .func (PySem.W.fnOf "litres_in" "litres_in" (defArgs (topS 13)) (defBody (topS 13)) (defScope (topS 13)) .none kV7 dc7 pm7 an7 cd7 ct7), sl7⟩) (c7 : PySem.W.codeIn K cd7 "litres_in" = true) (k7 : PySem.W.keepIn K (.ref f7) = true)
    (a8 : PySem.W.nsIn K mainGlobals "put_together" = some (some (.ref f8))) (l8 : K.lookup f8 = some ⟨oc8, od8, .func (PySem.W.fnOf "put_together" "put_together" (defArgs (topS 14)) (defBody (topS 14)) (defScope (topS 14)) .none kV8 dc8 pm8 an8 cd8 ct8), sl8⟩) (c8 : PySem.W.codeIn K cd8 "put_together" = true) (k8 : PySem.W.keepIn K (.ref f8) = true)
    (a9 : PySem.W.nsIn K mainGlobals "best_plan" = some (some (.ref f9))) (l9 : K.lookup f9 = some ⟨oc9, od9, .func (PySem.W.fnOf "best_plan" "best_plan" (defArgs (topS 15)) (defBody (topS 15)) (defScope (topS 15)) .none kV9 dc9 pm9 an9 cd9 ct9), sl9⟩) (c9 : PySem.W.codeIn K cd9 "best_plan" = true) (k9 : PySem.W.keepIn K (.ref f9) = true)
    (a10 : PySem.W.nsIn K mainGlobals "certificate" = some (some (.ref f10))) (l10 : K.lookup f10 = some ⟨oc10, od10, .func (PySem.W.fnOf "certificate" "certificate" (defArgs (topS 16)) (defBody (topS 16)) (defScope (topS 16)) .none kV10 dc10 pm10 an10 cd10 ct10), sl10⟩) (c10 : PySem.W.codeIn K cd10 "certificate" = true) (k10 : PySem.W.keepIn K (.ref f10) = true)
    (a11 : PySem.W.nsIn K mainGlobals "_law_draws" = some (some (.ref f11))) (l11 : K.lookup f11 = some ⟨oc11, od11, .func (PySem.W.fnOf "_law_draws" "_law_draws" (defArgs (topS 18)) (defBody (topS 18)) (defScope (topS 18)) .none kV11 dc11 pm11 an11 cd11 ct11), sl11⟩) (c11 : PySem.W.codeIn K cd11 "_law_draws" = true) (k11 : PySem.W.keepIn K (.ref f11) = true)
    (a12 : PySem.W.nsIn K mainGlobals "_law_next" = some (some (.ref f12))) (l12 : K.lookup f12 = some ⟨oc12, od12, .func (PySem.W.fnOf "_law_next" "_law_next" (defArgs (topS 19)) (defBody (topS 19)) (defScope (topS 19)) .none kV12 dc12 pm12 an12 cd12 ct12), sl12⟩) (c12 : PySem.W.codeIn K cd12 "_law_next" = true) (k12 : PySem.W.keepIn K (.ref f12) = true)
    (a13 : PySem.W.nsIn K mainGlobals "_law_one" = some (some (.ref f13))) (l13 : K.lookup f13 = some ⟨oc13, od13, .func (PySem.W.fnOf "_law_one" "_law_one" (defArgs (topS 20)) (defBody (topS 20)) (defScope (topS 20)) .none kV13 dc13 pm13 an13 cd13 ct13), sl13⟩) (c13 : PySem.W.codeIn K cd13 "_law_one" = true) (k13 : PySem.W.keepIn K (.ref f13) = true)
    (a14 : PySem.W.nsIn K mainGlobals "_law_garden" = some (some (.ref f14))) (l14 : K.lookup f14 = some ⟨oc14, od14, .func (PySem.W.fnOf "_law_garden" "_law_garden" (defArgs (topS 21)) (defBody (topS 21)) (defScope (topS 21)) .none kV14 dc14 pm14 an14 cd14 ct14), sl14⟩) (c14 : PySem.W.codeIn K cd14 "_law_garden" = true) (k14 : PySem.W.keepIn K (.ref f14) = true)
    (a15 : PySem.W.nsIn K mainGlobals "_law_beyond" = some (some (.ref f15))) (l15 : K.lookup f15 = some ⟨oc15, od15, .func (PySem.W.fnOf "_law_beyond" "_law_beyond" (defArgs (topS 22)) (defBody (topS 22)) (defScope (topS 22)) .none kV15 dc15 pm15 an15 cd15 ct15), sl15⟩) (c15 : PySem.W.codeIn K cd15 "_law_beyond" = true) (k15 : PySem.W.keepIn K (.ref f15) = true)
    (a16 : PySem.W.nsIn K mainGlobals "_law_least" = some (some (.ref f16))) (l16 : K.lookup f16 = some ⟨oc16, od16, .func (PySem.W.fnOf "_law_least" "_law_least" (defArgs (topS 23)) (defBody (topS 23)) (defScope (topS 23)) .none kV16 dc16 pm16 an16 cd16 ct16), sl16⟩) (c16 : PySem.W.codeIn K cd16 "_law_least" = true) (k16 : PySem.W.keepIn K (.ref f16) = true)
    (a17 : PySem.W.nsIn K mainGlobals "_law_is_trip" = some (some (.ref f17))) (l17 : K.lookup f17 = some ⟨oc17, od17, .func (PySem.W.fnOf "_law_is_trip" "_law_is_trip" (defArgs (topS 24)) (defBody (topS 24)) (defScope (topS 24)) .none kV17 dc17 pm17 an17 cd17 ct17), sl17⟩) (c17 : PySem.W.codeIn K cd17 "_law_is_trip" = true) (k17 : PySem.W.keepIn K (.ref f17) = true)
    (a18 : PySem.W.nsIn K mainGlobals "_law_trip_way" = some (some (.ref f18))) (l18 : K.lookup f18 = some ⟨oc18, od18, .func (PySem.W.fnOf "_law_trip_way" "_law_trip_way" (defArgs (topS 25)) (defBody (topS 25)) (defScope (topS 25)) .none kV18 dc18 pm18 an18 cd18 ct18), sl18⟩) (c18 : PySem.W.codeIn K cd18 "_law_trip_way" = true) (k18 : PySem.W.keepIn K (.ref f18) = true)
    (a19 : PySem.W.nsIn K mainGlobals "_law_plan" = some (some (.ref f19))) (l19 : K.lookup f19 = some ⟨oc19, od19, .func (PySem.W.fnOf "_law_plan" "_law_plan" (defArgs (topS 26)) (defBody (topS 26)) (defScope (topS 26)) .none kV19 dc19 pm19 an19 cd19 ct19), sl19⟩) (c19 : PySem.W.codeIn K cd19 "_law_plan" = true) (k19 : PySem.W.keepIn K (.ref f19) = true)
    (a20 : PySem.W.nsIn K mainGlobals "_law_are_counts" = some (some (.ref f20))) (l20 : K.lookup f20 = some ⟨oc20, od20, .func (PySem.W.fnOf "_law_are_counts" "_law_are_counts" (defArgs (topS 27)) (defBody (topS 27)) (defScope (topS 27)) .none kV20 dc20 pm20 an20 cd20 ct20), sl20⟩) (c20 : PySem.W.codeIn K cd20 "_law_are_counts" = true) (k20 : PySem.W.keepIn K (.ref f20) = true)
    (a21 : PySem.W.nsIn K mainGlobals "_law_is_certificate" = some (some (.ref f21))) (l21 : K.lookup f21 = some ⟨oc21, od21, .func (PySem.W.fnOf "_law_is_certificate" "_law_is_certificate" (defArgs (topS 28)) (defBody (topS 28)) (defScope (topS 28)) .none kV21 dc21 pm21 an21 cd21 ct21), sl21⟩) (c21 : PySem.W.codeIn K cd21 "_law_is_certificate" = true) (k21 : PySem.W.keepIn K (.ref f21) = true)
    (a22 : PySem.W.nsIn K mainGlobals "law" = some (some (.ref f22))) (l22 : K.lookup f22 = some ⟨oc22, od22, .func (PySem.W.fnOf "law" "law" (defArgs (topS 29)) (defBody (topS 29)) (defScope (topS 29)) .none kV22 dc22 pm22 an22 cd22 ct22), sl22⟩) (c22 : PySem.W.codeIn K cd22 "law" = true) (k22 : PySem.W.keepIn K (.ref f22) = true)
    (z_abs : PySem.W.nsIn K mainGlobals "abs" = some none)
    (z_bool : PySem.W.nsIn K mainGlobals "bool" = some none)
    (z_int : PySem.W.nsIn K mainGlobals "int" = some none)
    (z_isinstance : PySem.W.nsIn K mainGlobals "isinstance" = some none)
    (z_len : PySem.W.nsIn K mainGlobals "len" = some none)
    (z_max : PySem.W.nsIn K mainGlobals "max" = some none)
    (z_min : PySem.W.nsIn K mainGlobals "min" = some none)
    (z_range : PySem.W.nsIn K mainGlobals "range" = some none)
    (z_repr : PySem.W.nsIn K mainGlobals "repr" = some none)
    (z_set : PySem.W.nsIn K mainGlobals "set" = some none)
    (z_sorted : PySem.W.nsIn K mainGlobals "sorted" = some none)
    (z_str : PySem.W.nsIn K mainGlobals "str" = some none)
    (z_sum : PySem.W.nsIn K mainGlobals "sum" = some none)
    (z_tuple : PySem.W.nsIn K mainGlobals "tuple" = some none)
    (z_zip : PySem.W.nsIn K mainGlobals "zip" = some none)
    (g_COUNTS : PySem.W.nsIn K mainGlobals "COUNTS" = some (some (.str "counts" t_COUNTS)))
    (g_LIMIT : PySem.W.nsIn K mainGlobals "LIMIT" = some (some (.int 1000000000000000000 t_LIMIT)))
    (g_MAX_PLACE : PySem.W.nsIn K mainGlobals "MAX_PLACE" = some (some (.int 1000000 t_MAX_PLACE)))
    (g_PLAN : PySem.W.nsIn K mainGlobals "PLAN" = some (some (.str "plan" t_PLAN))) : Txt K mg :=
  ⟨⟨f0, _, fun_mk (st := topS 3) l0 c0 k0, PySem.W.mg_of X G a0, (fun_mk (st := topS 3) l0 c0 k0).binds (ps := ["beds", "low", "high"]) fun _ _ _ _ _ _ us hl => match us, hl with | [_, _, _], _ => rfl⟩,
   ⟨f1, _, fun_mk (st := topS 4) l1 c1 k1, PySem.W.mg_of X G a1, (fun_mk (st := topS 4) l1 c1 k1).binds (ps := ["garden"]) fun _ _ _ _ _ _ us hl => match us, hl with | [_], _ => rfl⟩,
   ⟨f2, _, fun_mk (st := topS 8) l2 c2 k2, PySem.W.mg_of X G a2, (fun_mk (st := topS 8) l2 c2 k2).binds (ps := ["litres", "can"]) fun _ _ _ _ _ _ us hl => match us, hl with | [_, _], _ => rfl⟩,
   ⟨f3, _, fun_mk (st := topS 9) l3 c3 k3, PySem.W.mg_of X G a3, (fun_mk (st := topS 9) l3 c3 k3).binds (ps := ["garden"]) fun _ _ _ _ _ _ us hl => match us, hl with | [_], _ => rfl⟩,
   ⟨f4, _, fun_mk (st := topS 10) l4 c4 k4, PySem.W.mg_of X G a4, (fun_mk (st := topS 10) l4 c4 k4).binds (ps := ["garden", "counts"]) fun _ _ _ _ _ _ us hl => match us, hl with | [_, _], _ => rfl⟩,
   ⟨f5, _, fun_mk (st := topS 11) l5 c5 k5, PySem.W.mg_of X G a5, (fun_mk (st := topS 11) l5 c5 k5).binds (ps := ["garden"]) fun _ _ _ _ _ _ us hl => match us, hl with | [_], _ => rfl⟩,
   ⟨f6, _, fun_mk (st := topS 12) l6 c6 k6, PySem.W.mg_of X G a6, (fun_mk (st := topS 12) l6 c6 k6).binds (ps := ["rows", "can"]) fun _ _ _ _ _ _ us hl => match us, hl with | [_, _], _ => rfl⟩,
   ⟨f7, _, fun_mk (st := topS 13) l7 c7 k7, PySem.W.mg_of X G a7, (fun_mk (st := topS 13) l7 c7 k7).binds (ps := ["rows"]) fun _ _ _ _ _ _ us hl => match us, hl with | [_], _ => rfl⟩,
   ⟨f8, _, fun_mk (st := topS 14) l8 c8 k8, PySem.W.mg_of X G a8, (fun_mk (st := topS 14) l8 c8 k8).binds (ps := ["one", "other", "can"]) fun _ _ _ _ _ _ us hl => match us, hl with | [_, _, _], _ => rfl⟩,
   ⟨f9, _, fun_mk (st := topS 15) l9 c9 k9, PySem.W.mg_of X G a9, (fun_mk (st := topS 15) l9 c9 k9).binds (ps := ["garden"]) fun _ _ _ _ _ _ us hl => match us, hl with | [_], _ => rfl⟩,
   ⟨f10, _, fun_mk (st := topS 16) l10 c10 k10, PySem.W.mg_of X G a10, (fun_mk (st := topS 16) l10 c10 k10).binds (ps := ["garden", "number"]) fun _ _ _ _ _ _ us hl => match us, hl with | [_, _], _ => rfl⟩,
   ⟨f11, _, fun_mk (st := topS 18) l11 c11 k11, PySem.W.mg_of X G a11, (fun_mk (st := topS 18) l11 c11 k11).binds (ps := ["_law_script"]) fun _ _ _ _ _ _ us hl => match us, hl with | [_], _ => rfl⟩,
   ⟨f12, _, fun_mk (st := topS 19) l12 c12 k12, PySem.W.mg_of X G a12, (fun_mk (st := topS 19) l12 c12 k12).binds (ps := ["_law_state", "_law_many"]) fun _ _ _ _ _ _ us hl => match us, hl with | [_, _], _ => rfl⟩,
   ⟨f13, _, fun_mk (st := topS 20) l13 c13 k13, PySem.W.mg_of X G a13, (fun_mk (st := topS 20) l13 c13 k13).binds (ps := ["_law_state", "_law_items"]) fun _ _ _ _ _ _ us hl => match us, hl with | [_, _], _ => rfl⟩,
   ⟨f14, _, fun_mk (st := topS 21) l14 c14 k14, PySem.W.mg_of X G a14, (fun_mk (st := topS 21) l14 c14 k14).binds (ps := ["_law_state", "_law_most", "_law_way"]) fun _ _ _ _ _ _ us hl => match us, hl with | [_, _, _], _ => rfl⟩,
   ⟨f15, _, fun_mk (st := topS 22) l15 c15 k15, PySem.W.mg_of X G a15, (fun_mk (st := topS 22) l15 c15 k15).binds (ps := ["_law_garden_here"]) fun _ _ _ _ _ _ us hl => match us, hl with | [_], _ => rfl⟩,
   ⟨f16, _, fun_mk (st := topS 23) l16 c16 k16, PySem.W.mg_of X G a16, (fun_mk (st := topS 23) l16 c16 k16).binds (ps := ["_law_garden_here"]) fun _ _ _ _ _ _ us hl => match us, hl with | [_], _ => rfl⟩,
   ⟨f17, _, fun_mk (st := topS 24) l17 c17 k17, PySem.W.mg_of X G a17, (fun_mk (st := topS 24) l17 c17 k17).binds (ps := ["_law_garden_here", "_law_value"]) fun _ _ _ _ _ _ us hl => match us, hl with | [_, _], _ => rfl⟩,
   ⟨f18, _, fun_mk (st := topS 25) l18 c18 k18, PySem.W.mg_of X G a18, (fun_mk (st := topS 25) l18 c18 k18).binds (ps := ["_law_garden_here", "_law_trip"]) fun _ _ _ _ _ _ us hl => match us, hl with | [_, _], _ => rfl⟩,
   ⟨f19, _, fun_mk (st := topS 26) l19 c19 k19, PySem.W.mg_of X G a19, (fun_mk (st := topS 26) l19 c19 k19).binds (ps := ["_law_garden_here", "_law_value"]) fun _ _ _ _ _ _ us hl => match us, hl with | [_, _], _ => rfl⟩,
   ⟨f20, _, fun_mk (st := topS 27) l20 c20 k20, PySem.W.mg_of X G a20, (fun_mk (st := topS 27) l20 c20 k20).binds (ps := ["_law_garden_here", "_law_number", "_law_value"]) fun _ _ _ _ _ _ us hl => match us, hl with | [_, _, _], _ => rfl⟩,
   ⟨f21, _, fun_mk (st := topS 28) l21 c21 k21, PySem.W.mg_of X G a21, (fun_mk (st := topS 28) l21 c21 k21).binds (ps := ["_law_garden_here", "_law_number", "_law_value"]) fun _ _ _ _ _ _ us hl => match us, hl with | [_, _, _], _ => rfl⟩,
   PySem.W.mg_none_of X G z_abs,
   PySem.W.mg_none_of X G z_bool,
   PySem.W.mg_none_of X G z_int,
   PySem.W.mg_none_of X G z_isinstance,
   PySem.W.mg_none_of X G z_len,
   PySem.W.mg_none_of X G z_max,
   PySem.W.mg_none_of X G z_min,
   PySem.W.mg_none_of X G z_range,
   PySem.W.mg_none_of X G z_repr,
   PySem.W.mg_none_of X G z_set,
   PySem.W.mg_none_of X G z_sorted,
   PySem.W.mg_none_of X G z_str,
   PySem.W.mg_none_of X G z_sum,
   PySem.W.mg_none_of X G z_tuple,
   PySem.W.mg_none_of X G z_zip,
   ⟨t_COUNTS, PySem.W.mg_of X G g_COUNTS⟩,
   ⟨t_LIMIT, PySem.W.mg_of X G g_LIMIT⟩,
   ⟨t_MAX_PLACE, PySem.W.mg_of X G g_MAX_PLACE⟩,
   ⟨t_PLAN, PySem.W.mg_of X G g_PLAN⟩⟩
theorem all_mk {l : PySem.W.OpenLaw} {w : World} {K : PySem.W.Frag} {h : Heap} {mg : Str → Option Value} {fa : Addr} (X : K.In h) (G : h.Ns mainGlobals mg) (hfa : mg "law" = some (.ref fa))
    {f0 : Addr} {od0 an0 : Option Addr} {sl0 : Array (Option Value)} {oc0 kV0 dc0 pm0 cd0 ct0 : Value}
    {f1 : Addr} {od1 an1 : Option Addr} {sl1 : Array (Option Value)} {oc1 kV1 dc1 pm1 cd1 ct1 : Value}
    {f2 : Addr} {od2 an2 : Option Addr} {sl2 : Array (Option Value)} {oc2 kV2 dc2 pm2 cd2 ct2 : Value}
    {f3 : Addr} {od3 an3 : Option Addr} {sl3 : Array (Option Value)} {oc3 kV3 dc3 pm3 cd3 ct3 : Value}
    {f4 : Addr} {od4 an4 : Option Addr} {sl4 : Array (Option Value)} {oc4 kV4 dc4 pm4 cd4 ct4 : Value}
    {f5 : Addr} {od5 an5 : Option Addr} {sl5 : Array (Option Value)} {oc5 kV5 dc5 pm5 cd5 ct5 : Value}
    {f6 : Addr} {od6 an6 : Option Addr} {sl6 : Array (Option Value)} {oc6 kV6 dc6 pm6 cd6 ct6 : Value}
    {f7 : Addr} {od7 an7 : Option Addr} {sl7 : Array (Option Value)} {oc7 kV7 dc7 pm7 cd7 ct7 : Value}
    {f8 : Addr} {od8 an8 : Option Addr} {sl8 : Array (Option Value)} {oc8 kV8 dc8 pm8 cd8 ct8 : Value}
    {f9 : Addr} {od9 an9 : Option Addr} {sl9 : Array (Option Value)} {oc9 kV9 dc9 pm9 cd9 ct9 : Value}
    {f10 : Addr} {od10 an10 : Option Addr} {sl10 : Array (Option Value)} {oc10 kV10 dc10 pm10 cd10 ct10 : Value}
    {f11 : Addr} {od11 an11 : Option Addr} {sl11 : Array (Option Value)} {oc11 kV11 dc11 pm11 cd11 ct11 : Value}
    {f12 : Addr} {od12 an12 : Option Addr} {sl12 : Array (Option Value)} {oc12 kV12 dc12 pm12 cd12 ct12 : Value}
    {f13 : Addr} {od13 an13 : Option Addr} {sl13 : Array (Option Value)} {oc13 kV13 dc13 pm13 cd13 ct13 : Value}
    {f14 : Addr} {od14 an14 : Option Addr} {sl14 : Array (Option Value)} {oc14 kV14 dc14 pm14 cd14 ct14 : Value}
    {f15 : Addr} {od15 an15 : Option Addr} {sl15 : Array (Option Value)} {oc15 kV15 dc15 pm15 cd15 ct15 : Value}
    {f16 : Addr} {od16 an16 : Option Addr} {sl16 : Array (Option Value)} {oc16 kV16 dc16 pm16 cd16 ct16 : Value}
    {f17 : Addr} {od17 an17 : Option Addr} {sl17 : Array (Option Value)} {oc17 kV17 dc17 pm17 cd17 ct17 : Value}
    {f18 : Addr} {od18 an18 : Option Addr} {sl18 : Array (Option Value)} {oc18 kV18 dc18 pm18 cd18 ct18 : Value}
    {f19 : Addr} {od19 an19 : Option Addr} {sl19 : Array (Option Value)} {oc19 kV19 dc19 pm19 cd19 ct19 : Value}
    {f20 : Addr} {od20 an20 : Option Addr} {sl20 : Array (Option Value)} {oc20 kV20 dc20 pm20 cd20 ct20 : Value}
    {f21 : Addr} {od21 an21 : Option Addr} {sl21 : Array (Option Value)} {oc21 kV21 dc21 pm21 cd21 ct21 : Value}
    {f22 : Addr} {od22 an22 : Option Addr} {sl22 : Array (Option Value)} {oc22 kV22 dc22 pm22 cd22 ct22 : Value}
    {t_COUNTS : Tok}
    {t_LIMIT : Tok}
    {t_MAX_PLACE : Tok}
    {t_PLAN : Tok}
    (a0 : PySem.W.nsIn K mainGlobals "litres_from" = some (some (.ref f0))) (l0 : K.lookup f0 = some ⟨oc0, od0, .func (PySem.W.fnOf "litres_from" "litres_from" (defArgs (topS 3)) (defBody (topS 3)) (defScope (topS 3)) .none kV0 dc0 pm0 an0 cd0 ct0), sl0⟩) (c0 : PySem.W.codeIn K cd0 "litres_from" = true) (k0 : PySem.W.keepIn K (.ref f0) = true)
    (a1 : PySem.W.nsIn K mainGlobals "stretches_of" = some (some (.ref f1))) (l1 : K.lookup f1 = some ⟨oc1, od1, .func (PySem.W.fnOf "stretches_of" "stretches_of" (defArgs (topS 4)) (defBody (topS 4)) (defScope (topS 4)) .none kV1 dc1 pm1 an1 cd1 ct1), sl1⟩) (c1 : PySem.W.codeIn K cd1 "stretches_of" = true) (k1 : PySem.W.keepIn K (.ref f1) = true)
    (a2 : PySem.W.nsIn K mainGlobals "cans_for" = some (some (.ref f2))) (l2 : K.lookup f2 = some ⟨oc2, od2, .func (PySem.W.fnOf "cans_for" "cans_for" (defArgs (topS 8)) (defBody (topS 8)) (defScope (topS 8)) .none kV2 dc2 pm2 an2 cd2 ct2), sl2⟩) (c2 : PySem.W.codeIn K cd2 "cans_for" = true) (k2 : PySem.W.keepIn K (.ref f2) = true)
    (a3 : PySem.W.nsIn K mainGlobals "counts_of" = some (some (.ref f3))) (l3 : K.lookup f3 = some ⟨oc3, od3, .func (PySem.W.fnOf "counts_of" "counts_of" (defArgs (topS 9)) (defBody (topS 9)) (defScope (topS 9)) .none kV3 dc3 pm3 an3 cd3 ct3), sl3⟩) (c3 : PySem.W.codeIn K cd3 "counts_of" = true) (k3 : PySem.W.keepIn K (.ref f3) = true)
    (a4 : PySem.W.nsIn K mainGlobals "way_by" = some (some (.ref f4))) (l4 : K.lookup f4 = some ⟨oc4, od4, .func (PySem.W.fnOf "way_by" "way_by" (defArgs (topS 10)) (defBody (topS 10)) (defScope (topS 10)) .none kV4 dc4 pm4 an4 cd4 ct4), sl4⟩) (c4 : PySem.W.codeIn K cd4 "way_by" = true) (k4 : PySem.W.keepIn K (.ref f4) = true)
    (a5 : PySem.W.nsIn K mainGlobals "least_way" = some (some (.ref f5))) (l5 : K.lookup f5 = some ⟨oc5, od5, .func (PySem.W.fnOf "least_way" "least_way" (defArgs (topS 11)) (defBody (topS 11)) (defScope (topS 11)) .none kV5 dc5 pm5 an5 cd5 ct5), sl5⟩) (c5 : PySem.W.codeIn K cd5 "least_way" = true) (k5 : PySem.W.keepIn K (.ref f5) = true)
    (a6 : PySem.W.nsIn K mainGlobals "packed" = some (some (.ref f6))) (l6 : K.lookup f6 = some ⟨oc6, od6, .func (PySem.W.fnOf "packed" "packed" (defArgs (topS 12)) (defBody (topS 12)) (defScope (topS 12)) .none kV6 dc6 pm6 an6 cd6 ct6), sl6⟩) (c6 : PySem.W.codeIn K cd6 "packed" = true) (k6 : PySem.W.keepIn K (.ref f6) = true)
    (a7 : PySem.W.nsIn K mainGlobals "litres_in" = some (some (.ref f7))) (l7 : K.lookup f7 = some ⟨oc7, od7, .func (PySem.W.fnOf "litres_in" "litres_in" (defArgs (topS 13)) (defBody (topS 13)) (defScope (topS 13)) .none kV7 dc7 pm7 an7 cd7 ct7), sl7⟩) (c7 : PySem.W.codeIn K cd7 "litres_in" = true) (k7 : PySem.W.keepIn K (.ref f7) = true)
    (a8 : PySem.W.nsIn K mainGlobals "put_together" = some (some (.ref f8))) (l8 : K.lookup f8 = some ⟨oc8, od8, .func (PySem.W.fnOf "put_together" "put_together" (defArgs (topS 14)) (defBody (topS 14)) (defScope (topS 14)) .none kV8 dc8 pm8 an8 cd8 ct8), sl8⟩) (c8 : PySem.W.codeIn K cd8 "put_together" = true) (k8 : PySem.W.keepIn K (.ref f8) = true)
    (a9 : PySem.W.nsIn K mainGlobals "best_plan" = some (some (.ref f9))) (l9 : K.lookup f9 = some ⟨oc9, od9, .func (PySem.W.fnOf "best_plan" "best_plan" (defArgs (topS 15)) (defBody (topS 15)) (defScope (topS 15)) .none kV9 dc9 pm9 an9 cd9 ct9), sl9⟩) (c9 : PySem.W.codeIn K cd9 "best_plan" = true) (k9 : PySem.W.keepIn K (.ref f9) = true)
    (a10 : PySem.W.nsIn K mainGlobals "certificate" = some (some (.ref f10))) (l10 : K.lookup f10 = some ⟨oc10, od10, .func (PySem.W.fnOf "certificate" "certificate" (defArgs (topS 16)) (defBody (topS 16)) (defScope (topS 16)) .none kV10 dc10 pm10 an10 cd10 ct10), sl10⟩) (c10 : PySem.W.codeIn K cd10 "certificate" = true) (k10 : PySem.W.keepIn K (.ref f10) = true)
    (a11 : PySem.W.nsIn K mainGlobals "_law_draws" = some (some (.ref f11))) (l11 : K.lookup f11 = some ⟨oc11, od11, .func (PySem.W.fnOf "_law_draws" "_law_draws" (defArgs (topS 18)) (defBody (topS 18)) (defScope (topS 18)) .none kV11 dc11 pm11 an11 cd11 ct11), sl11⟩) (c11 : PySem.W.codeIn K cd11 "_law_draws" = true) (k11 : PySem.W.keepIn K (.ref f11) = true)
    (a12 : PySem.W.nsIn K mainGlobals "_law_next" = some (some (.ref f12))) (l12 : K.lookup f12 = some ⟨oc12, od12, .func (PySem.W.fnOf "_law_next" "_law_next" (defArgs (topS 19)) (defBody (topS 19)) (defScope (topS 19)) .none kV12 dc12 pm12 an12 cd12 ct12), sl12⟩) (c12 : PySem.W.codeIn K cd12 "_law_next" = true) (k12 : PySem.W.keepIn K (.ref f12) = true)
    (a13 : PySem.W.nsIn K mainGlobals "_law_one" = some (some (.ref f13))) (l13 : K.lookup f13 = some ⟨oc13, od13, .func (PySem.W.fnOf "_law_one" "_law_one" (defArgs (topS 20)) (defBody (topS 20)) (defScope (topS 20)) .none kV13 dc13 pm13 an13 cd13 ct13), sl13⟩) (c13 : PySem.W.codeIn K cd13 "_law_one" = true) (k13 : PySem.W.keepIn K (.ref f13) = true)
    (a14 : PySem.W.nsIn K mainGlobals "_law_garden" = some (some (.ref f14))) (l14 : K.lookup f14 = some ⟨oc14, od14, .func (PySem.W.fnOf "_law_garden" "_law_garden" (defArgs (topS 21)) (defBody (topS 21)) (defScope (topS 21)) .none kV14 dc14 pm14 an14 cd14 ct14), sl14⟩) (c14 : PySem.W.codeIn K cd14 "_law_garden" = true) (k14 : PySem.W.keepIn K (.ref f14) = true)
    (a15 : PySem.W.nsIn K mainGlobals "_law_beyond" = some (some (.ref f15))) (l15 : K.lookup f15 = some ⟨oc15, od15, .func (PySem.W.fnOf "_law_beyond" "_law_beyond" (defArgs (topS 22)) (defBody (topS 22)) (defScope (topS 22)) .none kV15 dc15 pm15 an15 cd15 ct15), sl15⟩) (c15 : PySem.W.codeIn K cd15 "_law_beyond" = true) (k15 : PySem.W.keepIn K (.ref f15) = true)
    (a16 : PySem.W.nsIn K mainGlobals "_law_least" = some (some (.ref f16))) (l16 : K.lookup f16 = some ⟨oc16, od16, .func (PySem.W.fnOf "_law_least" "_law_least" (defArgs (topS 23)) (defBody (topS 23)) (defScope (topS 23)) .none kV16 dc16 pm16 an16 cd16 ct16), sl16⟩) (c16 : PySem.W.codeIn K cd16 "_law_least" = true) (k16 : PySem.W.keepIn K (.ref f16) = true)
    (a17 : PySem.W.nsIn K mainGlobals "_law_is_trip" = some (some (.ref f17))) (l17 : K.lookup f17 = some ⟨oc17, od17, .func (PySem.W.fnOf "_law_is_trip" "_law_is_trip" (defArgs (topS 24)) (defBody (topS 24)) (defScope (topS 24)) .none kV17 dc17 pm17 an17 cd17 ct17), sl17⟩) (c17 : PySem.W.codeIn K cd17 "_law_is_trip" = true) (k17 : PySem.W.keepIn K (.ref f17) = true)
    (a18 : PySem.W.nsIn K mainGlobals "_law_trip_way" = some (some (.ref f18))) (l18 : K.lookup f18 = some ⟨oc18, od18, .func (PySem.W.fnOf "_law_trip_way" "_law_trip_way" (defArgs (topS 25)) (defBody (topS 25)) (defScope (topS 25)) .none kV18 dc18 pm18 an18 cd18 ct18), sl18⟩) (c18 : PySem.W.codeIn K cd18 "_law_trip_way" = true) (k18 : PySem.W.keepIn K (.ref f18) = true)
    (a19 : PySem.W.nsIn K mainGlobals "_law_plan" = some (some (.ref f19))) (l19 : K.lookup f19 = some ⟨oc19, od19, .func (PySem.W.fnOf "_law_plan" "_law_plan" (defArgs (topS 26)) (defBody (topS 26)) (defScope (topS 26)) .none kV19 dc19 pm19 an19 cd19 ct19), sl19⟩) (c19 : PySem.W.codeIn K cd19 "_law_plan" = true) (k19 : PySem.W.keepIn K (.ref f19) = true)
    (a20 : PySem.W.nsIn K mainGlobals "_law_are_counts" = some (some (.ref f20))) (l20 : K.lookup f20 = some ⟨oc20, od20, .func (PySem.W.fnOf "_law_are_counts" "_law_are_counts" (defArgs (topS 27)) (defBody (topS 27)) (defScope (topS 27)) .none kV20 dc20 pm20 an20 cd20 ct20), sl20⟩) (c20 : PySem.W.codeIn K cd20 "_law_are_counts" = true) (k20 : PySem.W.keepIn K (.ref f20) = true)
    (a21 : PySem.W.nsIn K mainGlobals "_law_is_certificate" = some (some (.ref f21))) (l21 : K.lookup f21 = some ⟨oc21, od21, .func (PySem.W.fnOf "_law_is_certificate" "_law_is_certificate" (defArgs (topS 28)) (defBody (topS 28)) (defScope (topS 28)) .none kV21 dc21 pm21 an21 cd21 ct21), sl21⟩) (c21 : PySem.W.codeIn K cd21 "_law_is_certificate" = true) (k21 : PySem.W.keepIn K (.ref f21) = true)
    (a22 : PySem.W.nsIn K mainGlobals "law" = some (some (.ref f22))) (l22 : K.lookup f22 = some ⟨oc22, od22, .func (PySem.W.fnOf "law" "law" (defArgs (topS 29)) (defBody (topS 29)) (defScope (topS 29)) .none kV22 dc22 pm22 an22 cd22 ct22), sl22⟩) (c22 : PySem.W.codeIn K cd22 "law" = true) (k22 : PySem.W.keepIn K (.ref f22) = true)
    (z_abs : PySem.W.nsIn K mainGlobals "abs" = some none)
    (z_bool : PySem.W.nsIn K mainGlobals "bool" = some none)
    (z_int : PySem.W.nsIn K mainGlobals "int" = some none)
    (z_isinstance : PySem.W.nsIn K mainGlobals "isinstance" = some none)
    (z_len : PySem.W.nsIn K mainGlobals "len" = some none)
    (z_max : PySem.W.nsIn K mainGlobals "max" = some none)
    (z_min : PySem.W.nsIn K mainGlobals "min" = some none)
    (z_range : PySem.W.nsIn K mainGlobals "range" = some none)
    (z_repr : PySem.W.nsIn K mainGlobals "repr" = some none)
    (z_set : PySem.W.nsIn K mainGlobals "set" = some none)
    (z_sorted : PySem.W.nsIn K mainGlobals "sorted" = some none)
    (z_str : PySem.W.nsIn K mainGlobals "str" = some none)
    (z_sum : PySem.W.nsIn K mainGlobals "sum" = some none)
    (z_tuple : PySem.W.nsIn K mainGlobals "tuple" = some none)
    (z_zip : PySem.W.nsIn K mainGlobals "zip" = some none)
    (g_COUNTS : PySem.W.nsIn K mainGlobals "COUNTS" = some (some (.str "counts" t_COUNTS)))
    (g_LIMIT : PySem.W.nsIn K mainGlobals "LIMIT" = some (some (.int 1000000000000000000 t_LIMIT)))
    (g_MAX_PLACE : PySem.W.nsIn K mainGlobals "MAX_PLACE" = some (some (.int 1000000 t_MAX_PLACE)))
    (g_PLAN : PySem.W.nsIn K mainGlobals "PLAN" = some (some (.str "plan" t_PLAN))) :
    ∃ fd : FuncData, (∀ (s : Shared) (v : Value), BindsTo s fd ⟨[v], []⟩ [("_law_script", v)]) ∧ ∀ base : Heap, K.In base → base.Ns mainGlobals mg → FnG l.prog w K mg base CX0 6 fa fd ["_law_script"] (spLawB K) := by
  have e := hfa.symm.trans (PySem.W.mg_of X G a22)
  cases e
  have T : Txt K mg := txt_mk X G a0 l0 c0 k0 a1 l1 c1 k1 a2 l2 c2 k2 a3 l3 c3 k3 a4 l4 c4 k4 a5 l5 c5 k5 a6 l6 c6 k6 a7 l7 c7 k7 a8 l8 c8 k8 a9 l9 c9 k9 a10 l10 c10 k10 a11 l11 c11 k11 a12 l12 c12 k12 a13 l13 c13 k13 a14 l14 c14 k14 a15 l15 c15 k15 a16 l16 c16 k16 a17 l17 c17 k17 a18 l18 c18 k18 a19 l19 c19 k19 a20 l20 c20 k20 a21 l21 c21 k21 a22 l22 c22 k22 z_abs z_bool z_int z_isinstance z_len z_max z_min z_range z_repr z_set z_sorted z_str z_sum z_tuple z_zip g_COUNTS g_LIMIT g_MAX_PLACE g_PLAN
  exact ⟨PySem.W.fnOf "law" "law" (defArgs st_law) (defBody st_law) (defScope st_law) .none kV22 dc22 pm22 an22 cd22 ct22, fun s v => .of_eq rfl, fun base _ _ => ok_law T (fun_mk (st := st_law) l22 c22 k22) mk_at mk_there law_true⟩
end K10
open PySem PySem.W PyProof.Rows
set_option maxHeartbeats 0 in
theorem PySem.Challenge.cw_canpath_k10_certificates_returned_holds : PySem.Challenge.rw_canpath_k10_certificates_returned.Holds := by
  w_on; o_law; k_head; (case hw => w_witness2)
  k_fill
  refine PL.walkGB (l := PySem.Challenge.rw_canpath_k10_certificates_returned) (k := 6) (x := "_law_script") rfl rfl ⟨rfl, by decide, by decide⟩ (fun w h Y => PySem.W.kIn_of Y) ?F
  case F =>
    intro w mg fa h KX G hmg
    refine' K10.all_mk KX G hmg ?a0 ?l0 ?c0 ?k0 ?a1 ?l1 ?c1 ?k1 ?a2 ?l2 ?c2 ?k2 ?a3 ?l3 ?c3 ?k3 ?a4 ?l4 ?c4 ?k4 ?a5 ?l5 ?c5 ?k5 ?a6 ?l6 ?c6 ?k6 ?a7 ?l7 ?c7 ?k7 ?a8 ?l8 ?c8 ?k8 ?a9 ?l9 ?c9 ?k9 ?a10 ?l10 ?c10 ?k10 ?a11 ?l11 ?c11 ?k11 ?a12 ?l12 ?c12 ?k12 ?a13 ?l13 ?c13 ?k13 ?a14 ?l14 ?c14 ?k14 ?a15 ?l15 ?c15 ?k15 ?a16 ?l16 ?c16 ?k16 ?a17 ?l17 ?c17 ?k17 ?a18 ?l18 ?c18 ?k18 ?a19 ?l19 ?c19 ?k19 ?a20 ?l20 ?c20 ?k20 ?a21 ?l21 ?c21 ?k21 ?a22 ?l22 ?c22 ?k22 ?z_abs ?z_bool ?z_int ?z_isinstance ?z_len ?z_max ?z_min ?z_range ?z_repr ?z_set ?z_sorted ?z_str ?z_sum ?z_tuple ?z_zip ?g_COUNTS ?g_LIMIT ?g_MAX_PLACE ?g_PLAN
    (case a0 => k_is)
    (case l0 => k_is)
    (case c0 => k_is)
    (case k0 => k_is)
    (case a1 => k_is)
    (case l1 => k_is)
    (case c1 => k_is)
    (case k1 => k_is)
    (case a2 => k_is)
    (case l2 => k_is)
    (case c2 => k_is)
    (case k2 => k_is)
    (case a3 => k_is)
    (case l3 => k_is)
    (case c3 => k_is)
    (case k3 => k_is)
    (case a4 => k_is)
    (case l4 => k_is)
    (case c4 => k_is)
    (case k4 => k_is)
    (case a5 => k_is)
    (case l5 => k_is)
    (case c5 => k_is)
    (case k5 => k_is)
    (case a6 => k_is)
    (case l6 => k_is)
    (case c6 => k_is)
    (case k6 => k_is)
    (case a7 => k_is)
    (case l7 => k_is)
    (case c7 => k_is)
    (case k7 => k_is)
    (case a8 => k_is)
    (case l8 => k_is)
    (case c8 => k_is)
    (case k8 => k_is)
    (case a9 => k_is)
    (case l9 => k_is)
    (case c9 => k_is)
    (case k9 => k_is)
    (case a10 => k_is)
    (case l10 => k_is)
    (case c10 => k_is)
    (case k10 => k_is)
    (case a11 => k_is)
    (case l11 => k_is)
    (case c11 => k_is)
    (case k11 => k_is)
    (case a12 => k_is)
    (case l12 => k_is)
    (case c12 => k_is)
    (case k12 => k_is)
    (case a13 => k_is)
    (case l13 => k_is)
    (case c13 => k_is)
    (case k13 => k_is)
    (case a14 => k_is)
    (case l14 => k_is)
    (case c14 => k_is)
    (case k14 => k_is)
    (case a15 => k_is)
    (case l15 => k_is)
    (case c15 => k_is)
    (case k15 => k_is)
    (case a16 => k_is)
    (case l16 => k_is)
    (case c16 => k_is)
    (case k16 => k_is)
    (case a17 => k_is)
    (case l17 => k_is)
    (case c17 => k_is)
    (case k17 => k_is)
    (case a18 => k_is)
    (case l18 => k_is)
    (case c18 => k_is)
    (case k18 => k_is)
    (case a19 => k_is)
    (case l19 => k_is)
    (case c19 => k_is)
    (case k19 => k_is)
    (case a20 => k_is)
    (case l20 => k_is)
    (case c20 => k_is)
    (case k20 => k_is)
    (case a21 => k_is)
    (case l21 => k_is)
    (case c21 => k_is)
    (case k21 => k_is)
    (case a22 => k_is)
    (case l22 => k_is)
    (case c22 => k_is)
    (case k22 => k_is)
    (case z_abs => k_is)
    (case z_bool => k_is)
    (case z_int => k_is)
    (case z_isinstance => k_is)
    (case z_len => k_is)
    (case z_max => k_is)
    (case z_min => k_is)
    (case z_range => k_is)
    (case z_repr => k_is)
    (case z_set => k_is)
    (case z_sorted => k_is)
    (case z_str => k_is)
    (case z_sum => k_is)
    (case z_tuple => k_is)
    (case z_zip => k_is)
    (case g_COUNTS => k_is)
    (case g_LIMIT => k_is)
    (case g_MAX_PLACE => k_is)
    (case g_PLAN => k_is)
